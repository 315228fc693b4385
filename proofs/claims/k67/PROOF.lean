import PyProof.Rows.All
import Wide.All
import OpenK.AllK
import Wide.FinOn
import HandS.ForMost
import KE.KDictKeyed
import KE.KeyNested
import HandS.CallSlots
import HandS.Wide
import HandS.TupAny
import HandS.TupLe
import HandS.Flow
import HandS.IsInst
import HandS.Deep
import HandS.TupMul
import HandS.Zip
import HandS.Style
import HandS.RaiseMore
import KE.DataCmp
import KE.SortData
import KE.DataMinMax
import PyProof.ReprRoads
import PyProof.CallFns
import HandS.Iter
import HandS.Comp
import HandS.Ends
import HandS.Codes
import HandS.Words
import HandS.More
import PyProof.ReprLen
import PyProof.Rows.ReprOcc
import PySem.Challenge.RW_hillandwater_k67_whole_settled_lands_of
set_option Elab.async false
set_option linter.all false
set_option maxRecDepth 100000
set_option maxHeartbeats 0
namespace Pv
open PySem PySem.Spec PyProof.Rows L2

/-- a value as a tree; the flag of a list or dict: it hangs from this place alone and may be changed -/
inductive PV where
  | non | bl (b : Bool) | int (i : Int) | str (s : Str) | ref (a : Addr) | ty (n : String)
  | tup (xs : List PV) | lst (o : Bool) (xs : List PV) | dct (o : Bool) (ks vs : List PV)
  /-- a list that is not ours (the script): read, never changed -/
  | frl (xs : List PV)

namespace PV
mutual
def beq : PV → PV → Bool
  | .non, .non => true
  | .bl a, .bl b => a == b
  | .int a, .int b => decide (a = b)
  | .str a, .str b => decide (a = b)
  | .ref a, .ref b => decide (a = b)
  | .ty a, .ty b => decide (a = b)
  | .tup a, .tup b => beqs a b
  | .frl a, .frl b => beqs a b
  | .lst o a, .lst o' b => (o == o') && beqs a b
  | .dct o k v, .dct o' k' v' => (o == o') && beqs k k' && beqs v v'
  | _, _ => false
def beqs : List PV → List PV → Bool
  | [], [] => true
  | a :: as, b :: bs => beq a b && beqs as bs
  | _, _ => false
end
mutual
theorem beq_self : ∀ a : PV, beq a a = true
  | .non => rfl
  | .bl a => by simp [beq]
  | .int a => by simp [beq]
  | .str a => by simp [beq]
  | .ref a => by simp [beq]
  | .ty a => by simp [beq]
  | .tup a => by simp [beq, beqs_self a]
  | .frl a => by simp [beq, beqs_self a]
  | .lst o a => by simp [beq, beqs_self a]
  | .dct o k v => by simp [beq, beqs_self k, beqs_self v]
theorem beqs_self : ∀ a : List PV, beqs a a = true
  | [] => rfl
  | a :: as => by simp [beqs, beq_self a, beqs_self as]
end
mutual
theorem eq_of_beq : ∀ a b : PV, beq a b = true → a = b
  | .non, b, h => by cases b <;> simp [beq] at h; rfl
  | .bl a, b, h => by cases b <;> simp [beq] at h; rw [h]
  | .int a, b, h => by cases b <;> simp [beq] at h; rw [h]
  | .str a, b, h => by cases b <;> simp [beq] at h; rw [h]
  | .ref a, b, h => by cases b <;> simp [beq] at h; rw [h]
  | .ty a, b, h => by cases b <;> simp [beq] at h; rw [h]
  | .tup a, b, h => by
    cases b <;> simp [beq] at h
    rw [eqs_of_beqs _ _ h]
  | .frl a, b, h => by
    cases b <;> simp [beq] at h
    rw [eqs_of_beqs _ _ h]
  | .lst o a, b, h => by
    cases b <;> simp [beq] at h
    rw [h.1, eqs_of_beqs _ _ h.2]
  | .dct o k v, b, h => by
    cases b <;> simp [beq] at h
    rw [h.1.1, eqs_of_beqs _ _ h.1.2, eqs_of_beqs _ _ h.2]
theorem eqs_of_beqs : ∀ a b : List PV, beqs a b = true → a = b
  | [], [], _ => rfl
  | [], _ :: _, h => by simp [beqs] at h
  | _ :: _, [], h => by simp [beqs] at h
  | a :: as, b :: bs, h => by
    simp [beqs] at h
    rw [eq_of_beq _ _ h.1, eqs_of_beqs _ _ h.2]
end
instance : DecidableEq PV := fun a b => if h : beq a b = true then .isTrue (eq_of_beq a b h) else .isFalse fun e => h (e ▸ beq_self a)

/-! frozen: no flag is set -/
mutual
def fz : PV → Bool
  | .tup xs => fzs xs
  | .frl xs => fzs xs
  | .lst o xs => !o && fzs xs
  | .dct o ks vs => !o && fzs ks && fzs vs
  | _ => true
def fzs : List PV → Bool
  | [] => true
  | x :: xs => fz x && fzs xs
end
mutual
def frz : PV → PV
  | .tup xs => .tup (frzs xs)
  | .frl xs => .frl (frzs xs)
  | .lst _ xs => .lst false (frzs xs)
  | .dct _ ks vs => .dct false (frzs ks) (frzs vs)
  | .non => .non | .bl b => .bl b | .int i => .int i | .str s => .str s | .ref a => .ref a | .ty n => .ty n
def frzs : List PV → List PV
  | [] => []
  | x :: xs => frz x :: frzs xs
end
mutual
theorem frz_of_fz : ∀ x : PV, fz x = true → frz x = x
  | .tup xs, h => by rw [frz, frzs_of_fzs xs (by simpa [fz] using h)]
  | .frl xs, h => by rw [frz, frzs_of_fzs xs (by simpa [fz] using h)]
  | .lst o xs, h => by
    simp [fz] at h
    rw [frz, frzs_of_fzs xs h.2, h.1]
  | .dct o ks vs, h => by
    simp [fz] at h
    rw [frz, frzs_of_fzs ks h.1.2, frzs_of_fzs vs h.2, h.1.1]
  | .non, _ => rfl
  | .bl _, _ => rfl
  | .int _, _ => rfl
  | .str _, _ => rfl
  | .ref _, _ => rfl
  | .ty _, _ => rfl
theorem frzs_of_fzs : ∀ xs : List PV, fzs xs = true → frzs xs = xs
  | [], _ => rfl
  | x :: xs, h => by
    simp [fzs] at h
    rw [frzs, frz_of_fz x h.1, frzs_of_fzs xs h.2]
end
mutual
theorem fz_frz : ∀ x : PV, fz (frz x) = true
  | .tup xs => by simp [frz, fz, fzs_frzs xs]
  | .frl xs => by simp [frz, fz, fzs_frzs xs]
  | .lst o xs => by simp [frz, fz, fzs_frzs xs]
  | .dct o ks vs => by simp [frz, fz, fzs_frzs ks, fzs_frzs vs]
  | .non => rfl
  | .bl _ => rfl
  | .int _ => rfl
  | .str _ => rfl
  | .ref _ => rfl
  | .ty _ => rfl
theorem fzs_frzs : ∀ xs : List PV, fzs (frzs xs) = true
  | [] => rfl
  | x :: xs => by simp [frzs, fzs, fz_frz x, fzs_frzs xs]
end
theorem fzs_append : ∀ xs ys : List PV, fzs (xs ++ ys) = (fzs xs && fzs ys)
  | [], ys => by simp [fzs]
  | x :: xs, ys => by simp [fzs, fzs_append xs ys, Bool.and_assoc]
theorem fzs_mem : ∀ {xs : List PV} {x : PV}, fzs xs = true → x ∈ xs → fz x = true
  | y :: ys, x, h, hm => by
    simp [fzs] at h
    rcases List.mem_cons.mp hm with rfl | hm
    · exact h.1
    · exact fzs_mem h.2 hm
theorem fzs_of : ∀ {xs : List PV}, (∀ x ∈ xs, fz x = true) → fzs xs = true
  | [], _ => rfl
  | x :: xs, h => by simp [fzs, h x (by simp), fzs_of (xs := xs) fun y hy => h y (by simp [hy])]
end PV

abbrev Path := List Nat
abbrev Lab := Addr → Option Path

/-! ### dicts in the abstract heap -/
/-! a key of tuples as the nested key of the library -/
mutual
def nk : PV → Option NestedKey
  | .non => some .none
  | .bl b => some (.num (if b = true then 1 else 0))
  | .int i => some (.num i)
  | .str s => some (.text s)
  | .tup xs => (nks xs).map .tup
  | _ => none
def nks : List PV → Option (List NestedKey)
  | [] => some []
  | x :: xs => match nk x, nks xs with
    | some a, some b => some (a :: b)
    | _, _ => none
end

section
variable (P : Program) (w : World)
/-- a dict whose keys are tuples (nested), its entries: key, the key's tuple, value -/
def DTO (a : Addr) (xs : List (NestedKey × Addr × V)) : HO := .ext fun h => ∃ ys : List (NestedKey × Addr × Value),
  Paired (fun (p : NestedKey × Addr × V) (q : NestedKey × Addr × Value) => p.1 = q.1 ∧ p.2.1 = q.2.1 ∧ RelV p.2.2 q.2.2) xs ys ∧
  ∃ o es ep, h.get? a = some o ∧ o.ExactDict ∧ o.data = .dict es ep ∧ es.toList = ys.map (entryOfKey (nestedKind P w)) ∧ (ys.map (·.1)).Nodup
/-- a dict: its keys' values, its values, with the keys as trees -/
def DctR (H : Hp) (a : Addr) (ks : List PV) (kes ves : List V) : Prop :=
  (∃ kvs : List (Key × V), H a = some (.dK kvs) ∧ (kvs.map (·.1)).Nodup ∧ kes = kvs.map (fun e => kV e.1) ∧ ves = kvs.map (·.2)) ∨
  (∃ xs : List (NestedKey × Addr × V), H a = some (DTO P w a xs) ∧ (xs.map (·.1)).Nodup ∧ (a == sysModules) = false ∧ kes = xs.map (fun e => .ref e.2.1) ∧ ves = xs.map (·.2.2) ∧ nks ks = some (xs.map (·.1)))
theorem DctR.mono {H H' : Hp} {a : Addr} {ks : List PV} {kes ves : List V} (h : DctR P w H a ks kes ves) (k : ∀ o, H a = some o → H' a = some o) : DctR P w H' a ks kes ves := by
  rcases h with ⟨kvs, e, r⟩ | ⟨xs, e, r⟩
  · exact .inl ⟨kvs, k _ e, r⟩
  · exact .inr ⟨xs, k _ e, r⟩

/-! ### what a value is, in a part F of the heap that stays -/
variable (K : PySem.W.Frag)
mutual
def RepF (F : Hp) : PV → V → Prop
  | .non, v => v = .non
  | .bl b, v => v = .bl b
  | .int i, v => v = .int i
  | .str s, v => v = .str s
  | .ref a, v => v = .ref a
  | .ty n, v => v = .ty n
  | .tup xs, v => ∃ a vs, v = .ref a ∧ SqT K F a vs ∧ RepFs F xs vs
  | .frl xs, v => ∃ a vs, v = .ref a ∧ SqL K F a vs ∧ RepFs F xs vs
  | .lst o xs, v => o = false ∧ ∃ a vs, v = .ref a ∧ F a = some (.lst vs) ∧ RepFs F xs vs
  | .dct o ks xs, v => o = false ∧ ∃ a kes ves, v = .ref a ∧ DctR P w F a ks kes ves ∧ RepFs F ks kes ∧ RepFs F xs ves
def RepFs (F : Hp) : List PV → List V → Prop
  | [], vs => vs = []
  | x :: xs, vs => ∃ v r, vs = v :: r ∧ RepF F x v ∧ RepFs F xs r
end
/-! .. and with places that hang from one place alone, labelled by L -/
mutual
def RepO (F H : Hp) (L : Lab) : Path → PV → V → Prop
  | p, .lst true xs, v => ∃ a vs, v = .ref a ∧ L a = some p ∧ H a = some (.lst vs) ∧ RepOs F H L p 0 xs vs
  | p, .dct true ks xs, v => ∃ a kes ves, v = .ref a ∧ L a = some p ∧ DctR P w H a ks kes ves ∧ RepFs P w K F ks kes ∧ RepOs F H L p 0 xs ves
  | _, .lst false xs, v => RepF P w K F (.lst false xs) v
  | _, .dct false ks xs, v => RepF P w K F (.dct false ks xs) v
  | _, .tup xs, v => RepF P w K F (.tup xs) v
  | _, .frl xs, v => RepF P w K F (.frl xs) v
  | _, .non, v => v = .non
  | _, .bl b, v => v = .bl b
  | _, .int i, v => v = .int i
  | _, .str s, v => v = .str s
  | _, .ref a, v => v = .ref a
  | _, .ty n, v => v = .ty n
def RepOs (F H : Hp) (L : Lab) : Path → Nat → List PV → List V → Prop
  | _, _, [], vs => vs = []
  | p, i, x :: xs, vs => ∃ v r, vs = v :: r ∧ RepO F H L (p ++ [i]) x v ∧ RepOs F H L p (i + 1) xs r
end
end

section
variable {P : Program} {w : World} {K : PySem.W.Frag} {F F' H H' : Hp} {L L' : Lab}
theorem SqL.mono {a : Addr} {xs : List V} (k : Same F F') (h : SqL K F a xs) : SqL K F' a xs := k.seq h
theorem SqT.mono {a : Addr} {xs : List V} (k : Same F F') (h : SqT K F a xs) : SqT K F' a xs := by
  rcases h with (h | ⟨o, h⟩) | h
  · exact .inl (.inl (k _ _ h))
  · exact .inl (.inr ⟨o, k _ _ h⟩)
  · exact .inr h
mutual
theorem RepF.mono (k : Same F F') : ∀ (x : PV) (v : V), RepF P w K F x v → RepF P w K F' x v
  | .tup xs, v, h => by
    rw [RepF] at h ⊢
    obtain ⟨a, vs, e, s, r⟩ := h
    exact ⟨a, vs, e, SqT.mono k s, RepFs.mono k xs vs r⟩
  | .frl xs, v, h => by
    rw [RepF] at h ⊢
    obtain ⟨a, vs, e, s, r⟩ := h
    exact ⟨a, vs, e, SqL.mono k s, RepFs.mono k xs vs r⟩
  | .lst o xs, v, h => by
    rw [RepF] at h ⊢
    obtain ⟨eo, a, vs, e, s, r⟩ := h
    exact ⟨eo, a, vs, e, k _ _ s, RepFs.mono k xs vs r⟩
  | .dct o ks xs, v, h => by
    rw [RepF] at h ⊢
    obtain ⟨eo, a, kes, ves, e, s, r, r2⟩ := h
    exact ⟨eo, a, kes, ves, e, DctR.mono P w s fun o e => k _ _ e, RepFs.mono k ks kes r, RepFs.mono k xs ves r2⟩
  | .non, v, h => h
  | .bl _, v, h => h
  | .int _, v, h => h
  | .str _, v, h => h
  | .ref _, v, h => h
  | .ty _, v, h => h
theorem RepFs.mono (k : Same F F') : ∀ (xs : List PV) (vs : List V), RepFs P w K F xs vs → RepFs P w K F' xs vs
  | [], vs, h => h
  | x :: xs, vs, h => by
    rw [RepFs] at h ⊢
    obtain ⟨v, r, e, h1, h2⟩ := h
    exact ⟨v, r, e, RepF.mono k x v h1, RepFs.mono k xs r h2⟩
end
mutual
theorem RepF.fz : ∀ (x : PV) (v : V), RepF P w K F x v → x.fz = true
  | .tup xs, v, h => by
    rw [RepF] at h
    obtain ⟨a, vs, e, s, r⟩ := h
    simp [PV.fz, RepFs.fzs xs vs r]
  | .frl xs, v, h => by
    rw [RepF] at h
    obtain ⟨a, vs, e, s, r⟩ := h
    simp [PV.fz, RepFs.fzs xs vs r]
  | .lst o xs, v, h => by
    rw [RepF] at h
    obtain ⟨eo, a, vs, e, s, r⟩ := h
    simp [PV.fz, eo, RepFs.fzs xs vs r]
  | .dct o ks xs, v, h => by
    rw [RepF] at h
    obtain ⟨eo, a, kes, ves, e, s, r, r2⟩ := h
    simp [PV.fz, eo, RepFs.fzs ks kes r, RepFs.fzs xs ves r2]
  | .non, v, h => rfl
  | .bl _, v, h => rfl
  | .int _, v, h => rfl
  | .str _, v, h => rfl
  | .ref _, v, h => rfl
  | .ty _, v, h => rfl
theorem RepFs.fzs : ∀ (xs : List PV) (vs : List V), RepFs P w K F xs vs → PV.fzs xs = true
  | [], vs, h => rfl
  | x :: xs, vs, h => by
    rw [RepFs] at h
    obtain ⟨v, r, e, h1, h2⟩ := h
    simp [PV.fzs, RepF.fz x v h1, RepFs.fzs xs r h2]
end
theorem RepFs.length : ∀ {xs : List PV} {vs : List V}, RepFs P w K F xs vs → xs.length = vs.length
  | [], vs, h => by rw [RepFs] at h; rw [h]; rfl
  | x :: xs, vs, h => by
    rw [RepFs] at h
    obtain ⟨v, r, rfl, h1, h2⟩ := h
    simp [RepFs.length h2]
theorem RepFs.get : ∀ {xs : List PV} {vs : List V} {i : Nat} {x : PV}, RepFs P w K F xs vs → xs[i]? = some x → ∃ v, vs[i]? = some v ∧ RepF P w K F x v
  | [], vs, i, x, h, e => by simp at e
  | y :: xs, vs, i, x, h, e => by
    rw [RepFs] at h
    obtain ⟨v, r, rfl, h1, h2⟩ := h
    cases i with
    | zero =>
      simp at e
      subst e
      exact ⟨v, by simp, h1⟩
    | succ i =>
      obtain ⟨u, e1, e2⟩ := RepFs.get (i := i) h2 (by simpa using e)
      exact ⟨u, by simpa using e1, e2⟩
theorem RepFs.getV : ∀ {xs : List PV} {vs : List V} {i : Nat} {v : V}, RepFs P w K F xs vs → vs[i]? = some v → ∃ x, xs[i]? = some x ∧ RepF P w K F x v := fun {xs vs i v} h e => by
  have hl := h.length
  have hi : i < xs.length := by rw [hl]; exact (List.getElem?_eq_some_iff.mp e).1
  obtain ⟨u, e1, e2⟩ := h.get (List.getElem?_eq_getElem hi)
  rw [e] at e1
  cases e1
  exact ⟨_, List.getElem?_eq_getElem hi, e2⟩
theorem RepFs.append : ∀ {xs ys : List PV} {vs us : List V}, RepFs P w K F xs vs → RepFs P w K F ys us → RepFs P w K F (xs ++ ys) (vs ++ us)
  | [], ys, vs, us, h, h' => by
    rw [RepFs] at h
    subst h
    exact h'
  | x :: xs, ys, vs, us, h, h' => by
    rw [RepFs] at h
    obtain ⟨v, r, rfl, h1, h2⟩ := h
    show RepFs P w K F (x :: (xs ++ ys)) (v :: (r ++ us))
    rw [RepFs]
    exact ⟨v, _, rfl, h1, RepFs.append h2 h'⟩
theorem RepFs.of : ∀ {xs : List PV} {vs : List V}, xs.length = vs.length → (∀ (i : Nat) x v, xs[i]? = some x → vs[i]? = some v → RepF P w K F x v) → RepFs P w K F xs vs
  | [], vs, hl, h => by
    rw [RepFs]
    exact List.length_eq_zero_iff.mp hl.symm
  | x :: xs, [], hl, h => by simp at hl
  | x :: xs, v :: vs, hl, h => by
    rw [RepFs]
    exact ⟨v, vs, rfl, h 0 x v (by simp) (by simp), RepFs.of (by simpa using hl) fun i y u e1 e2 => h (i + 1) y u (by simpa using e1) (by simpa using e2)⟩
/-! one that is frozen -/
theorem RepO.toF : ∀ {p : Path} {x : PV} {v : V}, x.fz = true → RepO P w K F H L p x v → RepF P w K F x v
  | p, .lst o xs, v, hz, h => by
    simp [PV.fz] at hz
    obtain ⟨rfl, _⟩ := hz
    rw [RepO] at h
    exact h
  | p, .dct o ks xs, v, hz, h => by
    simp [PV.fz] at hz
    obtain ⟨⟨rfl, _⟩, _⟩ := hz
    rw [RepO] at h
    exact h
  | p, .tup xs, v, hz, h => by rw [RepO] at h; exact h
  | p, .frl xs, v, hz, h => by rw [RepO] at h; exact h
  | p, .non, v, hz, h => h
  | p, .bl _, v, hz, h => h
  | p, .int _, v, hz, h => h
  | p, .str _, v, hz, h => h
  | p, .ref _, v, hz, h => h
  | p, .ty _, v, hz, h => h
theorem RepO.ofF : ∀ {p : Path} {x : PV} {v : V}, RepF P w K F x v → RepO P w K F H L p x v
  | p, .lst o xs, v, h => by
    have h' := h
    rw [RepF] at h
    obtain ⟨rfl, _⟩ := h
    rw [RepO]
    exact h'
  | p, .dct o ks xs, v, h => by
    have h' := h
    rw [RepF] at h
    obtain ⟨rfl, _⟩ := h
    rw [RepO]
    exact h'
  | p, .tup xs, v, h => by rw [RepO]; exact h
  | p, .frl xs, v, h => by rw [RepO]; exact h
  | p, .non, v, h => h
  | p, .bl _, v, h => h
  | p, .int _, v, h => h
  | p, .str _, v, h => h
  | p, .ref _, v, h => h
  | p, .ty _, v, h => h
/-! carried over -/
mutual
theorem RepO.tr (k : Same F F') : ∀ (x : PV) (p p' : Path) (v : V), (∀ a s, L a = some (p ++ s) → L' a = some (p' ++ s) ∧ H' a = H a) → RepO P w K F H L p x v → RepO P w K F' H' L' p' x v
  | .lst true xs, p, p', v, m, h => by
    rw [RepO] at h ⊢
    obtain ⟨a, vs, e, l, e2, r⟩ := h
    have z := m a [] (by simpa using l)
    exact ⟨a, vs, e, by simpa using z.1, by rw [z.2]; exact e2, RepOs.tr k xs p p' 0 vs m r⟩
  | .dct true ks xs, p, p', v, m, h => by
    rw [RepO] at h ⊢
    obtain ⟨a, kes, ves, e, l, e2, r, r2⟩ := h
    have z := m a [] (by simpa using l)
    exact ⟨a, kes, ves, e, by simpa using z.1, DctR.mono P w e2 fun o e => by rw [z.2]; exact e, RepFs.mono k _ _ r, RepOs.tr k xs p p' 0 ves m r2⟩
  | .lst false xs, p, p', v, m, h => by
    rw [RepO] at h ⊢
    exact RepF.mono k _ _ h
  | .dct false ks xs, p, p', v, m, h => by
    rw [RepO] at h ⊢
    exact RepF.mono k _ _ h
  | .tup xs, p, p', v, m, h => by
    rw [RepO] at h ⊢
    exact RepF.mono k _ _ h
  | .frl xs, p, p', v, m, h => by
    rw [RepO] at h ⊢
    exact RepF.mono k _ _ h
  | .non, p, p', v, m, h => h
  | .bl _, p, p', v, m, h => h
  | .int _, p, p', v, m, h => h
  | .str _, p, p', v, m, h => h
  | .ref _, p, p', v, m, h => h
  | .ty _, p, p', v, m, h => h
theorem RepOs.tr (k : Same F F') : ∀ (xs : List PV) (p p' : Path) (i : Nat) (vs : List V), (∀ a s, L a = some (p ++ s) → L' a = some (p' ++ s) ∧ H' a = H a) → RepOs P w K F H L p i xs vs → RepOs P w K F' H' L' p' i xs vs
  | [], p, p', i, vs, m, h => h
  | x :: xs, p, p', i, vs, m, h => by
    rw [RepOs] at h ⊢
    obtain ⟨v, r, e, h1, h2⟩ := h
    refine ⟨v, r, e, RepO.tr k x (p ++ [i]) (p' ++ [i]) v (fun a s l => ?_) h1, RepOs.tr k xs p p' (i + 1) r m h2⟩
    rw [List.append_assoc] at l ⊢
    exact m a ([i] ++ s) l
end
/-! frozen from now on -/
mutual
theorem RepO.freeze (k : Same F F') : ∀ (x : PV) (p : Path) (v : V), (∀ a s o, L a = some (p ++ s) → H a = some o → F' a = some o) → RepO P w K F H L p x v → RepF P w K F' x.frz v
  | .lst true xs, p, v, m, h => by
    rw [RepO] at h
    obtain ⟨a, vs, e, l, e2, r⟩ := h
    rw [PV.frz, RepF]
    exact ⟨rfl, a, vs, e, m a [] _ (by simpa using l) e2, RepOs.freeze k xs p 0 vs m r⟩
  | .dct true ks xs, p, v, m, h => by
    rw [RepO] at h
    obtain ⟨a, kes, ves, e, l, e2, r, r2⟩ := h
    rw [PV.frz, RepF, PV.frzs_of_fzs ks (RepFs.fzs _ _ r)]
    exact ⟨rfl, a, kes, ves, e, DctR.mono P w e2 fun o e => m a [] o (by simpa using l) e, RepFs.mono k _ _ r, RepOs.freeze k xs p 0 ves m r2⟩
  | .lst false xs, p, v, m, h => by
    rw [RepO] at h
    rw [PV.frz_of_fz _ (RepF.fz _ _ h)]
    exact RepF.mono k _ _ h
  | .dct false ks xs, p, v, m, h => by
    rw [RepO] at h
    rw [PV.frz_of_fz _ (RepF.fz _ _ h)]
    exact RepF.mono k _ _ h
  | .tup xs, p, v, m, h => by
    rw [RepO] at h
    rw [PV.frz_of_fz _ (RepF.fz _ _ h)]
    exact RepF.mono k _ _ h
  | .frl xs, p, v, m, h => by
    rw [RepO] at h
    rw [PV.frz_of_fz _ (RepF.fz _ _ h)]
    exact RepF.mono k _ _ h
  | .non, p, v, m, h => h
  | .bl _, p, v, m, h => h
  | .int _, p, v, m, h => h
  | .str _, p, v, m, h => h
  | .ref _, p, v, m, h => h
  | .ty _, p, v, m, h => h
theorem RepOs.freeze (k : Same F F') : ∀ (xs : List PV) (p : Path) (i : Nat) (vs : List V), (∀ a s o, L a = some (p ++ s) → H a = some o → F' a = some o) → RepOs P w K F H L p i xs vs → RepFs P w K F' (PV.frzs xs) vs
  | [], p, i, vs, m, h => by rw [PV.frzs, RepFs]; exact h
  | x :: xs, p, i, vs, m, h => by
    rw [RepOs] at h
    obtain ⟨v, r, e, h1, h2⟩ := h
    rw [PV.frzs, RepFs]
    refine ⟨v, r, e, RepO.freeze k x (p ++ [i]) v (fun a s o l e => ?_) h1, RepOs.freeze k xs p (i + 1) r m h2⟩
    rw [List.append_assoc] at l
    exact m a _ o l e
end
theorem RepOs.ofF : ∀ {p : Path} {i : Nat} {xs : List PV} {vs : List V}, RepFs P w K F xs vs → RepOs P w K F H L p i xs vs
  | p, i, [], vs, h => by rw [RepFs] at h; rw [RepOs]; exact h
  | p, i, x :: xs, vs, h => by
    rw [RepFs] at h
    obtain ⟨v, r, e, h1, h2⟩ := h
    rw [RepOs]
    exact ⟨v, r, e, RepO.ofF h1, RepOs.ofF h2⟩
theorem RepOs.toF : ∀ {p : Path} {i : Nat} {xs : List PV} {vs : List V}, PV.fzs xs = true → RepOs P w K F H L p i xs vs → RepFs P w K F xs vs
  | p, i, [], vs, _, h => by rw [RepOs] at h; rw [RepFs]; exact h
  | p, i, x :: xs, vs, hz, h => by
    simp [PV.fzs] at hz
    rw [RepOs] at h
    obtain ⟨v, r, e, h1, h2⟩ := h
    rw [RepFs]
    exact ⟨v, r, e, RepO.toF hz.1 h1, RepOs.toF hz.2 h2⟩
theorem RepOs.length : ∀ {p : Path} {i : Nat} {xs : List PV} {vs : List V}, RepOs P w K F H L p i xs vs → xs.length = vs.length
  | p, i, [], vs, h => by rw [RepOs] at h; rw [h]; rfl
  | p, i, x :: xs, vs, h => by
    rw [RepOs] at h
    obtain ⟨v, r, rfl, h1, h2⟩ := h
    simp [RepOs.length h2]
theorem RepOs.get : ∀ {p : Path} {j i : Nat} {xs : List PV} {vs : List V} {x : PV}, RepOs P w K F H L p j xs vs → xs[i]? = some x → ∃ v, vs[i]? = some v ∧ RepO P w K F H L (p ++ [j + i]) x v
  | p, j, i, [], vs, x, h, e => by simp at e
  | p, j, i, y :: xs, vs, x, h, e => by
    rw [RepOs] at h
    obtain ⟨v, r, rfl, h1, h2⟩ := h
    cases i with
    | zero =>
      simp at e
      subst e
      exact ⟨v, by simp, h1⟩
    | succ i =>
      obtain ⟨u, e1, e2⟩ := RepOs.get (i := i) h2 (by simpa using e)
      refine ⟨u, by simpa using e1, ?_⟩
      rw [show j + (i + 1) = j + 1 + i by omega]
      exact e2
theorem RepOs.of : ∀ {p : Path} {j : Nat} {xs : List PV} {vs : List V}, xs.length = vs.length → (∀ (i : Nat) x v, xs[i]? = some x → vs[i]? = some v → RepO P w K F H L (p ++ [j + i]) x v) → RepOs P w K F H L p j xs vs
  | p, j, [], vs, hl, h => by
    rw [RepOs]
    exact List.length_eq_zero_iff.mp hl.symm
  | p, j, x :: xs, [], hl, h => by simp at hl
  | p, j, x :: xs, v :: vs, hl, h => by
    rw [RepOs]
    refine ⟨v, vs, rfl, h 0 x v (by simp) (by simp), RepOs.of (by simpa using hl) fun i y u e1 e2 => ?_⟩
    rw [show j + 1 + i = j + (i + 1) by omega]
    exact h (i + 1) y u (by simpa using e1) (by simpa using e2)
end
end Pv
namespace Pv
open PySem PySem.Spec PyProof.Rows L2

/-- what a local name (or an intermediate result) holds: nothing, a value, another name for a place within a slot's value -/
inductive Sl where
  | un | val (pv : PV) | al (j : Nat) (p : Path)
  deriving DecidableEq
abbrev PEnv := List Sl

def PV.at : Path → PV → Option PV
  | [], x => some x
  | i :: p, .lst _ xs => match xs[i]? with | some x => PV.at p x | none => none
  | i :: p, .dct _ _ xs => match xs[i]? with | some x => PV.at p x | none => none
  | _ :: _, _ => none
def PV.put : Path → PV → PV → PV
  | [], _, y => y
  | i :: p, .lst o xs, y => .lst o (xs.modify i fun x => PV.put p x y)
  | i :: p, .dct o ks xs, y => .dct o ks (xs.modify i fun x => PV.put p x y)
  | _ :: _, x, _ => x
theorem at_lst {i : Nat} {q : Path} {o : Bool} {xs : List PV} : PV.at (i :: q) (.lst o xs) = (match xs[i]? with | some x => PV.at q x | none => none) := by rw [PV.at]
theorem at_dct {i : Nat} {q : Path} {o : Bool} {ks xs : List PV} : PV.at (i :: q) (.dct o ks xs) = (match xs[i]? with | some x => PV.at q x | none => none) := by rw [PV.at]
theorem put_lst {i : Nat} {q : Path} {o : Bool} {xs : List PV} {y : PV} : PV.put (i :: q) (.lst o xs) y = .lst o (xs.modify i fun x => PV.put q x y) := by rw [PV.put]
theorem put_dct {i : Nat} {q : Path} {o : Bool} {ks xs : List PV} {y : PV} : PV.put (i :: q) (.dct o ks xs) y = .dct o ks (xs.modify i fun x => PV.put q x y) := by rw [PV.put]
def look (env : PEnv) (j : Nat) (p : Path) : Option PV := match env[j]? with
  | some (.val pv) => match PV.at p pv with
    | some q => if q.fz = true then none else some q
    | none => none
  | _ => none
def cont (env : PEnv) : Sl → Option PV
  | .val pv => some pv
  | .al j p => look env j p
  | .un => none

theorem look_some {env : PEnv} {j : Nat} {p : Path} {q : PV} (h : look env j p = some q) : ∃ pv, env[j]? = some (.val pv) ∧ pv.at p = some q ∧ q.fz = false := by
  unfold look at h
  split at h
  · rename_i pv e
    split at h
    · rename_i x e2
      split at h
      · cases h
      · rename_i hz
        cases h
        exact ⟨pv, e, e2, by simpa using hz⟩
    · cases h
  · cases h
theorem look_of {env : PEnv} {j : Nat} {p : Path} {pv q : PV} (e : env[j]? = some (.val pv)) (h : pv.at p = some q) (hz : q.fz = false) : look env j p = some q := by
  unfold look
  rw [e]
  simp only [h, hz]
  rfl

/-- does a label hang from the root r -/
def isR (r : Nat) : Option Path → Bool
  | some (x :: _) => x == r
  | _ => false
theorem isR_cons {r : Nat} {s : Path} : isR r (some (r :: s)) = true := by simp [isR]
theorem isR_ne {r x : Nat} {s : Path} (h : x ≠ r) : isR r (some (x :: s)) = false := by simp [isR, h]

section
variable (P : Program) (w : World) (K : PySem.W.Frag)
def Ent (env : PEnv) (F H : Hp) (L : Lab) (r : Nat) : Sl → V → Prop
  | .val pv, v => RepO P w K F H L [r] pv v
  | .al j p, v => ∀ q, look env j p = some q → RepO P w K F H L (2 * j :: p) q v
  | .un, _ => True

structure Rel (env tm : PEnv) (σ : L2.St) (τ : List V) (F H : Hp) (L : Lab) : Prop where
  fle : Same F H
  lf : ∀ a p, L a = some p → F a = none
  lh : ∀ a p, L a = some p → ∃ o, H a = some o
  len : env.length = σ.length
  slot : ∀ i e, env[i]? = some e → e ≠ .un → ∃ v, σ[i]? = some (some v) ∧ Ent P w K env F H L (2 * i) e v
  tlen : tm.length = τ.length
  tmp : ∀ i e v, tm[i]? = some e → τ[i]? = some v → Ent P w K env F H L (2 * i + 1) e v
  inj : ∀ a b q, L a = some q → L b = some q → a = b
  ali : ∀ (i : Nat) v j q, tm[i]? = some (.al j []) → τ[i]? = some v → look env j [] = some q → σ[j]? = some (some v)
end

section
variable {P : Program} {w : World} {K : PySem.W.Frag} {F F' H H' : Hp} {L L' : Lab} {env env' tm tm' : PEnv} {σ σ' : L2.St} {τ τ' : List V}

theorem RepO.path : ∀ {q : Path} {p : Path} {pv x : PV} {v : V}, RepO P w K F H L p pv v → pv.at q = some x → x.fz = false → ∃ u, RepO P w K F H L (p ++ q) x u
  | [], p, pv, x, v, h, e, z => by
    rw [PV.at] at e
    cases e
    exact ⟨v, by simpa using h⟩
  | i :: q, p, .lst o xs, x, v, h, e, z => by
    rw [PV.at] at e
    split at e
    · rename_i y ey
      have hy : y.fz = false := by
        cases hy : y.fz with
        | false => rfl
        | true =>
          have : ∀ (q : Path) (y x : PV), y.fz = true → y.at q = some x → x.fz = true := by
            intro q
            induction q with
            | nil => intro y x hz e; rw [PV.at] at e; cases e; exact hz
            | cons i q ih =>
              intro y x hz e
              cases y with
              | lst o ys =>
                rw [PV.at] at e
                split at e
                · rename_i y' ey'
                  simp [PV.fz] at hz
                  exact ih y' x (PV.fzs_mem hz.2 (List.mem_of_getElem? ey')) e
                · cases e
              | dct o ks ys =>
                rw [PV.at] at e
                split at e
                · rename_i y' ey'
                  simp [PV.fz] at hz
                  exact ih y' x (PV.fzs_mem hz.2 (List.mem_of_getElem? ey')) e
                · cases e
              | _ => simp [PV.at] at e
          rw [this q y x hy e] at z
          cases z
      cases o with
      | false =>
        rw [RepO] at h
        have := RepF.fz _ _ h
        simp [PV.fz] at this
        rw [PV.fzs_mem this (List.mem_of_getElem? ey)] at hy
        cases hy
      | true =>
        rw [RepO] at h
        obtain ⟨a, vs, _, _, _, r⟩ := h
        obtain ⟨u, _, hu⟩ := RepOs.get r ey
        obtain ⟨u', hu'⟩ := RepO.path (q := q) hu e z
        refine ⟨u', ?_⟩
        rw [Nat.zero_add, List.append_assoc] at hu'
        exact hu'
    · cases e
  | i :: q, p, .dct o ks xs, x, v, h, e, z => by
    rw [PV.at] at e
    split at e
    · rename_i y ey
      cases o with
      | false =>
        rw [RepO] at h
        have hz := RepF.fz _ _ h
        simp [PV.fz] at hz
        have hy := PV.fzs_mem hz.2 (List.mem_of_getElem? ey)
        have : ∀ (q : Path) (y x : PV), y.fz = true → y.at q = some x → x.fz = true := by
          intro q
          induction q with
          | nil => intro y x hz e; rw [PV.at] at e; cases e; exact hz
          | cons i q ih =>
            intro y x hz e
            cases y with
            | lst o ys =>
              rw [PV.at] at e
              split at e
              · rename_i y' ey'
                simp [PV.fz] at hz
                exact ih y' x (PV.fzs_mem hz.2 (List.mem_of_getElem? ey')) e
              · cases e
            | dct o ks ys =>
              rw [PV.at] at e
              split at e
              · rename_i y' ey'
                simp [PV.fz] at hz
                exact ih y' x (PV.fzs_mem hz.2 (List.mem_of_getElem? ey')) e
              · cases e
            | _ => simp [PV.at] at e
        rw [this q y x hy e] at z
        cases z
      | true =>
        rw [RepO] at h
        obtain ⟨a, kes, ves, _, _, _, _, r⟩ := h
        obtain ⟨u, _, hu⟩ := RepOs.get r ey
        obtain ⟨u', hu'⟩ := RepO.path (q := q) hu e z
        refine ⟨u', ?_⟩
        rw [Nat.zero_add, List.append_assoc] at hu'
        exact hu'
    · cases e
  | _ :: _, p, .non, x, v, h, e, z => by simp [PV.at] at e
  | _ :: _, p, .bl _, x, v, h, e, z => by simp [PV.at] at e
  | _ :: _, p, .int _, x, v, h, e, z => by simp [PV.at] at e
  | _ :: _, p, .str _, x, v, h, e, z => by simp [PV.at] at e
  | _ :: _, p, .ref _, x, v, h, e, z => by simp [PV.at] at e
  | _ :: _, p, .ty _, x, v, h, e, z => by simp [PV.at] at e
  | _ :: _, p, .tup _, x, v, h, e, z => by simp [PV.at] at e
  | _ :: _, p, .frl _, x, v, h, e, z => by simp [PV.at] at e

/-- an entry carried over: the labels under its root stay -/
theorem Ent.tr {r : Nat} {e : Sl} {v : V} (k : Same F F') (m : ∀ a x s, L a = some (x :: s) → x = r ∨ (∃ j p, e = .al j p ∧ x = 2 * j) → L' a = some (x :: s) ∧ H' a = H a)
    (hl : ∀ j p q, e = .al j p → look env' j p = some q → look env j p = some q) (h : Ent P w K env F H L r e v) : Ent P w K env' F' H' L' r e v := by
  cases e with
  | un => trivial
  | val pv => exact RepO.tr k pv [r] [r] v (fun a s l => m a r s l (.inl rfl)) h
  | al j p =>
    intro q hq
    exact RepO.tr k q (2 * j :: p) (2 * j :: p) v (fun a s l => m a (2 * j) (p ++ s) l (.inr ⟨j, p, rfl, rfl⟩)) (h q (hl j p q rfl hq))

/-- nothing changes but that more is frozen, untouched labels, heap elsewhere -/
theorem Rel.grow (R : Rel P w K env tm σ τ F H L) (k : Same F F') (fle : Same F' H') (lf : ∀ a p, L' a = some p → F' a = none) (lh : ∀ a p, L' a = some p → ∃ o, H' a = some o)
    (m : ∀ a x s, L a = some (x :: s) → (x % 2 = 1 → x < 2 * tm.length) → L' a = some (x :: s) ∧ H' a = H a) (inj : ∀ a b q, L' a = some q → L' b = some q → a = b) : Rel P w K env tm σ τ F' H' L' := by
  have go : ∀ {r : Nat} {e : Sl} {v : V}, (r % 2 = 1 → r < 2 * tm.length) → Ent P w K env F H L r e v → Ent P w K env F' H' L' r e v := fun {r e v} hr h => by
    cases e with
    | un => trivial
    | val pv => exact RepO.tr k pv [r] [r] v (fun a s l => m a r s l hr) h
    | al j p =>
      intro q hq
      exact RepO.tr k q (2 * j :: p) (2 * j :: p) v (fun a s l => m a (2 * j) (p ++ s) l (fun z => by omega)) (h q hq)
  refine ⟨fle, lf, lh, R.len, fun i e he hu => ?_, R.tlen, fun i e v he hv => ?_, inj, R.ali⟩
  · obtain ⟨v, hv, h⟩ := R.slot i e he hu
    exact ⟨v, hv, go (fun z => by omega) h⟩
  · have := (List.getElem?_eq_some_iff.mp he).1
    exact go (fun z => by omega) (R.tmp i e v he hv)

theorem Rel.push {e : Sl} {v : V} (R : Rel P w K env tm σ τ F H L) (h : Ent P w K env F H L (2 * tm.length + 1) e v) (ha : ∀ j q, e = .al j [] → look env j [] = some q → σ[j]? = some (some v) := by intro j q e; cases e) : Rel P w K env (tm ++ [e]) σ (τ ++ [v]) F H L := by
  have cut : ∀ {i : Nat} {e' : Sl} {v' : V}, (tm ++ [e])[i]? = some e' → (τ ++ [v])[i]? = some v' → (tm[i]? = some e' ∧ τ[i]? = some v') ∨ (e' = e ∧ v' = v) := fun {i e' v'} he hv => by
    by_cases hi : i < tm.length
    · rw [List.getElem?_append_left hi] at he
      rw [List.getElem?_append_left (by rw [← R.tlen]; exact hi)] at hv
      exact .inl ⟨he, hv⟩
    · rw [List.getElem?_append_right (by omega)] at he
      rw [List.getElem?_append_right (by rw [← R.tlen]; omega)] at hv
      have h0 : i - tm.length = 0 := by
        have := (List.getElem?_eq_some_iff.mp he).1
        simp at this
        omega
      rw [h0] at he
      rw [← R.tlen, h0] at hv
      simp at he hv
      exact .inr ⟨he.symm, hv.symm⟩
  exact ⟨R.fle, R.lf, R.lh, R.len, R.slot, by simp [R.tlen], fun i e' v' he hv => by
    by_cases hi : i < tm.length
    · rw [List.getElem?_append_left hi] at he
      rw [List.getElem?_append_left (by rw [← R.tlen]; exact hi)] at hv
      exact R.tmp i e' v' he hv
    · rw [List.getElem?_append_right (by omega)] at he
      rw [List.getElem?_append_right (by rw [← R.tlen]; omega)] at hv
      have h0 : i - tm.length = 0 := by
        have := (List.getElem?_eq_some_iff.mp he).1
        simp at this
        omega
      rw [h0] at he
      rw [← R.tlen, h0] at hv
      simp at he hv
      subst he hv
      have : i = tm.length := by omega
      subst this
      exact h, R.inj, fun i v' j q he hv hq => by
    rcases cut he hv with ⟨h1, h2⟩ | ⟨h1, h2⟩
    · exact R.ali i v' j q h1 h2 hq
    · rw [h2]; exact ha j q h1.symm hq⟩
theorem Rel.pushF {pv : PV} {v : V} (R : Rel P w K env tm σ τ F H L) (h : RepF P w K F pv v) : Rel P w K env (tm ++ [.val pv]) σ (τ ++ [v]) F H L := R.push (RepO.ofF h)
theorem Rel.pop {e : Sl} {v : V} (R : Rel P w K env (tm ++ [e]) σ (τ ++ [v]) F H L) : Rel P w K env tm σ τ F H L :=
  ⟨R.fle, R.lf, R.lh, R.len, R.slot, by have := R.tlen; simp at this; exact this, fun i e' v' he hv => R.tmp i e' v' (by rw [List.getElem?_append_left (List.getElem?_eq_some_iff.mp he).1]; exact he) (by rw [List.getElem?_append_left (List.getElem?_eq_some_iff.mp hv).1]; exact hv),
    R.inj, fun i v' j q he hv => R.ali i v' j q (by rw [List.getElem?_append_left (List.getElem?_eq_some_iff.mp he).1]; exact he) (by rw [List.getElem?_append_left (List.getElem?_eq_some_iff.mp hv).1]; exact hv)⟩
theorem Rel.top {e : Sl} {v : V} (R : Rel P w K env (tm ++ [e]) σ (τ ++ [v]) F H L) : Ent P w K env F H L (2 * tm.length + 1) e v := by
  have ht : tm.length = τ.length := R.pop.tlen
  exact R.tmp tm.length e v (by simp) (by rw [ht]; simp)
theorem Rel.popN : ∀ {es : PEnv} {vs : List V}, es.length = vs.length → Rel P w K env (tm ++ es) σ (τ ++ vs) F H L → Rel P w K env tm σ τ F H L := fun {es vs} hl R =>
  ⟨R.fle, R.lf, R.lh, R.len, R.slot, by have := R.tlen; simp at this; omega, fun i e' v' he hv => R.tmp i e' v' (by rw [List.getElem?_append_left (List.getElem?_eq_some_iff.mp he).1]; exact he) (by rw [List.getElem?_append_left (List.getElem?_eq_some_iff.mp hv).1]; exact hv),
    R.inj, fun i v' j q he hv => R.ali i v' j q (by rw [List.getElem?_append_left (List.getElem?_eq_some_iff.mp he).1]; exact he) (by rw [List.getElem?_append_left (List.getElem?_eq_some_iff.mp hv).1]; exact hv)⟩

/-- the content of an entry -/
theorem Ent.rep {r : Nat} {e : Sl} {v : V} {pv : PV} (h : Ent P w K env F H L r e v) (hc : cont env e = some pv) : ∃ p, RepO P w K F H L p pv v := by
  cases e with
  | un => cases hc
  | val q => cases hc; exact ⟨_, h⟩
  | al j p => exact ⟨_, h pv hc⟩

def upL (L : Lab) (a : Addr) (p : Path) : Lab := fun b => if b = a then some p else match L b, p with
  | some (x :: s), y :: _ => if x = y then none else some (x :: s)
  | o, _ => o
theorem upL_same {a : Addr} {p : Path} : upL L a p a = some p := by simp [upL]
theorem upL_off {a b : Addr} {x y : Nat} {s p : Path} (h : b ≠ a) (l : L b = some (x :: s)) (hx : x ≠ y) : upL L a (y :: p) b = some (x :: s) := by simp [upL, h, l, hx]
theorem upL_inv {a b : Addr} {y : Nat} {p q : Path} (h : b ≠ a) (e : upL L a (y :: p) b = some q) : L b = some q ∧ ∀ s, q ≠ y :: s := by
  unfold upL at e
  rw [if_neg h] at e
  cases e1 : L b with
  | none => rw [e1] at e; cases e
  | some z =>
    rw [e1] at e
    cases z with
    | nil => cases e; exact ⟨rfl, fun s z => by cases z⟩
    | cons x s =>
      dsimp only at e
      by_cases hx : x = y
      · rw [if_pos hx] at e; cases e
      · rw [if_neg hx] at e
        cases e
        exact ⟨rfl, fun s' z => by cases z; exact hx rfl⟩

/-- a new object that hangs from the new place alone -/
theorem Rel.alloc {a : Addr} {o : HO} {pv : PV} {v : V} (R : Rel P w K env tm σ τ F H L) (hn : H a = none)
    (h : RepO P w K F (upd H a o) (upL L a [2 * tm.length + 1]) [2 * tm.length + 1] pv v) : Rel P w K env (tm ++ [.val pv]) σ (τ ++ [v]) F (upd H a o) (upL L a [2 * tm.length + 1]) := by
  have ln : L a = none := by
    cases e : L a with
    | none => rfl
    | some p =>
      obtain ⟨o, ho⟩ := R.lh a p e
      rw [hn] at ho
      cases ho
  have fn : F a = none := by
    cases e : F a with
    | none => rfl
    | some o =>
      have := R.fle a o e
      rw [hn] at this
      cases this
  refine Rel.push (R.grow (Same.refl F) (fun b o' e => ?_) (fun b p e => ?_) (fun b p e => ?_) (fun b x s e hx => ?_) fun b c q hb hc => ?_) h
  · by_cases hb : b = a
    · subst hb
      rw [fn] at e
      cases e
    · rw [upd_ne hb]
      exact R.fle b o' e
  · by_cases hb : b = a
    · subst hb; exact fn
    · exact R.lf b p (upL_inv hb e).1
  · by_cases hb : b = a
    · subst hb; exact ⟨o, upd_same⟩
    · rw [upd_ne hb]
      exact R.lh b p (upL_inv hb e).1
  · by_cases hb : b = a
    · subst hb
      rw [ln] at e
      cases e
    · rw [upd_ne hb]
      exact ⟨upL_off hb e (by omega), rfl⟩
  · by_cases h1 : b = a
    · by_cases h2 : c = a
      · rw [h1, h2]
      · rw [h1, upL_same] at hb
        cases hb
        exact absurd rfl ((upL_inv h2 hc).2 [])
    · by_cases h2 : c = a
      · rw [h2, upL_same] at hc
        cases hc
        exact absurd rfl ((upL_inv h1 hb).2 [])
      · exact R.inj b c q (upL_inv h1 hb).1 (upL_inv h2 hc).1
/-- a new list with frozen items -/
theorem Rel.newL {a : Addr} {xs : List PV} {vs : List V} (R : Rel P w K env tm σ τ F H L) (hn : H a = none) (h : RepFs P w K F xs vs) :
    Rel P w K env (tm ++ [.val (.lst true xs)]) σ (τ ++ [.ref a]) F (upd H a (.lst vs)) (upL L a [2 * tm.length + 1]) := by
  refine R.alloc hn ?_
  rw [RepO]
  exact ⟨a, vs, rfl, upL_same, upd_same, RepOs.ofF h⟩
/-- a new object that stays as it is: a tuple -/
theorem Rel.allocF {a : Addr} {o : HO} {pv : PV} {v : V} (R : Rel P w K env tm σ τ F H L) (hn : H a = none) (h : RepF P w K (upd F a o) pv v) :
    Rel P w K env (tm ++ [.val pv]) σ (τ ++ [v]) (upd F a o) (upd H a o) L ∧ Same F (upd F a o) := by
  have ln : ∀ p, L a ≠ some p := fun p e => by
    obtain ⟨o, ho⟩ := R.lh a p e
    rw [hn] at ho
    cases ho
  have fn : F a = none := by
    cases e : F a with
    | none => rfl
    | some o =>
      have := R.fle a o e
      rw [hn] at this
      cases this
  have k : Same F (upd F a o) := fun b o' e => by
    rw [upd_ne (ne_of_none e fn)]
    exact e
  refine ⟨Rel.pushF (R.grow k (fun b o' e => ?_) (fun b p e => ?_) (fun b p e => ?_) (fun b x s e _ => ?_) R.inj) h, k⟩
  · by_cases hb : b = a
    · subst hb
      rw [upd_same] at e ⊢
      exact e
    · rw [upd_ne hb] at e ⊢
      exact R.fle b o' e
  · have hb : b ≠ a := fun z => ln p (z ▸ e)
    rw [upd_ne hb]
    exact R.lf b p e
  · have hb : b ≠ a := fun z => ln p (z ▸ e)
    rw [upd_ne hb]
    exact R.lh b p e
  · have hb : b ≠ a := fun z => ln _ (z ▸ e)
    rw [upd_ne hb]
    exact ⟨e, rfl⟩
theorem Rel.newT {a : Addr} {xs : List PV} {vs : List V} (R : Rel P w K env tm σ τ F H L) (hn : H a = none) (h : RepFs P w K F xs vs) :
    Rel P w K env (tm ++ [.val (.tup xs)]) σ (τ ++ [.ref a]) (upd F a (.tup vs)) (upd H a (.tup vs)) L ∧ Same F (upd F a (.tup vs)) := by
  have fn : F a = none := by
    cases e : F a with
    | none => rfl
    | some o =>
      have := R.fle a o e
      rw [hn] at this
      cases this
  have k : Same F (upd F a (.tup vs)) := fun b o' e => by
    rw [upd_ne (ne_of_none e fn)]
    exact e
  refine R.allocF hn ?_
  rw [RepF]
  exact ⟨a, vs, rfl, SqT.of upd_same, RepFs.mono k _ _ h⟩

/-! freezing what hangs from a root -/
def fF (r : Nat) (L : Lab) (F H : Hp) : Hp := fun a => if isR r (L a) = true then H a else F a
def fL (r : Nat) (L : Lab) : Lab := fun a => if isR r (L a) = true then none else L a
theorem fF_same {r : Nat} (lf : ∀ a p, L a = some p → F a = none) : Same F (fF r L F H) := fun a o e => by
  unfold fF
  split
  · rename_i h
    cases q : L a with
    | none => rw [q] at h; cases h
    | some p =>
      rw [lf a p q] at e
      cases e
  · exact e
theorem fF_le {r : Nat} (fle : Same F H) : Same (fF r L F H) H := fun a o e => by
  unfold fF at e
  split at e
  · exact e
  · exact fle a o e
theorem fL_lf {r : Nat} (lf : ∀ a p, L a = some p → F a = none) : ∀ a p, fL r L a = some p → fF r L F H a = none := fun a p e => by
  unfold fL at e
  unfold fF
  split at e
  · cases e
  · rename_i h
    rw [if_neg h]
    exact lf a p e
theorem fL_lh {r : Nat} (lh : ∀ a p, L a = some p → ∃ o, H a = some o) : ∀ a p, fL r L a = some p → ∃ o, H a = some o := fun a p e => by
  unfold fL at e
  split at e
  · cases e
  · exact lh a p e
theorem fL_ne {r x : Nat} {a : Addr} {s : Path} (h : L a = some (x :: s)) (hx : x ≠ r) : fL r L a = some (x :: s) := by
  unfold fL
  rw [h, isR_ne hx]
  rfl
theorem freeze_rep {r : Nat} {pv : PV} {v : V} (lf : ∀ a p, L a = some p → F a = none) (h : RepO P w K F H L [r] pv v) : RepF P w K (fF r L F H) pv.frz v :=
  RepO.freeze (fF_same lf) pv [r] v (fun a s o l e => by
    unfold fF
    rw [l]
    show (if isR r (some (r :: s)) = true then H a else F a) = some o
    rw [isR_cons, if_pos rfl]
    exact e) h

theorem getElem?_set_cases {α : Type} {l : List α} {i j : Nat} {x y : α} (h : (l.set i x)[j]? = some y) : (i = j ∧ y = x ∧ i < l.length) ∨ (i ≠ j ∧ l[j]? = some y) := by
  by_cases e : i = j
  · subst e
    by_cases hl : i < l.length
    · rw [List.getElem?_set_self hl] at h
      cases h
      exact .inl ⟨rfl, rfl, hl⟩
    · rw [List.getElem?_eq_none (by simpa using hl)] at h
      cases h
  · rw [List.getElem?_set_ne e] at h
    exact .inr ⟨e, h⟩

/-- the top is frozen -/
theorem fL_some {r : Nat} {a : Addr} {q : Path} (h : fL r L a = some q) : L a = some q := by
  unfold fL at h
  split at h
  · cases h
  · exact h
theorem Rel.frzTop {pv : PV} {v : V} (R : Rel P w K env (tm ++ [.val pv]) σ (τ ++ [v]) F H L) :
    ∃ F' L', Same F F' ∧ Rel P w K env (tm ++ [.val pv.frz]) σ (τ ++ [v]) F' H L' := by
  have ht := R.top
  have R' := R.pop
  refine ⟨fF (2 * tm.length + 1) L F H, fL (2 * tm.length + 1) L, fF_same R.lf, Rel.pushF (R'.grow (fF_same R.lf) (fF_le R.fle) (fL_lf R.lf) (fL_lh R.lh) (fun a x s e hx => ⟨fL_ne e (fun z => ?_), rfl⟩) fun a b q h1 h2 => R.inj a b q (fL_some h1) (fL_some h2)) (freeze_rep R.lf ht)⟩
  subst z
  have := hx (by omega)
  omega

/-- a slot's value is frozen -/
theorem Rel.frzSlot {j : Nat} {pv : PV} (R : Rel P w K env tm σ τ F H L) (hj : env[j]? = some (.val pv)) :
    Rel P w K (env.set j (.val pv.frz)) tm σ τ (fF (2 * j) L F H) H (fL (2 * j) L) := by
  have hjl := (List.getElem?_eq_some_iff.mp hj).1
  obtain ⟨vj, hv, hr⟩ := R.slot j _ hj (by simp)
  have go : ∀ {r : Nat} {e : Sl} {v : V}, r ≠ 2 * j → Ent P w K env F H L r e v → Ent P w K (env.set j (.val pv.frz)) (fF (2 * j) L F H) H (fL (2 * j) L) r e v := fun {r e v} hne h => by
    cases e with
    | un => trivial
    | val q => exact RepO.tr (fF_same R.lf) q [r] [r] v (fun a s l => ⟨fL_ne l hne, rfl⟩) h
    | al i p =>
      intro q hq
      by_cases hi : i = j
      · subst hi
        obtain ⟨x, e1, e2, e3⟩ := look_some hq
        rw [List.getElem?_set_self hjl] at e1
        cases e1
        have : ∀ (q : Path) (y x : PV), y.fz = true → y.at q = some x → x.fz = true := by
          intro q
          induction q with
          | nil => intro y x hz e; rw [PV.at] at e; cases e; exact hz
          | cons i q ih =>
            intro y x hz e
            cases y with
            | lst o ys =>
              rw [PV.at] at e
              split at e
              · rename_i y' ey'
                simp [PV.fz] at hz
                exact ih y' x (PV.fzs_mem hz.2 (List.mem_of_getElem? ey')) e
              · cases e
            | dct o ks ys =>
              rw [PV.at] at e
              split at e
              · rename_i y' ey'
                simp [PV.fz] at hz
                exact ih y' x (PV.fzs_mem hz.2 (List.mem_of_getElem? ey')) e
              · cases e
            | _ => simp [PV.at] at e
        rw [this p _ q (PV.fz_frz pv) e2] at e3
        cases e3
      · have hq' : look env i p = some q := by
          unfold look at hq ⊢
          rw [List.getElem?_set_ne (Ne.symm hi)] at hq
          exact hq
        exact RepO.tr (fF_same R.lf) q (2 * i :: p) (2 * i :: p) v (fun a s l => ⟨fL_ne (s := p ++ s) l (by omega), rfl⟩) (h q hq')
  have fzat : ∀ (q : Path) (y x : PV), y.fz = true → y.at q = some x → x.fz = true := by
    intro q
    induction q with
    | nil => intro y x hz e; rw [PV.at] at e; cases e; exact hz
    | cons i q ih =>
      intro y x hz e
      cases y with
      | lst o ys =>
        rw [PV.at] at e
        split at e
        · rename_i y' ey'
          simp [PV.fz] at hz
          exact ih y' x (PV.fzs_mem hz.2 (List.mem_of_getElem? ey')) e
        · cases e
      | dct o ks ys =>
        rw [PV.at] at e
        split at e
        · rename_i y' ey'
          simp [PV.fz] at hz
          exact ih y' x (PV.fzs_mem hz.2 (List.mem_of_getElem? ey')) e
        · cases e
      | _ => simp [PV.at] at e
  refine ⟨fF_le R.fle, fL_lf R.lf, fL_lh R.lh, by simp [R.len], fun i e he hu => ?_, R.tlen, fun i e v he hv => go (by omega) (R.tmp i e v he hv), fun a b q h1 h2 => R.inj a b q (fL_some h1) (fL_some h2), fun i v i' q he hv hq => ?_⟩
  rotate_left
  · by_cases hi : i' = j
    · subst hi
      obtain ⟨x, e1, e2, e3⟩ := look_some hq
      rw [List.getElem?_set_self hjl] at e1
      cases e1
      rw [fzat _ _ q (PV.fz_frz pv) e2] at e3
      cases e3
    · refine R.ali i v i' q he hv ?_
      unfold look at hq ⊢
      rw [List.getElem?_set_ne (Ne.symm hi)] at hq
      exact hq
  rcases getElem?_set_cases he with ⟨rfl, rfl, _⟩ | ⟨hne, he⟩
  · exact ⟨vj, hv, RepO.ofF (freeze_rep R.lf hr)⟩
  · obtain ⟨v, h1, h2⟩ := R.slot i e he hu
    exact ⟨v, h1, go (by omega) h2⟩
end
end Pv
namespace Pv
open PySem PySem.Spec PyProof.Rows L2

/-! ### what a piece of code does to trees -/
inductive Out (α : Type) where
  | no | ok (a : α) (env : PEnv) | ex (c : Value) (env : PEnv)
abbrev D (α : Type) := PEnv → Out α
def dpure {α : Type} (a : α) : D α := fun env => .ok a env
def dno {α : Type} : D α := fun _ => .no
def dbind {α β : Type} (d : D α) (f : α → D β) : D β := fun env => match d env with
  | .no => .no
  | .ok a e => f a e
  | .ex c e => .ex c e
/-- what is read off the state -/
def dget {α : Type} (f : PEnv → Option α) : D α := fun env => match f env with
  | some a => .ok a env
  | none => .no

section
variable (P : Program) (w : World) (K : PySem.W.Frag) (W : WX)
/-- es with the values xs stand as intermediate results; d goes, its results stand in their place -/
def tZ {α : Type} (es : PEnv) (xs : List V) (d : D α) (σ : L2.St) (H : Hp) (ps : α → PEnv) (Q : α → List V → Hp → Prop) : Prop :=
  ∃ env tm τ F L, es.length = xs.length ∧ Rel P w K env (tm ++ es) σ (τ ++ xs) F H L ∧ match d env with
    | .no => False
    | .ok a env' => ∀ vs F' H' L', (ps a).length = vs.length → Same F F' → Rel P w K env' (tm ++ ps a) σ (τ ++ vs) F' H' L' → Q a vs H'
    | .ex c env' => ∀ F' H' L', Same F F' → Rel P w K env' tm σ τ F' H' L' → W c none σ H'
def tE (d : D Sl) : TE := fun σ H Q => tZ P w K W [] [] d σ H (fun e => [e]) fun _ vs H' => ∀ v, vs = [v] → Q v H'
def tAr (d : D PEnv) : TA := fun σ H Q => tZ P w K W [] [] d σ H id fun _ vs H' => Q vs H'
def tT (d : D Bool) : TT := fun σ H Q => tZ P w K W [] [] d σ H (fun _ => []) fun b _ H' => Q b H'
end

section
variable {P : Program} {w : World} {K : PySem.W.Frag} {W : WX} {α β : Type} {es : PEnv} {xs : List V} {σ : L2.St} {H : Hp}
theorem tZ.mono {d : D α} {ps : α → PEnv} {Q Q' : α → List V → Hp → Prop} (h : tZ P w K W es xs d σ H ps Q) (q : ∀ a vs H', Q a vs H' → Q' a vs H') : tZ P w K W es xs d σ H ps Q' := by
  obtain ⟨env, tm, τ, F, L, hl, R, h⟩ := h
  refine ⟨env, tm, τ, F, L, hl, R, ?_⟩
  cases e : d env with
  | no => rw [e] at h; exact h
  | ok a env' => rw [e] at h; exact fun vs F' H' L' h1 h2 h3 => q _ _ _ (h vs F' H' L' h1 h2 h3)
  | ex c env' => rw [e] at h; exact h
theorem tZ.bind {d : D α} {f : α → D β} (ps1 : α → PEnv) {ps : β → PEnv} {Q : β → List V → Hp → Prop} (h : tZ P w K W es xs (dbind d f) σ H ps Q) :
    tZ P w K W [] [] d σ H ps1 fun a vs H1 => tZ P w K W (es ++ ps1 a) (xs ++ vs) (f a) σ H1 ps Q := by
  obtain ⟨env, tm, τ, F, L, hl, R, h⟩ := h
  refine ⟨env, tm ++ es, τ ++ xs, F, L, rfl, by simpa using R, ?_⟩
  unfold dbind at h
  cases e : d env with
  | no => rw [e] at h; exact h
  | ok a env' =>
    rw [e] at h
    intro vs F' H' L' h1 h2 h3
    refine ⟨env', tm, τ, F', L', by simp [hl, h1], by simpa using h3, ?_⟩
    dsimp only at h
    cases e2 : f a env' with
    | no => rw [e2] at h; exact h
    | ok b env2 => rw [e2] at h; exact fun us F2 H2 L2 k1 k2 k3 => h us F2 H2 L2 k1 (h2.trans k2) k3
    | ex c env2 => rw [e2] at h; exact fun F2 H2 L2 k2 k3 => h F2 H2 L2 (h2.trans k2) k3
  | ex c env' =>
    rw [e] at h
    exact fun F' H' L' h2 h3 => h F' H' L' h2 (h3.popN hl)
theorem tE.bind {d : D Sl} {f : Sl → D β} {ps : β → PEnv} {Q : β → List V → Hp → Prop} (h : tZ P w K W es xs (dbind d f) σ H ps Q) :
    tE P w K W d σ H fun v H1 => ∃ e, tZ P w K W (es ++ [e]) (xs ++ [v]) (f e) σ H1 ps Q :=
  (h.bind fun e => [e]).mono fun a vs H1 q v ev => by
    subst ev
    exact ⟨a, q⟩
theorem tAr.bind {d : D PEnv} {f : PEnv → D β} {ps : β → PEnv} {Q : β → List V → Hp → Prop} (h : tZ P w K W es xs (dbind d f) σ H ps Q) :
    tAr P w K W d σ H fun vs H1 => ∃ e, tZ P w K W (es ++ e) (xs ++ vs) (f e) σ H1 ps Q :=
  (h.bind id).mono fun a vs H1 q => ⟨a, q⟩
theorem tT.bind {d : D Bool} {f : Bool → D β} {ps : β → PEnv} {Q : β → List V → Hp → Prop} (h : tZ P w K W es xs (dbind d f) σ H ps Q) :
    tT P w K W d σ H fun b H1 => tZ P w K W es xs (f b) σ H1 ps Q :=
  (h.bind fun _ => []).mono fun a vs H1 q => by
    obtain ⟨env, tm, τ, F, L, hl, R, q⟩ := q
    have hv : vs = [] := by
      have := R.tlen
      obtain ⟨env, tm, τ, F, L, hl', _⟩ := h
      simp at hl
      have h2 : vs.length = 0 := by omega
      exact List.length_eq_zero_iff.mp h2
    subst hv
    exact ⟨env, tm, τ, F, L, by simpa using hl, by simpa using R, q⟩
/-- an expression ends as another -/
theorem tE.out {d : D Sl} {Q : VK} (h : tE P w K W d σ H Q) : tZ P w K W [] [] d σ H (fun e => [e]) fun _ vs H' => ∀ v, vs = [v] → Q v H' := h
theorem tE.mono {d : D Sl} {Q Q' : VK} (h : tE P w K W d σ H Q) (q : ∀ v H', Q v H' → Q' v H') : tE P w K W d σ H Q' := tZ.mono h fun _ _ H' k v e => q v H' (k v e)
theorem tAr.mono {d : D PEnv} {Q Q' : List V → Hp → Prop} (h : tAr P w K W d σ H Q) (q : ∀ v H', Q v H' → Q' v H') : tAr P w K W d σ H Q' := tZ.mono h fun _ _ H' k => q _ H' k
theorem tT.mono {d : D Bool} {Q Q' : Bool → Hp → Prop} (h : tT P w K W d σ H Q) (q : ∀ v H', Q v H' → Q' v H') : tT P w K W d σ H Q' := tZ.mono h fun _ _ H' k => q _ H' k
end

theorem PEimp {X : Cx} {e : Expr} {t t' : TE} (h : PE X e t) (k : ∀ σ H Q, t' σ H Q → t σ H Q) : PE X e t' := ⟨fun pins s σ H Q I q => h.run pins s σ H Q I (k σ H Q q)⟩
theorem PTimp {X : Cx} {e : Expr} {t t' : TT} (h : PT X e t) (k : ∀ σ H Q, t' σ H Q → t σ H Q) : PT X e t' := ⟨fun pins s σ H Q I q => h.run pins s σ H Q I (k σ H Q q)⟩
theorem PAimp {X : Cx} {e : List Expr} {t t' : TA} (h : PA X e t) (k : ∀ σ H Q, t' σ H Q → t σ H Q) : PA X e t' := ⟨fun pos pins s σ H Q I q => h.run pos pins s σ H Q I (k σ H Q q)⟩

/-- the expression e does d -/
abbrev EV (X : Cx) (W : WX) (e : Expr) (d : D Sl) : Prop := PE X e (tE X.prog X.w X.K W d)
abbrev TV (X : Cx) (W : WX) (e : Expr) (d : D Bool) : Prop := PT X e (tT X.prog X.w X.K W d)
abbrev AV (X : Cx) (W : WX) (es : List Expr) (d : D PEnv) : Prop := PA X es (tAr X.prog X.w X.K W d)

/-! ### names, constants -/
def dname (i : Nat) : D Sl := fun env => match env[i]? with
  | some (.val pv) => if pv.fz = true then .ok (.val pv) env else .ok (.al i []) env
  | some (.al j (k :: p)) => .ok (.al j (k :: p)) env
  | _ => .no
def dcon (pv : PV) : D Sl := dpure (.val pv)

section
variable {X : Cx} {W : WX}
theorem ev_name {i : Nat} {x : Str} {pos : Pos} (hN : X.N[i]? = some x) (hv : Vis X.env.scope x) (hd : (x == ("__debug__" : Str)) = false := by decide) (hcd : (x == ("__classdict__" : Str)) = false := by decide) :
    EV X W (.Name x pos) (dname i) := PEimp (pe_var hN hv hd hcd) fun σ H Q ⟨env, tm, τ, F, L, _, R, h⟩ => by
  unfold dname at h
  cases e : env[i]? with
  | none => rw [e] at h; exact h.elim
  | some sl =>
    rw [e] at h
    cases sl with
    | un => exact h.elim
    | val pv =>
      obtain ⟨v, hv, hr⟩ := R.slot i _ e (by simp)
      refine ⟨v, hv, ?_⟩
      dsimp only at h
      by_cases hz : pv.fz = true
      · rw [if_pos hz] at h
        exact h [v] F H L rfl (Same.refl F) (by simpa using (R.push (e := .val pv) (v := v) (RepO.ofF (RepO.toF hz hr)))) v rfl
      · rw [if_neg hz] at h
        have hpu : Ent X.prog X.w X.K env F H L (2 * (tm ++ []).length + 1) (.al i []) v := fun q hq => by
          obtain ⟨pv', e1, e2, _⟩ := look_some hq
          rw [e] at e1
          cases e1
          rw [PV.at] at e2
          cases e2
          exact hr
        exact h [v] F H L rfl (Same.refl F) (by simpa using R.push hpu fun j q ej _ => by cases ej; exact hv) v rfl
    | al j p =>
      cases p with
      | nil => exact h.elim
      | cons k p =>
      obtain ⟨v, hv, hr⟩ := R.slot i _ e (by simp)
      exact ⟨v, hv, h [v] F H L rfl (Same.refl F) (by simpa using (R.push (e := .al j (k :: p)) (v := v) hr (fun j' q ej _ => by cases ej))) v rfl⟩
theorem ev_con {e : Expr} {v : V} {pv : PV} (h : PE X e (tC v)) (r : ∀ F, RepF X.prog X.w X.K F pv v) : EV X W e (dcon pv) := PEimp h fun σ H Q ⟨env, tm, τ, F, L, _, R, h⟩ =>
  h [v] F H L rfl (Same.refl F) (by simpa using R.pushF (r F)) v rfl
theorem ev_int {i j pos} : EV X W (.Constant (.int i) j pos) (dcon (.int i)) := ev_con pe_int fun _ => rfl
theorem ev_bl {b j pos} : EV X W (.Constant (.bool b) j pos) (dcon (.bl b)) := ev_con pe_bl fun _ => rfl
theorem ev_non {j pos} : EV X W (.Constant .none j pos) (dcon .non) := ev_con pe_non fun _ => rfl
theorem ev_str {x j pos} : EV X W (.Constant (.str x) j pos) (dcon (.str x)) := ev_con pe_str fun _ => rfl
/-- a module's name that holds a constant -/
theorem ev_glob {x : Str} {v : V} {u : Value} {pv : PV} {pos : Pos} (hg : Gl X x) (hm : X.mg x = some u) (r : RelV v u) (rp : ∀ F, RepF X.prog X.w X.K F pv v) (hd : (x == ("__debug__" : Str)) = false := by decide) : EV X W (.Name x pos) (dcon pv) :=
  ev_con (pe_glob hg hm r hd) rp
theorem ev_bltn {x : Str} {n : String} {pos : Pos} (hg : Gl X x) (hm : X.mg x = none) (hv : bootBuiltins x = some (.type n)) (hn : x ≠ "__name__" := by decide) (hd : (x == ("__debug__" : Str)) = false := by decide) : EV X W (.Name x pos) (dcon (.ty n)) :=
  ev_con (v := .ty n) (pe_bltn hg hm hv rfl hn hd) fun _ => rfl

/-! ### arguments -/
def dnil : D PEnv := dpure []
def dcons (d : D Sl) (r : D PEnv) : D PEnv := dbind d fun e => dbind r fun es => dpure (e :: es)
theorem av_nil : AV X W [] dnil := PAimp pa_nil fun σ H Q ⟨env, tm, τ, F, L, _, R, h⟩ => h [] F H L rfl (Same.refl F) R
theorem av_cons {e : Expr} {es : List Expr} {d : D Sl} {r : D PEnv} (h1 : EV X W e d) (h2 : AV X W es r) (hs : starEach (e :: es) X.env = (false, eval e X.env) :: starEach es X.env := by rfl) : AV X W (e :: es) (dcons d r) :=
  PAimp (pa_cons h1 h2 hs) fun σ H Q h => by
    refine (tE.bind (es := []) (xs := []) h).mono fun v H1 ⟨e, q⟩ => (tAr.bind q).mono fun vs H2 ⟨es', q2⟩ => ?_
    obtain ⟨env, tm, τ, F, L, hl, R, h⟩ := q2
    exact h (v :: vs) F H2 L (by simpa using hl) (Same.refl F) (by simpa using R)

/-! ### operators by values -/
/-- a rule at two values, as trees -/
def rI2 (P : Program) (w : World) (K : PySem.W.Frag) (W : WX) (f : Sl → Sl → D Sl) : R2 := fun x y H Q => ∃ σ a b, tZ P w K W [a, b] [x, y] (f a b) σ H (fun e => [e]) fun _ vs H' => ∀ v, vs = [v] → Q v H'
def rI1 (P : Program) (w : World) (K : PySem.W.Frag) (W : WX) (f : Sl → D Sl) : V → Hp → VK → Prop := fun x H Q => ∃ σ a, tZ P w K W [a] [x] (f a) σ H (fun e => [e]) fun _ vs H' => ∀ v, vs = [v] → Q v H'
def rIn_ (P : Program) (w : World) (K : PySem.W.Frag) (W : WX) (f : PEnv → D Sl) : List V → Hp → VK → Prop := fun xs H Q => ∃ σ es, tZ P w K W es xs (f es) σ H (fun e => [e]) fun _ vs H' => ∀ v, vs = [v] → Q v H'
abbrev OpI (X : Cx) (W : WX) (op : Value → Value → Sem Value) (f : Sl → Sl → D Sl) : Prop := OpR X op (rI2 X.prog X.w X.K W f)
def dop (f : Sl → Sl → D Sl) (a b : D Sl) : D Sl := dbind a fun x => dbind b fun y => f x y
def dun (f : Sl → D Sl) (a : D Sl) : D Sl := dbind a f
def dcall (f : PEnv → D Sl) (a : D PEnv) : D Sl := dbind a f
variable {a b c : Expr} {da db dc : D Sl} {pos : Pos} {f g : Sl → Sl → D Sl}
theorem ev_op {op : Operator} (ho : OpI X W (binaryOp op) f) (ha : EV X W a da) (hb : EV X W b db) : EV X W (.BinOp a op b pos) (dop f da db) :=
  PEimp (pe_op ho ha hb) fun σ H Q h => (tE.bind (es := []) (xs := []) h).mono fun v H1 ⟨e, q⟩ => (tE.bind q).mono fun u H2 ⟨e2, q2⟩ => ⟨σ, e, e2, q2⟩
theorem ev_un {op : UnaryOp} {f1 : Sl → D Sl} (ho : UnR X (unaryOp op) (rI1 X.prog X.w X.K W f1)) (ha : EV X W a da) : EV X W (.UnaryOp op a pos) (dun f1 da) :=
  PEimp (pe_un ho ha) fun σ H Q h => (tE.bind (es := []) (xs := []) h).mono fun v H1 ⟨e, q⟩ => ⟨σ, e, q⟩
theorem ev_cmp {op : CmpOp} (ho : OpI X W (compareOp op) f) (hm : behindInMarks op b = false) (ha : EV X W a da) (hb : EV X W b db) : EV X W (.Compare a [op] [b] pos) (dop f da db) :=
  PEimp (pe_cmpR ho ha hb hm) fun σ H Q h => (tE.bind (es := []) (xs := []) h).mono fun v H1 ⟨e, q⟩ => (tE.bind q).mono fun u H2 ⟨e2, q2⟩ => ⟨σ, e, e2, q2⟩
end
end Pv
namespace Pv
open PySem PySem.Spec PyProof.Rows L2

/-- where a body stands: nothing is handled, there is room, nothing is being shown -/
structure Good (X : Cx) : Prop where
  calm : X.calm = true
  un : X.A.units + 200 < cLine
  gd : X.A.guards = some []
  nd : X.N.Nodup

section
variable (P : Program) (w : World) (K : PySem.W.Frag)
def ReA (F H : Hp) (L : Lab) : List PV → List V → Prop
  | [], xs => xs = []
  | p :: ps, xs => ∃ v r, xs = v :: r ∧ (∃ q, RepO P w K F H L q p v) ∧ ReA F H L ps r
/-- a result: known, or a new list, or a new tuple -/
def Res (F H : Hp) (r : PV) (v : V) (H' : Hp) : Prop :=
  (H' = H ∧ RepF P w K F r v) ∨
  (∃ a vs xs, H a = none ∧ v = .ref a ∧ H' = upd H a (.lst vs) ∧ r = .lst true xs ∧ RepFs P w K F xs vs) ∨
  (∃ a vs xs, H a = none ∧ v = .ref a ∧ H' = upd H a (.tup vs) ∧ r = .tup xs ∧ RepFs P w K F xs vs)
end
def conts (env : PEnv) : PEnv → Option (List PV)
  | [] => some []
  | e :: es => match cont env e, conts env es with
    | some p, some ps => some (p :: ps)
    | _, _ => none
def dfn (g : List PV → Option PV) (es : PEnv) : D Sl := fun env => match conts env es with
  | some ps => match g ps with
    | some r => .ok (.val r) env
    | none => .no
  | none => .no
structure Rule (X : Cx) (f : List Value → Sem Value) (g : List PV → Option PV) : Prop where
  run : ∀ (pins : List (Addr × Obj)) (s : Shared) (σ : L2.St) (H : Hp) (xs : List V) (us : List Value) (Q : VK) (F : Hp) (L : Lab) (ps : List PV) (r : PV), Inv X pins σ H s → Vals xs us → Same F H → ReA X.prog X.w X.K F H L ps xs → g ps = some r →
    (∀ v H', Res X.prog X.w X.K F H r v H' → Q v H') → wpAny (model X.prog X.w) X.A (f us) (EP X pins σ Q) X.xe s

section
variable {P : Program} {w : World} {K : PySem.W.Frag} {F F' H H' : Hp} {L L' : Lab} {env env' tm tm' : PEnv} {σ σ' : L2.St} {τ τ' : List V}
theorem conts_rep : ∀ {es tm : PEnv} {xs τ : List V} {ps : List PV}, Rel P w K env (tm ++ es) σ (τ ++ xs) F H L → es.length = xs.length → conts env es = some ps → ReA P w K F H L ps xs
  | [], tm, xs, τ, ps, R, hl, h => by
    cases h
    exact List.length_eq_zero_iff.mp hl.symm
  | e :: es, tm, [], τ, ps, R, hl, h => by simp at hl
  | e :: es, tm, x :: xs, τ, ps, R, hl, h => by
    unfold conts at h
    cases e1 : cont env e with
    | none => rw [e1] at h; cases h
    | some p =>
      cases e2 : conts env es with
      | none => rw [e1, e2] at h; cases h
      | some ps' =>
        rw [e1, e2] at h
        cases h
        have hl' : es.length = xs.length := by simpa using hl
        have R2 : Rel P w K env ((tm ++ [e]) ++ es) σ ((τ ++ [x]) ++ xs) F H L := by simpa using R
        exact ⟨x, xs, rfl, (R2.popN hl').top.rep e1, conts_rep R2 hl' e2⟩
theorem Rel.res {r : PV} {v : V} (R : Rel P w K env tm σ τ F H L) (h : Res P w K F H r v H') : ∃ F' L', Same F F' ∧ Rel P w K env (tm ++ [.val r]) σ (τ ++ [v]) F' H' L' := by
  rcases h with ⟨rfl, h⟩ | ⟨a, vs, xs, hn, rfl, rfl, rfl, h⟩ | ⟨a, vs, xs, hn, rfl, rfl, rfl, h⟩
  · exact ⟨F, L, Same.refl F, R.pushF h⟩
  · exact ⟨F, _, Same.refl F, R.newL hn h⟩
  · obtain ⟨R', k⟩ := R.newT hn h
    exact ⟨_, L, k, R'⟩
end

section
variable {X : Cx} {W : WX}
/-- a rule, as an operation on entries (others, pre, stand below them) -/
theorem Rule.useP {f : List Value → Sem Value} {g : List PV → Option PV} (h : Rule X f g) {pins : List (Addr × Obj)} {s : Shared} {σ σ0 : L2.St} {H : Hp} {px xs : List V} {us : List Value} {Q : VK} {pre es : PEnv}
    (I : Inv X pins σ H s) (r : Vals xs us) (hl2 : es.length = xs.length) (q : tZ X.prog X.w X.K W (pre ++ es) (px ++ xs) (dfn g es) σ0 H (fun e => [e]) fun _ vs H' => ∀ v, vs = [v] → Q v H') :
    wpAny (model X.prog X.w) X.A (f us) (EP X pins σ Q) X.xe s := by
  obtain ⟨env, tm, τ, F, L, hl, R, q⟩ := q
  unfold dfn at q
  have hlp : pre.length = px.length := by simp at hl; omega
  cases e1 : conts env es with
  | none => rw [e1] at q; exact q.elim
  | some ps =>
    rw [e1] at q
    dsimp only at q
    cases e2 : g ps with
    | none => rw [e2] at q; exact q.elim
    | some y =>
      rw [e2] at q
      refine h.run pins s σ H xs us Q F L ps y I r R.fle (conts_rep (tm := tm ++ pre) (τ := τ ++ px) (by simpa using R) hl2 e1) e2 fun v H' hres => ?_
      obtain ⟨F', L', k, R'⟩ := (R.popN hl).res hres
      exact q [v] F' H' L' rfl k R' v rfl
theorem Rule.use {f : List Value → Sem Value} {g : List PV → Option PV} (h : Rule X f g) {pins : List (Addr × Obj)} {s : Shared} {σ σ0 : L2.St} {H : Hp} {xs : List V} {us : List Value} {Q : VK} {es : PEnv}
    (I : Inv X pins σ H s) (r : Vals xs us) (q : tZ X.prog X.w X.K W es xs (dfn g es) σ0 H (fun e => [e]) fun _ vs H' => ∀ v, vs = [v] → Q v H') :
    wpAny (model X.prog X.w) X.A (f us) (EP X pins σ Q) X.xe s := by
  have hl : es.length = xs.length := by obtain ⟨_, _, _, _, _, hl, _⟩ := id q; exact hl
  exact h.useP (pre := []) (px := []) I r hl q
theorem Rule.op {op : Value → Value → Sem Value} {g : List PV → Option PV} (h : Rule X (fun us => op (us.getD 0 .none) (us.getD 1 .none)) g) : OpI X W op fun a b => dfn g [a, b] :=
  fun pins s σ H x y v u Q I rx ry ⟨σ0, a, b, q⟩ => h.use (us := [v, u]) I (.cons rx (.cons ry .nil)) q
theorem Rule.un {op : Value → Sem Value} {g : List PV → Option PV} (h : Rule X (fun us => op (us.getD 0 .none)) g) : UnR X op (rI1 X.prog X.w X.K W fun a => dfn g [a]) :=
  fun pins s σ H x v Q I rx ⟨σ0, a, q⟩ => h.use (us := [v]) I (.cons rx .nil) q
theorem Rule.call {f : Value} {g : List PV → Option PV} (h : Rule X (fun us => call f us) g) : CallR X f (rIn_ X.prog X.w X.K W (dfn g)) :=
  fun pins s σ H xs us Q I r ⟨σ0, es, q⟩ => h.use I r q
theorem Rule.or {f : List Value → Sem Value} {g g' : List PV → Option PV} (h : Rule X f g) (h' : Rule X f g') : Rule X f (fun ps => match g ps with | some r => some r | none => g' ps) :=
  ⟨fun pins s σ H xs us Q F L ps r I hv k hr hg q => by
    cases e : g ps with
    | some y =>
      rw [e] at hg
      exact h.run pins s σ H xs us Q F L ps r I hv k hr (by rw [e]; exact hg) q
    | none =>
      rw [e] at hg
      exact h'.run pins s σ H xs us Q F L ps r I hv k hr hg q⟩
end

/-! ### reading a tree -/
section
variable {P : Program} {w : World} {K : PySem.W.Frag} {F H : Hp} {L : Lab} {q : Path} {v : V}
theorem ReA.one {p : PV} {xs : List V} (h : ReA P w K F H L [p] xs) : ∃ v q, xs = [v] ∧ RepO P w K F H L q p v := by
  obtain ⟨v, r, rfl, ⟨q, hq⟩, hr⟩ := h
  exact ⟨v, q, by rw [show r = [] from hr], hq⟩
theorem ReA.two {p p' : PV} {xs : List V} (h : ReA P w K F H L [p, p'] xs) : ∃ v q v' q', xs = [v, v'] ∧ RepO P w K F H L q p v ∧ RepO P w K F H L q' p' v' := by
  obtain ⟨v, r, rfl, ⟨q, hq⟩, hr⟩ := h
  obtain ⟨v', q', rfl, hq'⟩ := ReA.one hr
  exact ⟨v, q, v', q', rfl, hq, hq'⟩
theorem RepO.asL {o : Bool} {xs : List PV} (k : Same F H) (h : RepO P w K F H L q (.lst o xs) v) : ∃ a vs, v = .ref a ∧ H a = some (.lst vs) ∧ xs.length = vs.length ∧ (PV.fzs xs = true → RepFs P w K F xs vs) := by
  cases o with
  | true =>
    rw [RepO] at h
    obtain ⟨a, vs, e, _, hh, r⟩ := h
    exact ⟨a, vs, e, hh, r.length, fun hz => RepOs.toF hz r⟩
  | false =>
    rw [RepO, RepF] at h
    obtain ⟨_, a, vs, e, hh, r⟩ := h
    exact ⟨a, vs, e, k _ _ hh, r.length, fun _ => r⟩
theorem RepO.asT {xs : List PV} (k : Same F H) (h : RepO P w K F H L q (.tup xs) v) : ∃ a vs, v = .ref a ∧ SqT K H a vs ∧ RepFs P w K F xs vs ∧ SqT K F a vs := by
  rw [RepO, RepF] at h
  obtain ⟨a, vs, e, hh, r⟩ := h
  exact ⟨a, vs, e, SqT.mono k hh, r, hh⟩
theorem RepO.fzF {x : PV} (hz : x.fz = true) (h : RepO P w K F H L q x v) : RepF P w K F x v := RepO.toF hz h
end

/-! ### data -/
mutual
def pd : PV → Option PyData
  | .non => some .none
  | .bl b => some (.bool b)
  | .int i => some (.int i)
  | .str s => some (.str s)
  | .tup xs => match pds xs with | some ds => some (.tuple ds) | none => none
  | .lst _ xs => match pds xs with | some ds => some (.list ds) | none => none
  | _ => none
def pds : List PV → Option (List PyData)
  | [] => some []
  | x :: xs => match pd x, pds xs with
    | some d, some ds => some (d :: ds)
    | _, _ => none
end
section
variable {P : Program} {w : World} {K : PySem.W.Frag} {F H : Hp} {L : Lab}
mutual
theorem RepF.dp (k : Same F H) : ∀ (x : PV) (v : V) (d : PyData), RepF P w K F x v → pd x = some d → Dp K H v d
  | .tup xs, v, d, h, e => by
    rw [RepF] at h
    rw [pd] at e
    obtain ⟨a, vs, rfl, s, r⟩ := h
    split at e
    · rename_i ds e2
      cases e
      exact .tup (SqT.mono k s) (RepFs.dp k xs vs ds r e2)
    · cases e
  | .lst o xs, v, d, h, e => by
    rw [RepF] at h
    rw [pd] at e
    obtain ⟨_, a, vs, rfl, s, r⟩ := h
    split at e
    · rename_i ds e2
      cases e
      exact .lst (SqL.of (k _ _ s)) (RepFs.dp k xs vs ds r e2)
    · cases e
  | .dct .., v, d, h, e => by rw [pd] at e; cases e; all_goals simp
  | .frl _, v, d, h, e => by rw [pd] at e; cases e; all_goals simp
  | .ref _, v, d, h, e => by rw [pd] at e; cases e; all_goals simp
  | .ty _, v, d, h, e => by rw [pd] at e; cases e; all_goals simp
  | .non, v, d, h, e => by
    rw [pd] at e; cases e
    cases (show v = .non from h)
    exact .non
  | .bl b, v, d, h, e => by
    rw [pd] at e; cases e
    cases (show v = .bl b from h)
    exact .bl b
  | .int i, v, d, h, e => by
    rw [pd] at e; cases e
    cases (show v = .int i from h)
    exact .int i
  | .str z, v, d, h, e => by
    rw [pd] at e; cases e
    cases (show v = .str z from h)
    exact .str z
theorem RepFs.dp (k : Same F H) : ∀ (xs : List PV) (vs : List V) (ds : List PyData), RepFs P w K F xs vs → pds xs = some ds → DpAll K H vs ds
  | [], vs, ds, h, e => by
    rw [RepFs] at h
    rw [pds] at e
    cases e
    subst h
    exact .nil
  | x :: xs, vs, ds, h, e => by
    rw [RepFs] at h
    rw [pds] at e
    obtain ⟨v, r, rfl, h1, h2⟩ := h
    split at e
    · rename_i d ds' e1 e2
      cases e
      exact .cons (RepF.dp k x v d h1 e1) (RepFs.dp k xs r ds' h2 e2)
    · cases e
end
mutual
theorem RepO.dp (k : Same F H) : ∀ (x : PV) (q : Path) (v : V) (d : PyData), RepO P w K F H L q x v → pd x = some d → Dp K H v d
  | .lst true xs, q, v, d, h, e => by
    rw [RepO] at h
    rw [pd] at e
    obtain ⟨a, vs, rfl, _, s, r⟩ := h
    split at e
    · rename_i ds e2
      cases e
      exact .lst (SqL.of s) (RepOs.dp k xs q 0 vs ds r e2)
    · cases e
  | .lst false xs, q, v, d, h, e => by
    rw [RepO] at h
    exact RepF.dp k _ v d h e
  | .dct true ks xs, q, v, d, h, e => by rw [pd] at e; cases e; all_goals simp
  | .dct false ks xs, q, v, d, h, e => by rw [pd] at e; cases e; all_goals simp
  | .tup xs, q, v, d, h, e => by
    rw [RepO] at h
    exact RepF.dp k _ v d h e
  | .frl _, q, v, d, h, e => by rw [pd] at e; cases e; all_goals simp
  | .ref a, q, v, d, h, e => by rw [pd] at e; cases e; all_goals simp
  | .ty _, q, v, d, h, e => by rw [pd] at e; cases e; all_goals simp
  | .non, q, v, d, h, e => RepF.dp (P := P) (w := w) k .non v d h e
  | .bl b, q, v, d, h, e => RepF.dp (P := P) (w := w) k (.bl b) v d h e
  | .int i, q, v, d, h, e => RepF.dp (P := P) (w := w) k (.int i) v d h e
  | .str z, q, v, d, h, e => RepF.dp (P := P) (w := w) k (.str z) v d h e
theorem RepOs.dp (k : Same F H) : ∀ (xs : List PV) (q : Path) (i : Nat) (vs : List V) (ds : List PyData), RepOs P w K F H L q i xs vs → pds xs = some ds → DpAll K H vs ds
  | [], q, i, vs, ds, h, e => by
    rw [RepOs] at h
    rw [pds] at e
    cases e
    subst h
    exact .nil
  | x :: xs, q, i, vs, ds, h, e => by
    rw [RepOs] at h
    rw [pds] at e
    obtain ⟨v, r, rfl, h1, h2⟩ := h
    split at e
    · rename_i d ds' e1 e2
      cases e
      exact .cons (RepO.dp k x (q ++ [i]) v d h1 e1) (RepOs.dp k xs q (i + 1) r ds' h2 e2)
    · cases e
end
end
end Pv
namespace Pv
open PySem PySem.Spec PyProof.Rows L2

/-! ### what the operators do to trees -/
def gAdd : List PV → Option PV
  | [.int a, .int b] => some (.int (a + b))
  | [.tup xs, .tup ys] => if xs.length + ys.length ≤ 16777216 then some (.tup (xs ++ ys)) else none
  | [.lst _ xs, .lst _ ys] => if PV.fzs xs = true ∧ PV.fzs ys = true ∧ xs.length + ys.length ≤ 16777216 then some (.lst true (xs ++ ys)) else none
  | _ => none
def gSub : List PV → Option PV
  | [.int a, .int b] => some (.int (a - b))
  | _ => none
def mulOk (a b : Int) : Bool := decide (-(2 ^ 64) < a ∧ a < 2 ^ 64) || decide (-(2 ^ 64) < b ∧ b < 2 ^ 64) || decide (a.natAbs.log2 + b.natAbs.log2 < 1000000)
def gMul : List PV → Option PV
  | [.int a, .int b] => if mulOk a b = true then some (.int (a * b)) else none
  | [.lst true xs, .int k] => if PV.fzs xs = true ∧ -(2 ^ 63) ≤ k ∧ k < 2 ^ 63 ∧ xs.length * k.toNat ≤ 16777216 then some (.lst true (List.replicate k.toNat xs).flatten) else none
  | [.tup xs, .int k] => if xs ≠ [] ∧ 2 ≤ k ∧ k ≤ 1000 ∧ xs.length ≤ 1000 then some (.tup (List.replicate k.toNat xs).flatten) else none
  | _ => none
def gMod : List PV → Option PV
  | [.int a, .int b] => if 0 < b then some (.int (a % b)) else none
  | _ => none
def gDiv : List PV → Option PV
  | [.int a, .int b] => if 0 < b ∧ b.natAbs.log2 < 9000 then some (.int (a / b)) else none
  | _ => none
def gPow : List PV → Option PV
  | [.int a, .int b] => if 0 ≤ b ∧ b ≤ 1000000 ∧ a.natAbs < 2 ^ 64 then some (.int (a ^ b.toNat)) else none
  | _ => none
def gNeg : List PV → Option PV
  | [.int a] => some (.int (-a))
  | _ => none
def ndN : PyData → Bool
  | .none => false
  | _ => true
def cmpOk (x y : PyData) : Bool := PySem.W.alike x y && ndN x && decide (x.depth ≤ 60)
def gLt : List PV → Option PV
  | [.int a, .int b] => some (.bl (decide (a < b)))
  | [p, q] => match pd p, pd q with
    | some x, some y => if cmpOk x y = true then some (.bl (PySem.W.dataLt x y)) else none
    | _, _ => none
  | _ => none
def gGt : List PV → Option PV
  | [.int a, .int b] => some (.bl (decide (b < a)))
  | [p, q] => match pd p, pd q with
    | some x, some y => if cmpOk x y = true then some (.bl (PySem.W.dataLt y x)) else none
    | _, _ => none
  | _ => none
def gLe : List PV → Option PV
  | [.int a, .int b] => some (.bl (decide (a ≤ b)))
  | [p, q] => match pd p, pd q with
    | some x, some y => if cmpOk x y = true then some (.bl (!PySem.W.dataLt y x)) else none
    | _, _ => none
  | _ => none
def gGe : List PV → Option PV
  | [.int a, .int b] => some (.bl (decide (b ≤ a)))
  | [p, q] => match pd p, pd q with
    | some x, some y => if cmpOk x y = true then some (.bl (!PySem.W.dataLt x y)) else none
    | _, _ => none
  | _ => none
/-- ==, of data -/
def peq (p q : PV) : Option Bool := match pd p, pd q with
  | some x, some y => if SeqAt.shaped x = true ∧ SeqAt.shaped y = true then some (PyData.eqv x y) else none
  | _, _ => none
def gEq : List PV → Option PV
  | [p, q] => (peq p q).map .bl
  | _ => none
def gNe : List PV → Option PV
  | [p, q] => (peq p q).map fun b => .bl (!b)
  | _ => none
/-- x in a list or tuple -/
def pin (p : PV) (xs : List PV) : Option Bool := match pd p, pds xs with
  | some x, some ys => if SeqAt.shaped x = true ∧ SeqAt.shaped (.list ys) = true then some (ys.any fun z => PyData.eqv z x) else none
  | _, _ => none
def gIn : List PV → Option PV
  | [p, .lst _ xs] => (pin p xs).map .bl
  | [p, .tup xs] => (pin p xs).map .bl
  | _ => none
def gNotIn : List PV → Option PV
  | [p, .lst _ xs] => (pin p xs).map fun b => .bl (!b)
  | [p, .tup xs] => (pin p xs).map fun b => .bl (!b)
  | _ => none
def isN : PV → Bool
  | .non => true
  | _ => false
def gIs : List PV → Option PV
  | [x, .non] => some (.bl (isN x))
  | [.bl a, .bl b] => some (.bl (decide (a = b)))
  | _ => none
def gIsNot : List PV → Option PV
  | [x, .non] => some (.bl (!isN x))
  | [.bl a, .bl b] => some (.bl (!decide (a = b)))
  | _ => none

section
variable {X : Cx} {W : WX}
theorem mulOk_cases {a b : Int} (h : mulOk a b = true) : CMul a b ∨ CMulW a b := by
  unfold mulOk at h
  simp only [Bool.or_eq_true, decide_eq_true_eq] at h
  rcases h with (h | h) | h
  · exact .inl (.inl h)
  · exact .inl (.inr h)
  · exact .inr h
theorem sl24 : (16777216 : Nat) = sizeLine := by rw [sizeLine_eq]
theorem RepFs.nil_iff {P : Program} {w : World} {K : PySem.W.Frag} {F : Hp} {xs : List PV} {vs : List V} (h : RepFs P w K F xs vs) : xs = [] ↔ vs = [] := by
  have := h.length
  constructor
  · rintro rfl; exact List.length_eq_zero_iff.mp this.symm
  · rintro rfl; exact List.length_eq_zero_iff.mp this

theorem rule_add : Rule X (fun us => binaryOp .Add (us.getD 0 .none) (us.getD 1 .none)) gAdd := ⟨fun pins s σ H xs us Q F L ps r I hv k hr hg q => by
  unfold gAdd at hg
  split at hg
  · obtain ⟨v, q1, v', q2, rfl, h1, h2⟩ := hr.two
    cases hg
    cases (h1 : v = .int _)
    cases (h2 : v' = .int _)
    obtain ⟨u, u', rfl, r1, r2⟩ := vals2 hv
    exact op_add pins s σ H _ _ _ _ Q I r1 r2 ⟨_, _, rfl, rfl, q _ _ (.inl ⟨rfl, rfl⟩)⟩
  · rename_i xs' ys'
    obtain ⟨v, q1, v', q2, rfl, h1, h2⟩ := hr.two
    split at hg
    · rename_i hl
      cases hg
      obtain ⟨a, vs, rfl, s1, f1, g1⟩ := RepO.asT k h1
      obtain ⟨b, ws, rfl, s2, f2, g2⟩ := RepO.asT k h2
      obtain ⟨u, u', rfl, r1, r2⟩ := vals2 hv
      have l1 := f1.length
      have l2 := f2.length
      refine op_catA pins s σ H _ _ _ _ Q I r1 r2 ⟨a, b, vs, ws, rfl, rfl, s1, s2, by rw [← l1, ← l2, ← sl24]; exact hl, fun e => ?_, fun e e' => ?_, fun e e' p hp => ?_⟩
      · refine q _ _ (.inl ⟨rfl, ?_⟩)
        rw [f1.nil_iff.mpr e, List.nil_append, RepF]
        exact ⟨b, ws, rfl, g2, f2⟩
      · refine q _ _ (.inl ⟨rfl, ?_⟩)
        rw [f2.nil_iff.mpr e', List.append_nil, RepF]
        exact ⟨a, vs, rfl, g1, f1⟩
      · exact q _ _ (.inr (.inr ⟨p, _, _, hp, rfl, rfl, rfl, f1.append f2⟩))
    · cases hg
  · rename_i o1 xs' o2 ys'
    obtain ⟨v, q1, v', q2, rfl, h1, h2⟩ := hr.two
    split at hg
    · rename_i hl
      cases hg
      obtain ⟨hz1, hz2, hl⟩ := hl
      obtain ⟨u, u', rfl, r1, r2⟩ := vals2 hv
      obtain ⟨a, vs, rfl, s1, l1, f1⟩ := RepO.asL k h1
      obtain ⟨b, ws, rfl, s2, l2, f2⟩ := RepO.asL k h2
      exact op_cat pins s σ H _ _ _ _ Q I r1 r2 ⟨a, b, vs, ws, rfl, rfl, s1, s2, by rw [← l1, ← l2, ← sl24]; exact hl, fun p hp => q _ _ (.inr (.inl ⟨p, _, _, hp, rfl, rfl, rfl, (f1 hz1).append (f2 hz2)⟩))⟩
    · cases hg
  · cases hg⟩
theorem rule_sub : Rule X (fun us => binaryOp .Sub (us.getD 0 .none) (us.getD 1 .none)) gSub := ⟨fun pins s σ H xs us Q F L ps r I hv k hr hg q => by
  unfold gSub at hg
  split at hg
  · obtain ⟨v, q1, v', q2, rfl, h1, h2⟩ := hr.two
    cases hg
    cases (h1 : v = .int _)
    cases (h2 : v' = .int _)
    obtain ⟨u, u', rfl, r1, r2⟩ := vals2 hv
    exact op_sub pins s σ H _ _ _ _ Q I r1 r2 ⟨_, _, rfl, rfl, q _ _ (.inl ⟨rfl, rfl⟩)⟩
  · cases hg⟩
theorem RepFs.rep {P : Program} {w : World} {K : PySem.W.Frag} {F : Hp} {xs : List PV} {vs : List V} (h : RepFs P w K F xs vs) : ∀ n : Nat, RepFs P w K F (List.replicate n xs).flatten (List.replicate n vs).flatten
  | 0 => by simp [RepFs]
  | n + 1 => by
    rw [List.replicate_succ, List.replicate_succ, List.flatten_cons, List.flatten_cons]
    exact h.append (RepFs.rep h n)
theorem rule_mul : Rule X (fun us => binaryOp .Mult (us.getD 0 .none) (us.getD 1 .none)) gMul := ⟨fun pins s σ H xs us Q F L ps r I hv k hr hg q => by
  unfold gMul at hg
  split at hg
  · obtain ⟨v, q1, v', q2, rfl, h1, h2⟩ := hr.two
    split at hg
    · rename_i hm
      cases hg
      cases (h1 : v = .int _)
      cases (h2 : v' = .int _)
      obtain ⟨u, u', rfl, r1, r2⟩ := vals2 hv
      rcases mulOk_cases hm with c | c
      · exact op_mul pins s σ H _ _ _ _ Q I r1 r2 ⟨_, _, rfl, rfl, c, q _ _ (.inl ⟨rfl, rfl⟩)⟩
      · exact op_mulW pins s σ H _ _ _ _ Q I r1 r2 ⟨_, _, rfl, rfl, c, q _ _ (.inl ⟨rfl, rfl⟩)⟩
    · cases hg
  · rename_i xs' kk
    obtain ⟨v, q1, v', q2, rfl, h1, h2⟩ := hr.two
    split at hg
    · rename_i hl
      cases hg
      obtain ⟨hz1, hk1, hk2, hl⟩ := hl
      obtain ⟨u, u', rfl, r1, r2⟩ := vals2 hv
      cases (h2 : v' = .int _)
      obtain ⟨a, vs, rfl, s1, l1, f1⟩ := RepO.asL k h1
      exact op_rep pins s σ H _ _ _ _ Q I r1 r2 ⟨a, kk, vs, rfl, rfl, s1, hk1, hk2, by rw [← l1, ← sl24]; exact hl, fun p hp => q _ _ (.inr (.inl ⟨p, _, _, hp, rfl, rfl, rfl, (f1 hz1).rep _⟩))⟩
    · cases hg
  · rename_i xs' kk
    obtain ⟨v, q1, v', q2, rfl, h1, h2⟩ := hr.two
    split at hg
    · rename_i hl
      cases hg
      obtain ⟨hz1, hk1, hk2, hl⟩ := hl
      obtain ⟨u, u', rfl, r1, r2⟩ := vals2 hv
      cases (h2 : v' = .int _)
      obtain ⟨a, vs, rfl, s1, f1, g1⟩ := RepO.asT k h1
      exact op_repT pins s σ H _ _ _ _ Q I r1 r2 ⟨a, kk, vs, rfl, rfl, s1, fun e => hz1 (f1.nil_iff.mpr e), hk1, hk2, by rw [← f1.length]; exact hl, fun p hp => q _ _ (.inr (.inr ⟨p, _, _, hp, rfl, rfl, rfl, f1.rep _⟩))⟩
    · cases hg
  · cases hg⟩
theorem rule_mod : Rule X (fun us => binaryOp .Mod (us.getD 0 .none) (us.getD 1 .none)) gMod := ⟨fun pins s σ H xs us Q F L ps r I hv k hr hg q => by
  unfold gMod at hg
  split at hg
  · obtain ⟨v, q1, v', q2, rfl, h1, h2⟩ := hr.two
    split at hg
    · rename_i hm
      cases hg
      cases (h1 : v = .int _)
      cases (h2 : v' = .int _)
      obtain ⟨u, u', rfl, r1, r2⟩ := vals2 hv
      exact op_mod pins s σ H _ _ _ _ Q I r1 r2 ⟨_, _, rfl, rfl, hm, q _ _ (.inl ⟨rfl, rfl⟩)⟩
    · cases hg
  · cases hg⟩
theorem rule_div : Rule X (fun us => binaryOp .FloorDiv (us.getD 0 .none) (us.getD 1 .none)) gDiv := ⟨fun pins s σ H xs us Q F L ps r I hv k hr hg q => by
  unfold gDiv at hg
  split at hg
  · obtain ⟨v, q1, v', q2, rfl, h1, h2⟩ := hr.two
    split at hg
    · rename_i hm
      cases hg
      cases (h1 : v = .int _)
      cases (h2 : v' = .int _)
      obtain ⟨u, u', rfl, r1, r2⟩ := vals2 hv
      exact op_fdivW pins s σ H _ _ _ _ Q I r1 r2 ⟨_, _, rfl, rfl, hm, q _ _ (.inl ⟨rfl, rfl⟩)⟩
    · cases hg
  · cases hg⟩
theorem rule_pow : Rule X (fun us => binaryOp .Pow (us.getD 0 .none) (us.getD 1 .none)) gPow := ⟨fun pins s σ H xs us Q F L ps r I hv k hr hg q => by
  unfold gPow at hg
  split at hg
  · obtain ⟨v, q1, v', q2, rfl, h1, h2⟩ := hr.two
    split at hg
    · rename_i hm
      cases hg
      cases (h1 : v = .int _)
      cases (h2 : v' = .int _)
      obtain ⟨u, u', rfl, r1, r2⟩ := vals2 hv
      exact op_pow pins s σ H _ _ _ _ Q I r1 r2 ⟨_, _, rfl, rfl, hm, q _ _ (.inl ⟨rfl, rfl⟩)⟩
    · cases hg
  · cases hg⟩
theorem rule_neg : Rule X (fun us => unaryOp .USub (us.getD 0 .none)) gNeg := ⟨fun pins s σ H xs us Q F L ps r I hv k hr hg q => by
  unfold gNeg at hg
  split at hg
  · obtain ⟨v, q1, rfl, h1⟩ := hr.one
    cases hg
    cases (h1 : v = .int _)
    obtain ⟨u, rfl, r1⟩ := vals1 hv
    exact un_neg pins s σ H _ _ Q I r1 ⟨_, rfl, q _ _ (.inl ⟨rfl, rfl⟩)⟩
  · cases hg⟩

/-- two pieces of data at values -/
theorem two_reads {pins : List (Addr × Obj)} {s : Shared} {σ : L2.St} {F H : Hp} {L : Lab} {p q : PV} {xs : List V} {us : List Value} {x y : PyData} (I : Inv X pins σ H s) (k : Same F H) (hr : ReA X.prog X.w X.K F H L [p, q] xs) (hv : Vals xs us)
    (e1 : pd p = some x) (e2 : pd q = some y) : ∃ u u' as bs, us = [u, u'] ∧ Reads s.heap u x as ∧ Reads s.heap u' y bs := by
  obtain ⟨v, q1, v', q2, rfl, h1, h2⟩ := hr.two
  obtain ⟨u, u', rfl, r1, r2⟩ := vals2 hv
  obtain ⟨as, z1⟩ := Dp.reads I x v u (RepO.dp k p q1 v x h1 e1) r1
  obtain ⟨bs, z2⟩ := Dp.reads I y v' u' (RepO.dp k q q2 v' y h2 e2) r2
  exact ⟨u, u', as, bs, rfl, z1, z2⟩
theorem cmpOk_room (G : Good X) {x y : PyData} (h : cmpOk x y = true) : PySem.W.alike x y = true ∧ x ≠ .none ∧ X.A.units + min x.depth y.depth < cLine := by
  unfold cmpOk at h
  simp only [Bool.and_eq_true, decide_eq_true_eq] at h
  have := G.un
  refine ⟨h.1.1, fun e => ?_, ?_⟩
  · rw [e] at h
    exact absurd h.1.2 (by simp [ndN])
  · have := Nat.min_le_left x.depth y.depth
    omega
theorem rule_lt (G : Good X) : Rule X (fun us => compareOp .Lt (us.getD 0 .none) (us.getD 1 .none)) gLt := ⟨fun pins s σ H xs us Q F L ps r I hv k hr hg q => by
  unfold gLt at hg
  split at hg
  · obtain ⟨v, q1, v', q2, rfl, h1, h2⟩ := hr.two
    cases hg
    cases (h1 : v = .int _)
    cases (h2 : v' = .int _)
    obtain ⟨u, u', rfl, r1, r2⟩ := vals2 hv
    exact op_lt pins s σ H _ _ _ _ Q I r1 r2 ⟨_, _, rfl, rfl, q _ _ (.inl ⟨rfl, rfl⟩)⟩
  · split at hg
    · rename_i x y e1 e2
      split at hg
      · rename_i hc
        cases hg
        obtain ⟨h1, h2, h3⟩ := cmpOk_room G hc
        obtain ⟨u, u', as, bs, rfl, z1, z2⟩ := two_reads I k hr hv e1 e2
        exact PySem.W.lt_data z1 z2 h1 h2 h3 ⟨.bl _, H, I, rfl, q (.bl _) _ (.inl ⟨rfl, rfl⟩)⟩
      · cases hg
    · cases hg
  · cases hg⟩
theorem rule_gt (G : Good X) : Rule X (fun us => compareOp .Gt (us.getD 0 .none) (us.getD 1 .none)) gGt := ⟨fun pins s σ H xs us Q F L ps r I hv k hr hg q => by
  unfold gGt at hg
  split at hg
  · obtain ⟨v, q1, v', q2, rfl, h1, h2⟩ := hr.two
    cases hg
    cases (h1 : v = .int _)
    cases (h2 : v' = .int _)
    obtain ⟨u, u', rfl, r1, r2⟩ := vals2 hv
    exact op_gt pins s σ H _ _ _ _ Q I r1 r2 ⟨_, _, rfl, rfl, q _ _ (.inl ⟨rfl, rfl⟩)⟩
  · split at hg
    · rename_i x y e1 e2
      split at hg
      · rename_i hc
        cases hg
        obtain ⟨h1, h2, h3⟩ := cmpOk_room G hc
        obtain ⟨u, u', as, bs, rfl, z1, z2⟩ := two_reads I k hr hv e1 e2
        exact PySem.W.gt_data z1 z2 h1 h2 h3 ⟨.bl _, H, I, rfl, q (.bl _) _ (.inl ⟨rfl, rfl⟩)⟩
      · cases hg
    · cases hg
  · cases hg⟩
theorem rule_le (G : Good X) : Rule X (fun us => compareOp .LtE (us.getD 0 .none) (us.getD 1 .none)) gLe := ⟨fun pins s σ H xs us Q F L ps r I hv k hr hg q => by
  unfold gLe at hg
  split at hg
  · obtain ⟨v, q1, v', q2, rfl, h1, h2⟩ := hr.two
    cases hg
    cases (h1 : v = .int _)
    cases (h2 : v' = .int _)
    obtain ⟨u, u', rfl, r1, r2⟩ := vals2 hv
    exact op_le pins s σ H _ _ _ _ Q I r1 r2 ⟨_, _, rfl, rfl, q _ _ (.inl ⟨rfl, rfl⟩)⟩
  · split at hg
    · rename_i x y e1 e2
      split at hg
      · rename_i hc
        cases hg
        obtain ⟨h1, h2, h3⟩ := cmpOk_room G hc
        obtain ⟨u, u', as, bs, rfl, z1, z2⟩ := two_reads I k hr hv e1 e2
        exact PySem.W.le_data z1 z2 h1 h2 h3 ⟨.bl _, H, I, rfl, q (.bl _) _ (.inl ⟨rfl, rfl⟩)⟩
      · cases hg
    · cases hg
  · cases hg⟩
theorem rule_ge (G : Good X) : Rule X (fun us => compareOp .GtE (us.getD 0 .none) (us.getD 1 .none)) gGe := ⟨fun pins s σ H xs us Q F L ps r I hv k hr hg q => by
  unfold gGe at hg
  split at hg
  · obtain ⟨v, q1, v', q2, rfl, h1, h2⟩ := hr.two
    cases hg
    cases (h1 : v = .int _)
    cases (h2 : v' = .int _)
    obtain ⟨u, u', rfl, r1, r2⟩ := vals2 hv
    exact op_ge pins s σ H _ _ _ _ Q I r1 r2 ⟨_, _, rfl, rfl, q _ _ (.inl ⟨rfl, rfl⟩)⟩
  · split at hg
    · rename_i x y e1 e2
      split at hg
      · rename_i hc
        cases hg
        obtain ⟨h1, h2, h3⟩ := cmpOk_room G hc
        obtain ⟨u, u', as, bs, rfl, z1, z2⟩ := two_reads I k hr hv e1 e2
        exact PySem.W.ge_data z1 z2 h1 h2 h3 ⟨.bl _, H, I, rfl, q (.bl _) _ (.inl ⟨rfl, rfl⟩)⟩
      · cases hg
    · cases hg
  · cases hg⟩
theorem Good.u64 (G : Good X) : X.A.units + 64 < cLine := by have := G.un; omega
theorem Good.u65 (G : Good X) : X.A.units + 65 < cLine := by have := G.un; omega
theorem rule_eq (G : Good X) : Rule X (fun us => compareOp .Eq (us.getD 0 .none) (us.getD 1 .none)) gEq := ⟨fun pins s σ H xs us Q F L ps r I hv k hr hg q => by
  unfold gEq at hg
  split at hg
  · unfold peq at hg
    split at hg
    · rename_i x y e1 e2
      split at hg
      · rename_i hc
        cases hg
        obtain ⟨u, u', as, bs, rfl, z1, z2⟩ := two_reads I k hr hv e1 e2
        exact SeqAt.compareEq_shaped z1 z2 hc.1 hc.2 G.u64 ⟨.bl _, H, I, rfl, q (.bl _) _ (.inl ⟨rfl, rfl⟩)⟩
      · cases hg
    · cases hg
  · cases hg⟩
theorem rule_ne (G : Good X) : Rule X (fun us => compareOp .NotEq (us.getD 0 .none) (us.getD 1 .none)) gNe := ⟨fun pins s σ H xs us Q F L ps r I hv k hr hg q => by
  unfold gNe at hg
  split at hg
  · unfold peq at hg
    split at hg
    · rename_i x y e1 e2
      split at hg
      · rename_i hc
        cases hg
        obtain ⟨u, u', as, bs, rfl, z1, z2⟩ := two_reads I k hr hv e1 e2
        exact SeqAt.compareNe_shaped z1 z2 hc.1 hc.2 G.u64 ⟨.bl _, H, I, rfl, q (.bl _) _ (.inl ⟨rfl, rfl⟩)⟩
      · cases hg
    · cases hg
  · cases hg⟩
theorem pd_lst {o : Bool} {xs : List PV} {ys : List PyData} (h : pds xs = some ys) : pd (.lst o xs) = some (.list ys) := by rw [pd, h]
theorem pd_tup {xs : List PV} {ys : List PyData} (h : pds xs = some ys) : pd (.tup xs) = some (.tuple ys) := by rw [pd, h]
theorem shaped_tl {ys : List PyData} (h : SeqAt.shaped (.list ys) = true) : PyData.canLayAll0 ys = true := SeqAt.canLay_of_shaped h
theorem rule_in (G : Good X) : Rule X (fun us => compareOp .In (us.getD 0 .none) (us.getD 1 .none)) gIn := ⟨fun pins s σ H xs us Q F L ps r I hv k hr hg q => by
  unfold gIn at hg
  split at hg
  · unfold pin at hg
    split at hg
    · rename_i x y e1 e2
      split at hg
      · rename_i hc
        cases hg
        obtain ⟨u, u', as, bs, rfl, z1, z2⟩ := two_reads I k hr hv e1 (pd_lst e2)
        exact SeqAt.in_list_reads z2 z1 (SeqAt.canLay_of_shaped hc.2) (SeqAt.canLay_of_shaped hc.1) (room_in_shaped hc.1 G.u65) ⟨.bl _, H, I, rfl, q (.bl _) _ (.inl ⟨rfl, rfl⟩)⟩
      · cases hg
    · cases hg
  · unfold pin at hg
    split at hg
    · rename_i x y e1 e2
      split at hg
      · rename_i hc
        cases hg
        obtain ⟨u, u', as, bs, rfl, z1, z2⟩ := two_reads I k hr hv e1 (pd_tup e2)
        exact SeqAt.in_tuple_reads z2 z1 (shaped_tl hc.2) (SeqAt.canLay_of_shaped hc.1) (room_in_shaped hc.1 G.u65) ⟨.bl _, H, I, rfl, q (.bl _) _ (.inl ⟨rfl, rfl⟩)⟩
      · cases hg
    · cases hg
  · cases hg⟩
theorem rule_notIn (G : Good X) : Rule X (fun us => compareOp .NotIn (us.getD 0 .none) (us.getD 1 .none)) gNotIn := ⟨fun pins s σ H xs us Q F L ps r I hv k hr hg q => by
  unfold gNotIn at hg
  split at hg
  · unfold pin at hg
    split at hg
    · rename_i x y e1 e2
      split at hg
      · rename_i hc
        cases hg
        obtain ⟨u, u', as, bs, rfl, z1, z2⟩ := two_reads I k hr hv e1 (pd_lst e2)
        exact SeqAt.notIn_list_reads z2 z1 (SeqAt.canLay_of_shaped hc.2) (SeqAt.canLay_of_shaped hc.1) (room_in_shaped hc.1 G.u65) ⟨.bl _, H, I, rfl, q (.bl _) _ (.inl ⟨rfl, rfl⟩)⟩
      · cases hg
    · cases hg
  · unfold pin at hg
    split at hg
    · rename_i x y e1 e2
      split at hg
      · rename_i hc
        cases hg
        obtain ⟨u, u', as, bs, rfl, z1, z2⟩ := two_reads I k hr hv e1 (pd_tup e2)
        exact SeqAt.notIn_tuple_reads z2 z1 (shaped_tl hc.2) (SeqAt.canLay_of_shaped hc.1) (room_in_shaped hc.1 G.u65) ⟨.bl _, H, I, rfl, q (.bl _) _ (.inl ⟨rfl, rfl⟩)⟩
      · cases hg
    · cases hg
  · cases hg⟩
theorem RepO.isN {P : Program} {w : World} {K : PySem.W.Frag} {F H : Hp} {L : Lab} {q : Path} {v : V} : ∀ {x : PV}, RepO P w K F H L q x v → decide (v = .non) = isN x
  | .non, h => by cases (show v = .non from h); rfl
  | .bl _, h => by cases (show v = .bl _ from h); rfl
  | .int _, h => by cases (show v = .int _ from h); rfl
  | .str _, h => by cases (show v = .str _ from h); rfl
  | .ref _, h => by cases (show v = .ref _ from h); rfl
  | .ty _, h => by cases (show v = .ty _ from h); rfl
  | .tup _, h => by
    rw [RepO, RepF] at h
    obtain ⟨a, vs, rfl, _⟩ := h
    rfl
  | .frl _, h => by
    rw [RepO, RepF] at h
    obtain ⟨a, vs, rfl, _⟩ := h
    rfl
  | .lst true _, h => by
    rw [RepO] at h
    obtain ⟨a, vs, rfl, _⟩ := h
    rfl
  | .lst false _, h => by
    rw [RepO, RepF] at h
    obtain ⟨_, a, vs, rfl, _⟩ := h
    rfl
  | .dct true _ _, h => by
    rw [RepO] at h
    obtain ⟨a, _, vs, rfl, _⟩ := h
    rfl
  | .dct false _ _, h => by
    rw [RepO, RepF] at h
    obtain ⟨_, a, _, vs, rfl, _⟩ := h
    rfl
theorem rule_is : Rule X (fun us => compareOp .Is (us.getD 0 .none) (us.getD 1 .none)) gIs := ⟨fun pins s σ H xs us Q F L ps r I hv k hr hg q => by
  unfold gIs at hg
  split at hg
  · obtain ⟨v, q1, v', q2, rfl, h1, h2⟩ := hr.two
    cases hg
    cases (h2 : v' = .non)
    obtain ⟨u, u', rfl, r1, r2⟩ := vals2 hv
    refine op_isN pins s σ H _ _ _ _ Q I r1 r2 ⟨rfl, ?_⟩
    rw [h1.isN]
    exact q _ _ (.inl ⟨rfl, rfl⟩)
  · obtain ⟨v, q1, v', q2, rfl, h1, h2⟩ := hr.two
    cases hg
    cases (h1 : v = .bl _)
    cases (h2 : v' = .bl _)
    obtain ⟨u, u', rfl, r1, r2⟩ := vals2 hv
    exact op_is_bl pins s σ H _ _ _ _ Q I r1 r2 ⟨_, _, rfl, rfl, q _ _ (.inl ⟨rfl, rfl⟩)⟩
  · cases hg⟩
theorem rule_isNot : Rule X (fun us => compareOp .IsNot (us.getD 0 .none) (us.getD 1 .none)) gIsNot := ⟨fun pins s σ H xs us Q F L ps r I hv k hr hg q => by
  unfold gIsNot at hg
  split at hg
  · obtain ⟨v, q1, v', q2, rfl, h1, h2⟩ := hr.two
    cases hg
    cases (h2 : v' = .non)
    obtain ⟨u, u', rfl, r1, r2⟩ := vals2 hv
    refine op_notN pins s σ H _ _ _ _ Q I r1 r2 ⟨rfl, ?_⟩
    rw [h1.isN]
    exact q _ _ (.inl ⟨rfl, rfl⟩)
  · obtain ⟨v, q1, v', q2, rfl, h1, h2⟩ := hr.two
    cases hg
    cases (h1 : v = .bl _)
    cases (h2 : v' = .bl _)
    obtain ⟨u, u', rfl, r1, r2⟩ := vals2 hv
    exact op_isnot_bl pins s σ H _ _ _ _ Q I r1 r2 ⟨_, _, rfl, rfl, q _ _ (.inl ⟨rfl, rfl⟩)⟩
  · cases hg⟩
end
end Pv
namespace Pv
open PySem PySem.Spec PyProof.Rows L2

/-! ### built-in functions on trees -/
def gLen : List PV → Option PV
  | [.lst _ xs] => some (.int xs.length)
  | [.tup xs] => some (.int xs.length)
  | [.frl xs] => some (.int xs.length)
  | _ => none
def gAbs : List PV → Option PV
  | [.int i] => some (.int (if i < 0 then -i else i))
  | _ => none
def gInt : List PV → Option PV
  | [.int i] => some (.int i)
  | [.bl b] => some (.int (if b = true then 1 else 0))
  | _ => none
def intsP : List PV → Option (List Int)
  | [] => some []
  | .int i :: r => match intsP r with
    | some is => some (i :: is)
    | none => none
  | _ => none
def blsP : List PV → Option (List Bool)
  | [] => some []
  | .bl i :: r => match blsP r with
    | some is => some (i :: is)
    | none => none
  | _ => none
def gSum : List PV → Option PV
  | [.lst _ xs] => (intsP xs).map fun is => .int is.sum
  | [.tup xs] => (intsP xs).map fun is => .int is.sum
  | _ => none
def gAll : List PV → Option PV
  | [.lst _ xs] => (blsP xs).map fun bs => .bl (bs.all id)
  | _ => none
def gAny : List PV → Option PV
  | [.lst _ xs] => (blsP xs).map fun bs => .bl (bs.any id)
  | _ => none
def gTuple : List PV → Option PV
  | [.lst _ xs] => if PV.fzs xs = true then some (.tup xs) else none
  | [.tup xs] => some (.tup xs)
  | _ => none
def gList : List PV → Option PV
  | [.lst _ xs] => if PV.fzs xs = true then some (.lst true xs) else none
  | [.tup xs] => some (.lst true xs)
  | _ => none
def pdD (p : PV) : PyData := match pd p with
  | some d => d
  | none => .none
/-- alike, place by place, all with all -/
def alikes (ds : List PyData) : Bool := ds.all fun d => ds.all fun d' => PySem.W.alike d d'
def isTupC : PyData → Bool
  | .tuple (_ :: _) => true
  | _ => false
def notTup : PyData → Bool
  | .tuple _ => false
  | .none => false
  | _ => true
def minP (x : PV) (xs : List PV) : PV := xs.foldl (fun a y => if PySem.W.dataLt (pdD y) (pdD a) = true then y else a) x
def maxP (x : PV) (xs : List PV) : PV := xs.foldl (fun a y => if PySem.W.dataLt (pdD a) (pdD y) = true then y else a) x
/-- the data of a list can be compared -/
def cmpAll (xs : List PV) : Bool := match pds xs with
  | some ds => PV.fzs xs && (alikes ds && ds.all ndN) && decide (PyData.depthAll ds ≤ 60)
  | none => false
def sortOk (xs : List PV) : Bool := cmpAll xs && ((xs.map pdD).all isTupC || (xs.map pdD).all notTup)
def gMin : List PV → Option PV
  | [.int a, .int b] => some (.int (if b < a then b else a))
  | [.lst _ (x :: xs)] => if cmpAll (x :: xs) = true then some (minP x xs) else none
  | [.tup (x :: xs)] => if cmpAll (x :: xs) = true then some (minP x xs) else none
  | _ => none
def gMax : List PV → Option PV
  | [.int a, .int b] => some (.int (if b > a then b else a))
  | [.lst _ (x :: xs)] => if cmpAll (x :: xs) = true then some (maxP x xs) else none
  | [.tup (x :: xs)] => if cmpAll (x :: xs) = true then some (maxP x xs) else none
  | _ => none
def sortP (xs : List PV) : List PV := xs.mergeSort (PySem.W.dataLe false pdD)
def gSorted : List PV → Option PV
  | [.lst _ xs] => if sortOk xs = true then some (.lst true (sortP xs)) else none
  | _ => none
def tyN : PV → Option String
  | .non => some "NoneType"
  | .bl _ => some "bool"
  | .int _ => some "int"
  | .str _ => some "str"
  | .tup _ => some "tuple"
  | .lst _ _ => some "list"
  | _ => none
def gIsi : List PV → Option PV
  | [x, .ty n] => match tyN x with
    | some m => (kitB m n).map .bl
    | none => none
  | _ => none
def isSmall (d : PyData) : Bool := d.showable && !d.hasDict && decide (d.depth ≤ 60) && decide (d.shown.length ≤ 16777216)
def gRepr : List PV → Option PV
  | [p] => match pd p with
    | some d => if isSmall d = true then some (.str d.shown) else none
    | none => none
  | _ => none

section
variable {X : Cx} {W : WX}
theorem Inv.hd (G : Good X) {pins : List (Addr × Obj)} {s : Shared} {σ : L2.St} {H : Hp} (I : L2.Inv X pins σ H s) : X.A.handled = none := I.ok.hd G.calm
theorem rule_len : Rule X (fun us => call (.builtin "len") us) gLen := ⟨fun pins s σ H xs us Q F L ps r I hv k hr hg q => by
  unfold gLen at hg
  split at hg
  · obtain ⟨v, q1, rfl, h1⟩ := hr.one
    cases hg
    obtain ⟨a, vs, rfl, s1, l1, _⟩ := RepO.asL k h1
    exact call_len_seq pins s σ H _ us Q I hv ⟨a, vs, rfl, .inl (SqL.of s1), by rw [← l1]; exact q _ _ (.inl ⟨rfl, rfl⟩)⟩
  · obtain ⟨v, q1, rfl, h1⟩ := hr.one
    cases hg
    obtain ⟨a, vs, rfl, s1, f1, _⟩ := RepO.asT k h1
    exact call_len_seq pins s σ H _ us Q I hv ⟨a, vs, rfl, .inr s1, by rw [← f1.length]; exact q _ _ (.inl ⟨rfl, rfl⟩)⟩
  · obtain ⟨v, q1, rfl, h1⟩ := hr.one
    cases hg
    rw [RepO, RepF] at h1
    obtain ⟨a, vs, rfl, s1, f1⟩ := h1
    exact call_len_seq pins s σ H _ us Q I hv ⟨a, vs, rfl, .inl (SqL.mono k s1), by rw [← f1.length]; exact q _ _ (.inl ⟨rfl, rfl⟩)⟩
  · cases hg⟩
theorem rule_abs : Rule X (fun us => call (.builtin "abs") us) gAbs := ⟨fun pins s σ H xs us Q F L ps r I hv k hr hg q => by
  unfold gAbs at hg
  split at hg
  · obtain ⟨v, q1, rfl, h1⟩ := hr.one
    cases hg
    cases (h1 : v = .int _)
    exact call_abs pins s σ H _ us Q I hv ⟨_, rfl, q _ _ (.inl ⟨rfl, rfl⟩)⟩
  · cases hg⟩
theorem rule_int : Rule X (fun us => call (.type "int") us) gInt := ⟨fun pins s σ H xs us Q F L ps r I hv k hr hg q => by
  unfold gInt at hg
  split at hg
  · obtain ⟨v, q1, rfl, h1⟩ := hr.one
    cases hg
    cases (h1 : v = .int _)
    exact call_int1 pins s σ H _ us Q I hv (.inl ⟨_, rfl, q _ _ (.inl ⟨rfl, rfl⟩)⟩)
  · obtain ⟨v, q1, rfl, h1⟩ := hr.one
    cases hg
    cases (h1 : v = .bl _)
    exact call_int1 pins s σ H _ us Q I hv (.inr ⟨_, rfl, q _ _ (.inl ⟨rfl, rfl⟩)⟩)
  · cases hg⟩
theorem intsP_vs {P : Program} {w : World} {K : PySem.W.Frag} {F : Hp} : ∀ {xs : List PV} {vs : List V} {is : List Int}, RepFs P w K F xs vs → intsP xs = some is → vs = is.map V.int
  | [], vs, is, h, e => by rw [RepFs] at h; rw [intsP] at e; cases e; exact h
  | x :: xs, vs, is, h, e => by
    rw [RepFs] at h
    obtain ⟨v, r, rfl, h1, h2⟩ := h
    cases x with
    | int i =>
      rw [intsP] at e
      split at e
      · rename_i is' e2
        cases e
        cases (show v = .int i from h1)
        rw [intsP_vs h2 e2]
        rfl
      · cases e
    | _ => simp [intsP] at e
theorem intsP_fzs : ∀ {xs : List PV} {is : List Int}, intsP xs = some is → PV.fzs xs = true
  | [], _, _ => rfl
  | x :: xs, is, e => by
    cases x with
    | int i =>
      rw [intsP] at e
      split at e
      · rename_i is' e2
        simp [PV.fzs, PV.fz, intsP_fzs e2]
      · cases e
    | _ => simp [intsP] at e
theorem bls_vs {P : Program} {w : World} {K : PySem.W.Frag} {F : Hp} : ∀ {xs : List PV} {vs : List V} {is : List Bool}, RepFs P w K F xs vs → blsP xs = some is → vs = is.map V.bl
  | [], vs, is, h, e => by rw [RepFs] at h; rw [blsP] at e; cases e; exact h
  | x :: xs, vs, is, h, e => by
    rw [RepFs] at h
    obtain ⟨v, r, rfl, h1, h2⟩ := h
    cases x with
    | bl i =>
      rw [blsP] at e
      split at e
      · rename_i is' e2
        cases e
        cases (show v = .bl i from h1)
        rw [bls_vs h2 e2]
        rfl
      · cases e
    | _ => simp [blsP] at e
theorem bls_fzs : ∀ {xs : List PV} {is : List Bool}, blsP xs = some is → PV.fzs xs = true
  | [], _, _ => rfl
  | x :: xs, is, e => by
    cases x with
    | bl i =>
      rw [blsP] at e
      split at e
      · rename_i is' e2
        simp [PV.fzs, PV.fz, bls_fzs e2]
      · cases e
    | _ => simp [blsP] at e
theorem sum_tup {prog : Program} {w : World} {A : Around} {E : Value → Shared → Prop} {s : Shared} {t : Addr} {its : List Value} {ns : List Int} {Q : Value → Shared → Prop} (hh : A.handled = none) (ht : s.heap.IsTuple t its.toArray) (hi : IntsAre its ns)
    (h : ∀ h' tk t', (∀ b o, s.heap.get? b = some o → h'.get? b = some o) → Q (.int ns.sum t') { s with heap := h', toks := tk }) : wpAny (model prog w) A (call (.builtin "sum") [.ref t]) Q E s := by
  obtain ⟨xs, e⟩ := hi.allInts.items
  have hn : numsOf (intItems xs).toList = ns := by rw [← e]; exact hi.numsOf
  rw [nums_intItems] at hn
  rw [e] at ht
  have hlt : t < s.heap.objs.size := by obtain ⟨_, q, _⟩ := ht; exact Heap.lt_size q
  refine call_sum_walkG (wpAny_pyIter_tuple ht ⟨_, _, _, _, _, _, numAt xs, rfl, Walks.tuple (A := A.in1) hh _ t (Nat.ne_of_lt hlt) (intItems xs), ⟨⟨_, Heap.get?_push_size _ rfl, rfl, rfl⟩, ht.push _⟩, fun b hb => ?_, (fun _ _ => intItems_at), fun h' tk t' hk => ?_⟩)
  · show b < (s.heap.push _).objs.size
    rw [Heap.size_push]
    have : b = s.heap.objs.size ∨ b = t := by simpa using hb
    rcases this with z | z
    · rw [z]; exact Nat.lt_succ_self _
    · rw [z]; exact Nat.lt_succ_of_lt hlt
  · have := h h' tk t' fun b o q => hk b o (by
      intro z
      have z : b = s.heap.objs.size := by simpa using z
      exact absurd (Heap.lt_size q) (by rw [z]; exact Nat.lt_irrefl _)) (Heap.get?_push_of_some _ q)
    have e2 : (intItems xs).size = xs.size := by simp [intItems]
    rw [e2, preSum_eq, List.take_of_length_le (by simp), hn]
    exact this
theorem rule_sum (G : Good X) : Rule X (fun us => call (.builtin "sum") us) gSum := ⟨fun pins s σ H xs us Q F L ps r I hv k hr hg q => by
  unfold gSum at hg
  split at hg
  · obtain ⟨v, q1, rfl, h1⟩ := hr.one
    rename_i o xs'
    cases e : intsP xs' with
    | none => rw [e] at hg; cases hg
    | some is =>
      rw [e] at hg
      cases hg
      obtain ⟨a, vs, rfl, s1, l1, f1⟩ := RepO.asL k h1
      exact cr_sum G.calm pins s σ H _ us Q I hv ⟨a, is, rfl, by rw [← intsP_vs (f1 (intsP_fzs e)) e]; exact SqL.of s1, q _ _ (.inl ⟨rfl, rfl⟩)⟩
  · obtain ⟨v, q1, rfl, h1⟩ := hr.one
    rename_i xs'
    cases e : intsP xs' with
    | none => rw [e] at hg; cases hg
    | some is =>
      rw [e] at hg
      cases hg
      obtain ⟨a, vs, rfl, s1, f1, _⟩ := RepO.asT k h1
      obtain ⟨its, rv, ht, _⟩ := I.tuple s1
      rw [intsP_vs f1 e] at rv
      rw [Vals.ref1 hv]
      exact sum_tup (I.ok.hd G.calm) (show s.heap.IsTuple a its.toArray from ht) rv.ints fun h' tk t' hk => ⟨.int _, H, I.kept hk, ⟨_, rfl⟩, q _ _ (.inl ⟨rfl, rfl⟩)⟩
  · cases hg⟩
theorem rule_all (G : Good X) : Rule X (fun us => call (.builtin "all") us) gAll := ⟨fun pins s σ H xs us Q F L ps r I hv k hr hg q => by
  unfold gAll at hg
  split at hg
  · obtain ⟨v, q1, rfl, h1⟩ := hr.one
    rename_i o xs'
    cases e : blsP xs' with
    | none => rw [e] at hg; cases hg
    | some is =>
      rw [e] at hg
      cases hg
      obtain ⟨a, vs, rfl, s1, l1, f1⟩ := RepO.asL k h1
      exact cr_all G.calm pins s σ H _ us Q I hv ⟨a, is, rfl, by rw [← bls_vs (f1 (bls_fzs e)) e]; exact SqL.of s1, q _ _ (.inl ⟨rfl, rfl⟩)⟩
  · cases hg⟩
theorem rule_any (G : Good X) : Rule X (fun us => call (.builtin "any") us) gAny := ⟨fun pins s σ H xs us Q F L ps r I hv k hr hg q => by
  unfold gAny at hg
  split at hg
  · obtain ⟨v, q1, rfl, h1⟩ := hr.one
    rename_i o xs'
    cases e : blsP xs' with
    | none => rw [e] at hg; cases hg
    | some is =>
      rw [e] at hg
      cases hg
      obtain ⟨a, vs, rfl, s1, l1, f1⟩ := RepO.asL k h1
      exact cr_any G.calm pins s σ H _ us Q I hv ⟨a, is, rfl, by rw [← bls_vs (f1 (bls_fzs e)) e]; exact SqL.of s1, q _ _ (.inl ⟨rfl, rfl⟩)⟩
  · cases hg⟩
theorem rule_tuple : Rule X (fun us => call (.type "tuple") us) gTuple := ⟨fun pins s σ H xs us Q F L ps r I hv k hr hg q => by
  unfold gTuple at hg
  split at hg
  · obtain ⟨v, q1, rfl, h1⟩ := hr.one
    split at hg
    · rename_i hz
      cases hg
      obtain ⟨a, vs, rfl, s1, l1, f1⟩ := RepO.asL k h1
      exact call_tuple_of pins s σ H _ us Q I hv ⟨a, vs, rfl, .inl ⟨SqL.of s1, fun l hl => q _ _ (.inr (.inr ⟨l, _, _, hl, rfl, rfl, rfl, f1 hz⟩))⟩⟩
    · cases hg
  · obtain ⟨v, q1, rfl, h1⟩ := hr.one
    cases hg
    have h1' := h1
    rw [RepO] at h1'
    obtain ⟨a, vs, rfl, s1, f1, _⟩ := RepO.asT k h1
    exact call_tuple_of pins s σ H _ us Q I hv ⟨a, vs, rfl, .inr ⟨s1, q _ _ (.inl ⟨rfl, h1'⟩)⟩⟩
  · cases hg⟩
theorem rule_list : Rule X (fun us => call (.type "list") us) gList := ⟨fun pins s σ H xs us Q F L ps r I hv k hr hg q => by
  unfold gList at hg
  split at hg
  · obtain ⟨v, q1, rfl, h1⟩ := hr.one
    split at hg
    · rename_i hz
      cases hg
      obtain ⟨a, vs, rfl, s1, l1, f1⟩ := RepO.asL k h1
      exact call_list_of pins s σ H _ us Q I hv ⟨a, vs, rfl, .inl (SqL.of s1), fun l hl => q _ _ (.inr (.inl ⟨l, _, _, hl, rfl, rfl, rfl, f1 hz⟩))⟩
    · cases hg
  · obtain ⟨v, q1, rfl, h1⟩ := hr.one
    cases hg
    obtain ⟨a, vs, rfl, s1, f1, _⟩ := RepO.asT k h1
    exact call_list_of pins s σ H _ us Q I hv ⟨a, vs, rfl, .inr s1, fun l hl => q _ _ (.inr (.inl ⟨l, _, _, hl, rfl, rfl, rfl, f1⟩))⟩
  · cases hg⟩
end

/-! data and trees are one -/
mutual
theorem pd_inj : ∀ (p q : PV) (d : PyData), p.fz = true → q.fz = true → pd p = some d → pd q = some d → p = q
  | .non, q, d, _, hq, h1, h2 => by
    rw [pd] at h1; cases h1
    cases q <;> simp [pd] at h2 <;> first | rfl | (split at h2 <;> cases h2)
  | .bl b, q, d, _, hq, h1, h2 => by
    rw [pd] at h1; cases h1
    cases q <;> simp [pd] at h2 <;> first | (rw [h2]) | (split at h2 <;> cases h2)
  | .int b, q, d, _, hq, h1, h2 => by
    rw [pd] at h1; cases h1
    cases q <;> simp [pd] at h2 <;> first | (rw [h2]) | (split at h2 <;> cases h2)
  | .str b, q, d, _, hq, h1, h2 => by
    rw [pd] at h1; cases h1
    cases q <;> simp [pd] at h2 <;> first | (rw [h2]) | (split at h2 <;> cases h2)
  | .tup xs, q, d, hp, hq, h1, h2 => by
    rw [pd] at h1
    split at h1
    · rename_i ds e1
      cases h1
      cases q with
      | tup ys =>
        rw [pd] at h2
        split at h2
        · rename_i ds' e2
          cases h2
          rw [pds_inj xs ys ds (by simpa [PV.fz] using hp) (by simpa [PV.fz] using hq) e1 e2]
        · cases h2
      | lst o ys => rw [pd] at h2; split at h2 <;> cases h2
      | _ => simp [pd] at h2
    · cases h1
  | .lst o xs, q, d, hp, hq, h1, h2 => by
    rw [pd] at h1
    split at h1
    · rename_i ds e1
      cases h1
      cases q with
      | lst o' ys =>
        rw [pd] at h2
        split at h2
        · rename_i ds' e2
          cases h2
          simp [PV.fz] at hp hq
          rw [hp.1, hq.1, pds_inj xs ys ds hp.2 hq.2 e1 e2]
        · cases h2
      | tup ys => rw [pd] at h2; split at h2 <;> cases h2
      | _ => simp [pd] at h2
    · cases h1
  | .frl _, q, d, _, hq, h1, h2 => by simp [pd] at h1
  | .ref _, q, d, _, hq, h1, h2 => by simp [pd] at h1
  | .ty _, q, d, _, hq, h1, h2 => by simp [pd] at h1
  | .dct .., q, d, _, hq, h1, h2 => by simp [pd] at h1
theorem pds_inj : ∀ (ps qs : List PV) (ds : List PyData), PV.fzs ps = true → PV.fzs qs = true → pds ps = some ds → pds qs = some ds → ps = qs
  | [], qs, ds, _, _, h1, h2 => by
    rw [pds] at h1; cases h1
    cases qs with
    | nil => rfl
    | cons q qs => rw [pds] at h2; split at h2 <;> cases h2
  | p :: ps, qs, ds, hp, hq, h1, h2 => by
    rw [pds] at h1
    split at h1
    · rename_i d ds' e1 e2
      cases h1
      cases qs with
      | nil => rw [pds] at h2; cases h2
      | cons q qs =>
        rw [pds] at h2
        split at h2
        · rename_i d' ds'' k1 k2
          cases h2
          simp [PV.fzs] at hp hq
          rw [pd_inj p q d hp.1 hq.1 e1 k1, pds_inj ps qs ds' hp.2 hq.2 e2 k2]
        · cases h2
    · cases h1
end
end Pv
namespace Pv
open PySem PySem.Spec PyProof.Rows L2

section
variable {X : Cx} {W : WX}
theorem alikes_all {ds : List PyData} (h : alikes ds = true ∧ ds.all ndN = true) : PySem.W.AllAlike ds := fun d hd d' hd' => List.all_eq_true.mp (List.all_eq_true.mp h.1 d hd) d' hd'
theorem alikes_all2 {ds : List PyData} (h : alikes ds = true ∧ ds.all ndN = true) : PySem.W.AlikeAll ds := ⟨fun d hd d' hd' => List.all_eq_true.mp (List.all_eq_true.mp h.1 d hd) d' hd', fun d hd e => by
  have := List.all_eq_true.mp h.2 d hd
  rw [e] at this
  cases this⟩
theorem pds_map : ∀ {xs : List PV} {ds : List PyData}, pds xs = some ds → xs.map pdD = ds
  | [], ds, h => by rw [pds] at h; cases h; rfl
  | x :: xs, ds, h => by
    rw [pds] at h
    split at h
    · rename_i d ds' e1 e2
      cases h
      rw [List.map_cons, pds_map e2]
      congr 1
      unfold pdD
      rw [e1]
    · cases h
theorem pds_mem : ∀ {xs : List PV} {ds : List PyData} {x : PV}, pds xs = some ds → x ∈ xs → pd x = some (pdD x) ∧ pdD x ∈ ds
  | [], ds, x, h, hm => by simp at hm
  | y :: xs, ds, x, h, hm => by
    rw [pds] at h
    split at h
    · rename_i d ds' e1 e2
      cases h
      rcases List.mem_cons.mp hm with rfl | hm
      · unfold pdD
        rw [e1]
        exact ⟨rfl, by simp⟩
      · obtain ⟨a, b⟩ := pds_mem e2 hm
        exact ⟨a, by simp [b]⟩
    · cases h
theorem depth_mem : ∀ {ds : List PyData} {d : PyData}, d ∈ ds → d.depth ≤ PyData.depthAll ds
  | x :: ds, d, hm => by
    rw [PyData.depthAll]
    rcases List.mem_cons.mp hm with rfl | hm
    · exact Nat.le_max_left _ _
    · exact Nat.le_trans (depth_mem hm) (Nat.le_max_right _ _)
theorem cmpAll_some {xs : List PV} (h : cmpAll xs = true) : ∃ ds, pds xs = some ds ∧ PV.fzs xs = true ∧ (alikes ds = true ∧ ds.all ndN = true) ∧ PyData.depthAll ds ≤ 60 := by
  unfold cmpAll at h
  split at h
  · rename_i ds e
    simp only [Bool.and_eq_true, decide_eq_true_eq] at h
    exact ⟨ds, e, h.1.1, h.1.2, h.2⟩
  · cases h
/-- the fold over trees picks one of them, and its data is the fold over the data -/
theorem fold_pd (f : PyData → PyData → Bool) : ∀ (xs : List PV) (x : PV),
    (xs.foldl (fun a y => if f (pdD y) (pdD a) = true then y else a) x ∈ x :: xs) ∧
    pdD (xs.foldl (fun a y => if f (pdD y) (pdD a) = true then y else a) x) = (xs.map pdD).foldl (fun a y => if f y a = true then y else a) (pdD x)
  | [], x => ⟨by simp, rfl⟩
  | y :: xs, x => by
    rw [List.foldl_cons, List.map_cons, List.foldl_cons]
    by_cases h : f (pdD y) (pdD x) = true
    · rw [if_pos h, if_pos h]
      obtain ⟨h1, h2⟩ := fold_pd f xs y
      exact ⟨List.mem_cons_of_mem _ h1, h2⟩
    · rw [if_neg h, if_neg h]
      obtain ⟨h1, h2⟩ := fold_pd f xs x
      refine ⟨?_, h2⟩
      rcases List.mem_cons.mp h1 with e | h1
      · rw [e]; simp
      · exact List.mem_cons_of_mem _ (List.mem_cons_of_mem _ h1)
theorem fold_pdG (f : PyData → PyData → Bool) : ∀ (xs : List PV) (x : PV),
    (xs.foldl (fun a y => if f (pdD a) (pdD y) = true then y else a) x ∈ x :: xs) ∧
    pdD (xs.foldl (fun a y => if f (pdD a) (pdD y) = true then y else a) x) = (xs.map pdD).foldl (fun a y => if f a y = true then y else a) (pdD x) := fun xs x => fold_pd (fun a b => f b a) xs x
theorem reads_same {h : Heap} {v : Value} {d d' : PyData} {as as' : List Addr} (r : Reads h v d as) (r' : Reads h v d' as') : d' = d := (reads_det (h := h) (h' := h) (fun _ _ e _ => e) r r').1
/-- an item of a list, by its data -/
theorem pick {F H : Hp} {pins : List (Addr × Obj)} {s : Shared} {σ : L2.St} {xs : List PV} {vs : List V} {its : List Value} {ds : List PyData} {i : Nat} {u : Value} {p : PV} {h' : Heap} {bs : List Addr} (I : L2.Inv X pins σ H s) (k : Same F H) (hf : RepFs X.prog X.w X.K F xs vs) (rv : Vals vs its)
    (e : pds xs = some ds) (hi : its[i]? = some u) (hz : PV.fzs xs = true) (hp : p ∈ xs) (hr : Reads h' u (pdD p) bs) (hk : ∀ b o, s.heap.get? b = some o → h'.get? b = some o) : ∃ v, RelV v u ∧ RepF X.prog X.w X.K F p v := by
  have hil : i < vs.length := by
    rw [rv.length]
    exact (List.getElem?_eq_some_iff.mp hi).1
  have hv := List.getElem?_eq_getElem hil
  obtain ⟨u', h1, r1⟩ := rv.get hv
  rw [hi] at h1
  cases h1
  obtain ⟨x, hx, hxr⟩ := hf.getV hv
  have hxm := List.mem_of_getElem? hx
  obtain ⟨ex, _⟩ := pds_mem e hxm
  obtain ⟨ep, _⟩ := pds_mem e hp
  obtain ⟨as, r2⟩ := Dp.reads I (pdD x) _ u (RepF.dp k x _ _ hxr ex) r1
  have : pdD p = pdD x := reads_same (PyProof.Rows.Reads.keeps hk r2) hr
  have e3 : x = p := pd_inj x p (pdD x) (PV.fzs_mem hz hxm) (PV.fzs_mem hz hp) ex (by rw [ep, this])
  subst e3
  exact ⟨_, r1, hxr⟩
theorem reads_all {F H : Hp} {pins : List (Addr × Obj)} {s : Shared} {σ : L2.St} {xs : List PV} {vs : List V} {its : List Value} {ds : List PyData} (I : L2.Inv X pins σ H s) (k : Same F H) (hf : RepFs X.prog X.w X.K F xs vs) (rv : Vals vs its) (e : pds xs = some ds) :
    ∃ as, ReadsAll s.heap its ds as := Dp.readsAll I ds vs its (RepFs.dp k xs vs ds hf e) rv
theorem rule_min (G : Good X) : Rule X (fun us => call (.builtin "min") us) gMin := ⟨fun pins s σ H xs us Q F L ps r I hv k hr hg q => by
  unfold gMin at hg
  split at hg
  · obtain ⟨v, q1, v', q2, rfl, h1, h2⟩ := hr.two
    cases hg
    cases (h1 : v = .int _)
    cases (h2 : v' = .int _)
    exact call_min2 G.calm pins s σ H _ us Q I hv ⟨_, _, rfl, q _ _ (.inl ⟨rfl, rfl⟩)⟩
  · obtain ⟨v, q1, rfl, h1⟩ := hr.one
    rename_i o x xs'
    split at hg
    · rename_i hc
      cases hg
      obtain ⟨ds, e, hz, ha, hd⟩ := cmpAll_some hc
      obtain ⟨a, vs, rfl, s1, l1, f1⟩ := RepO.asL k h1
      have f1 := f1 hz
      obtain ⟨u, rfl, r1⟩ := vals1 hv
      cases r1
      obtain ⟨its, rv, hl, _⟩ := I.list (SqL.of s1)
      obtain ⟨as, hrd⟩ := reads_all I k f1 rv e
      have em := pds_map e
      rw [List.map_cons] at em
      subst em
      have hu := G.un
      refine PySem.W.min_list_data (Inv.hd G I) hl.isList (by simpa using hrd) (alikes_all2 ha) (by omega) fun i u h' tk bs hi hr' hk' => ?_
      obtain ⟨m1, m2⟩ := fold_pd PySem.W.dataLt xs' x
      obtain ⟨v, rv', rp⟩ := pick I k f1 rv e (by simpa using hi) hz m1 (by rw [m2]; exact hr') hk'
      exact ⟨v, H, I.kept hk', rv', q _ _ (.inl ⟨rfl, rp⟩)⟩
    · cases hg
  · obtain ⟨v, q1, rfl, h1⟩ := hr.one
    rename_i x xs'
    split at hg
    · rename_i hc
      cases hg
      obtain ⟨ds, e, hz, ha, hd⟩ := cmpAll_some hc
      obtain ⟨a, vs, rfl, s1, f1, _⟩ := RepO.asT k h1
      obtain ⟨u, rfl, r1⟩ := vals1 hv
      cases r1
      obtain ⟨its, rv, hl, _⟩ := I.tuple s1
      obtain ⟨as, hrd⟩ := reads_all I k f1 rv e
      have em := pds_map e
      rw [List.map_cons] at em
      subst em
      have hu := G.un
      refine PySem.W.min_tuple_data (Inv.hd G I) hl (by simpa using hrd) (alikes_all2 ha) (by omega) fun i u h' tk bs hi hr' hk' => ?_
      obtain ⟨m1, m2⟩ := fold_pd PySem.W.dataLt xs' x
      obtain ⟨v, rv', rp⟩ := pick I k f1 rv e (by simpa using hi) hz m1 (by rw [m2]; exact hr') hk'
      exact ⟨v, H, I.kept hk', rv', q _ _ (.inl ⟨rfl, rp⟩)⟩
    · cases hg
  · cases hg⟩
theorem rule_max (G : Good X) : Rule X (fun us => call (.builtin "max") us) gMax := ⟨fun pins s σ H xs us Q F L ps r I hv k hr hg q => by
  unfold gMax at hg
  split at hg
  · obtain ⟨v, q1, v', q2, rfl, h1, h2⟩ := hr.two
    cases hg
    cases (h1 : v = .int _)
    cases (h2 : v' = .int _)
    exact call_max2 G.calm pins s σ H _ us Q I hv ⟨_, _, rfl, q _ _ (.inl ⟨rfl, rfl⟩)⟩
  · obtain ⟨v, q1, rfl, h1⟩ := hr.one
    rename_i o x xs'
    split at hg
    · rename_i hc
      cases hg
      obtain ⟨ds, e, hz, ha, hd⟩ := cmpAll_some hc
      obtain ⟨a, vs, rfl, s1, l1, f1⟩ := RepO.asL k h1
      have f1 := f1 hz
      obtain ⟨u, rfl, r1⟩ := vals1 hv
      cases r1
      obtain ⟨its, rv, hl, _⟩ := I.list (SqL.of s1)
      obtain ⟨as, hrd⟩ := reads_all I k f1 rv e
      have em := pds_map e
      rw [List.map_cons] at em
      subst em
      have hu := G.un
      refine PySem.W.max_list_data (Inv.hd G I) hl.isList (by simpa using hrd) (alikes_all2 ha) (by omega) fun i u h' tk bs hi hr' hk' => ?_
      obtain ⟨m1, m2⟩ := fold_pdG PySem.W.dataLt xs' x
      obtain ⟨v, rv', rp⟩ := pick I k f1 rv e (by simpa using hi) hz m1 (by rw [m2]; exact hr') hk'
      exact ⟨v, H, I.kept hk', rv', q _ _ (.inl ⟨rfl, rp⟩)⟩
    · cases hg
  · obtain ⟨v, q1, rfl, h1⟩ := hr.one
    rename_i x xs'
    split at hg
    · rename_i hc
      cases hg
      obtain ⟨ds, e, hz, ha, hd⟩ := cmpAll_some hc
      obtain ⟨a, vs, rfl, s1, f1, _⟩ := RepO.asT k h1
      obtain ⟨u, rfl, r1⟩ := vals1 hv
      cases r1
      obtain ⟨its, rv, hl, _⟩ := I.tuple s1
      obtain ⟨as, hrd⟩ := reads_all I k f1 rv e
      have em := pds_map e
      rw [List.map_cons] at em
      subst em
      have hu := G.un
      refine PySem.W.max_tuple_data (Inv.hd G I) hl (by simpa using hrd) (alikes_all2 ha) (by omega) fun i u h' tk bs hi hr' hk' => ?_
      obtain ⟨m1, m2⟩ := fold_pdG PySem.W.dataLt xs' x
      obtain ⟨v, rv', rp⟩ := pick I k f1 rv e (by simpa using hi) hz m1 (by rw [m2]; exact hr') hk'
      exact ⟨v, H, I.kept hk', rv', q _ _ (.inl ⟨rfl, rp⟩)⟩
    · cases hg
  · cases hg⟩

/-! ### sorted -/
theorem isTupC_of {d : PyData} (h : isTupC d = true) : ∃ x r, d = .tuple (x :: r) := by
  unfold isTupC at h
  split at h
  · exact ⟨_, _, rfl⟩
  · cases h
theorem notTup_of {d : PyData} (h : notTup d = true) : d ≠ .none ∧ ∀ xs, d ≠ .tuple xs := by
  unfold notTup at h
  constructor
  · rintro rfl; cases h
  · rintro xs rfl; cases h
theorem each_of {F : Hp} : ∀ {xs : List PV} {vs : List V} {its : List Value}, RepFs X.prog X.w X.K F xs vs → Vals vs its → PySem.W.EachIs (fun u p => ∃ v, RelV v u ∧ RepF X.prog X.w X.K F p v) its xs
  | [], vs, its, h, r => by
    rw [RepFs] at h
    subst h
    cases r
    exact .nil
  | x :: xs, vs, its, h, r => by
    rw [RepFs] at h
    obtain ⟨v, rr, rfl, h1, h2⟩ := h
    cases r with
    | cons r1 r2 => exact .cons ⟨v, r1, h1⟩ (each_of h2 r2)
theorem of_each {F : Hp} : ∀ {its : List Value} {xs : List PV}, PySem.W.EachIs (fun u p => ∃ v, RelV v u ∧ RepF X.prog X.w X.K F p v) its xs → ∃ vs, Vals vs its ∧ RepFs X.prog X.w X.K F xs vs
  | _, _, .nil => ⟨[], .nil, by rw [RepFs]⟩
  | _, _, .cons ⟨v, r1, h1⟩ t => by
    obtain ⟨vs, r2, h2⟩ := of_each t
    refine ⟨v :: vs, .cons r1 r2, ?_⟩
    rw [RepFs]
    exact ⟨v, vs, rfl, h1, h2⟩
theorem each_reads {F H : Hp} {pins : List (Addr × Obj)} {s : Shared} {σ : L2.St} (I : L2.Inv X pins σ H s) (k : Same F H) : ∀ {xs : List PV} {vs : List V} {its : List Value}, RepFs X.prog X.w X.K F xs vs → Vals vs its → (∀ x ∈ xs, pd x = some (pdD x)) →
    PySem.W.EachIs (fun u p => ∃ as, Reads s.heap u (pdD p) as) its xs
  | [], vs, its, h, r, e => by
    rw [RepFs] at h
    subst h
    cases r
    exact .nil
  | x :: xs, vs, its, h, r, e => by
    rw [RepFs] at h
    obtain ⟨v, rr, rfl, h1, h2⟩ := h
    cases r with
    | cons r1 r2 => exact .cons (Dp.reads I (pdD x) v _ (RepF.dp k x v _ h1 (e x (by simp))) r1) (each_reads I k h2 r2 fun y hy => e y (by simp [hy]))
theorem rule_sorted (G : Good X) : Rule X (fun us => call (.builtin "sorted") us) gSorted := ⟨fun pins s σ H xs us Q F L ps r I hv k hr hg q => by
  unfold gSorted at hg
  split at hg
  · obtain ⟨v, q1, rfl, h1⟩ := hr.one
    rename_i o xs'
    split at hg
    · rename_i hc
      cases hg
      unfold sortOk at hc
      simp only [Bool.and_eq_true, Bool.or_eq_true] at hc
      obtain ⟨hc, ht⟩ := hc
      obtain ⟨ds, e, hz, ha, hd⟩ := cmpAll_some hc
      obtain ⟨a, vs, rfl, s1, l1, f1⟩ := RepO.asL k h1
      have f1 := f1 hz
      obtain ⟨u, rfl, r1⟩ := vals1 hv
      cases r1
      obtain ⟨its, rv, hl, hsz⟩ := I.list (SqL.of s1)
      have em := pds_map e
      have hu := G.un
      refine PySem.W.sorted_data (enc := pdD) (bs := xs') (R := fun u p => ∃ v, RelV v u ∧ RepF X.prog X.w X.K F p v) hl.isList (each_of f1 rv) (each_reads I k f1 rv fun x hx => (pds_mem e hx).1) (by rw [em]; exact alikes_all ha) ?_ (by rw [l1]; exact hsz)
        (fun b hb => by have := depth_mem (pds_mem e hb).2; omega) fun out hlen ho => ?_
      · rcases ht with ht | ht
        · exact .inl fun d hd => isTupC_of (List.all_eq_true.mp ht d hd)
        · exact .inr fun d hd => notTup_of (List.all_eq_true.mp ht d hd)
      · obtain ⟨ws, rw', hw⟩ := of_each ho
        obtain ⟨ep, he'⟩ := PyProof.Rows.sortedAll_at s.heap its (List.toArray out)
        have hlen2 : ws.length ≤ sizeLine := by rw [rw'.length, hlen, l1]; exact hsz
        exact ⟨.ref _, upd H (s.heap.objs.size + 1) (.lst ws), I.laid (t' := s.toks) (fun _ _ => PyProof.Rows.sortedAll_old) (Nat.le_succ _) ⟨hlen2, out, ep, rw', by simpa using he'⟩, rfl,
          q _ _ (.inr (.inl ⟨_, ws, _, I.hok.fresh (Nat.le_succ _), rfl, rfl, rfl, hw⟩))⟩
    · cases hg
  · cases hg⟩

/-! ### isinstance, repr -/
theorem RepO.ty {F H : Hp} {L : Lab} {q : Path} {v : V} {n : String} (k : Same F H) {x : PV} (h : RepO X.prog X.w X.K F H L q x v) (e : tyN x = some n) : TyX X.K H v (.type n) := by
  cases x with
  | non =>
    obtain rfl : "NoneType" = n := Option.some.inj e
    rw [show v = .non from h]; exact .base .non
  | bl b =>
    obtain rfl : "bool" = n := Option.some.inj e
    rw [show v = .bl b from h]; exact .base (.bl _)
  | int i =>
    obtain rfl : "int" = n := Option.some.inj e
    rw [show v = .int i from h]; exact .base (.int _)
  | str z =>
    obtain rfl : "str" = n := Option.some.inj e
    rw [show v = .str z from h]; exact .base (.str _)
  | tup xs =>
    obtain rfl : "tuple" = n := Option.some.inj e
    obtain ⟨a, vs, rfl, s1, f1, _⟩ := RepO.asT k h
    rcases s1 with (s1 | ⟨o, s1⟩) | ⟨o, its, n, h1, h2, _⟩
    · exact .base (.tup s1)
    · exact .fTuple s1
    · exact .kTuple h1 h2
  | lst o xs =>
    obtain rfl : "list" = n := Option.some.inj e
    obtain ⟨a, vs, rfl, s1, _⟩ := RepO.asL k h
    exact .base (.lst s1)
  | ref a => exact absurd e (by simp [tyN])
  | ty m => exact absurd e (by simp [tyN])
  | frl xs => exact absurd e (by simp [tyN])
  | dct o ks vs => exact absurd e (by simp [tyN])
theorem rule_isi : Rule X (fun us => call (.builtin "isinstance") us) gIsi := ⟨fun pins s σ H xs us Q F L ps r I hv k hr hg q => by
  unfold gIsi at hg
  split at hg
  · obtain ⟨v, q1, v', q2, rfl, h1, h2⟩ := hr.two
    cases (show v' = .ty _ from h2)
    split at hg
    · rename_i m em
      rename_i n _ _
      cases e : kitB m _ with
      | none => rw [e] at hg; cases hg
      | some b =>
        rw [e] at hg
        cases hg
        exact call_isi pins s σ H _ us Q I hv ⟨v, .ty _, .type m, .type _, b, rfl, .ty _, RepO.ty k h1 em, kit_ty e, q _ _ (.inl ⟨rfl, rfl⟩)⟩
    · cases hg
  · cases hg⟩
theorem rule_repr (G : Good X) : Rule X (fun us => call (.builtin "repr") us) gRepr := ⟨fun pins s σ H xs us Q F L ps r I hv k hr hg q => by
  unfold gRepr at hg
  split at hg
  · obtain ⟨v, q1, rfl, h1⟩ := hr.one
    split at hg
    · rename_i d e
      split at hg
      · rename_i hs
        cases hg
        unfold isSmall at hs
        simp only [Bool.and_eq_true, decide_eq_true_eq, Bool.not_eq_true'] at hs
        obtain ⟨⟨⟨hs1, hs2⟩, hs3⟩, hs4⟩ := hs
        obtain ⟨u, rfl, r1⟩ := vals1 hv
        obtain ⟨as, rd⟩ := Dp.reads I d v u (RepO.dp k _ q1 v d h1 e) r1
        have hu := G.un
        have fin : ∀ h' t tk, (∀ b o, s.heap.get? b = some o → h'.get? b = some o) → EP X pins σ Q (.str d.shown t) { s with heap := h', toks := tk } := fun h' t tk hk => ⟨.str d.shown, H, I.kept hk, ⟨t, rfl⟩, q _ _ (.inl ⟨rfl, rfl⟩)⟩
        cases rd with
        | none => exact PySem.P.repr_of_none (fin _ _ _ fun _ _ e => e)
        | bool b => exact PySem.P.repr_of_bool (by have := fin s.heap s.toks (s.toks + 1) fun _ _ e => e; unfold PyData.shown at this; exact this)
        | int i t =>
          refine SkE.call_repr_int pins s σ H [.int i] _ Q I (.cons ⟨t, rfl⟩ .nil) ⟨i, rfl, of_decide_eq_true hs1, ?_⟩
          have := q (.str (PyData.shown (.int i))) H (.inl ⟨rfl, rfl⟩)
          unfold PyData.shown at this
          exact this
        | str x t =>
          have hs5 : (PyData.shown (.str x)).length ≤ 16777216 := hs4
          unfold PyData.shown at hs5
          refine PySem.P.repr_of_str ?_ (by rw [← sl24]; exact hs5)
          have := fin s.heap s.toks (s.toks + 1) fun _ _ e => e
          unfold PyData.shown at this
          exact this
        | list h1 h2 h3 h4 =>
          exact repr_of_reads' (.list h1 h2 h3 h4) hs1 (PyData.noDict_hsm hs2) G.gd (by omega) (fun _ _ e => e) (fun h' u tk hk => fin h' u tk hk) (by rw [← sl24]; exact hs4)
        | tuple h1 h2 h3 h4 =>
          exact repr_of_reads' (.tuple h1 h2 h3 h4) hs1 (PyData.noDict_hsm hs2) G.gd (by omega) (fun _ _ e => e) (fun h' u tk hk => fin h' u tk hk) (by rw [← sl24]; exact hs4)
        | dict _ _ _ _ _ => cases hs2
      · cases hg
    · cases hg
  · cases hg⟩
end
end Pv
namespace Pv
open PySem PySem.Spec PyProof.Rows L2

section
variable {P : Program} {w : World} {K : PySem.W.Frag} {W : WX} {α β : Type} {es : PEnv} {xs : List V} {σ : L2.St} {H : Hp}
/-- the intermediate results are no longer wanted -/
theorem tZ.drop {d : D α} {ps : α → PEnv} {Q : α → List V → Hp → Prop} (h : tZ P w K W es xs d σ H ps Q) : tZ P w K W [] [] d σ H ps Q := by
  obtain ⟨env, tm, τ, F, L, hl, R, h⟩ := h
  refine ⟨env, tm, τ, F, L, rfl, by simpa using R.popN hl, ?_⟩
  cases e : d env with
  | no => rw [e] at h; exact h
  | ok a env' => rw [e] at h; exact h
  | ex c env' => rw [e] at h; exact h
/-- a step that reads the state alone -/
theorem tZ.get {f : PEnv → Option α} {g : α → D β} {ps : β → PEnv} {Q : β → List V → Hp → Prop} (h : tZ P w K W es xs (dbind (dget f) g) σ H ps Q) :
    ∃ env tm τ F L a, es.length = xs.length ∧ Rel P w K env (tm ++ es) σ (τ ++ xs) F H L ∧ f env = some a ∧ tZ P w K W es xs (g a) σ H ps Q := by
  obtain ⟨env, tm, τ, F, L, hl, R, h⟩ := h
  unfold dbind dget at h
  cases e : f env with
  | none => rw [e] at h; exact h.elim
  | some a =>
    rw [e] at h
    exact ⟨env, tm, τ, F, L, a, hl, R, e, ⟨env, tm, τ, F, L, hl, R, h⟩⟩
end

/-! ### a truth value read -/
def boolOf (p : Option PV) : Option Bool := match p with
  | some (.bl b) => some b
  | _ => none
def dbool (a : Sl) : D Bool := dget fun env => boolOf (cont env a)
def dtst (d : D Sl) : D Bool := dbind d dbool
def dand (a b : D Sl) : D Sl := dbind a fun x => dbind (dbool x) fun k => if k = true then b else dcon (.bl false)
def dor (a b : D Sl) : D Sl := dbind a fun x => dbind (dbool x) fun k => if k = true then dcon (.bl true) else b
def dnot (a : D Sl) : D Sl := dbind a fun x => dbind (dbool x) fun k => dcon (.bl (!k))
def dtand (a b : D Bool) : D Bool := dbind a fun k => if k = true then b else dpure false
def dtor (a b : D Bool) : D Bool := dbind a fun k => if k = true then dpure true else b
def dtnot (a : D Bool) : D Bool := dbind a fun k => dpure (!k)
def dif (t : D Bool) (a b : D Sl) : D Sl := dbind t fun k => if k = true then a else b
section
variable {X : Cx} {W : WX} {a b c : Expr} {da db dc : D Sl} {ta tb : D Bool} {pos : Pos} {rest : List Expr}
theorem boolOf_some {p : Option PV} {b : Bool} (h : boolOf p = some b) : p = some (.bl b) := by
  unfold boolOf at h
  split at h
  · cases h; rfl
  · cases h
/-- the top entry is a truth value -/
theorem tZ.bool {α : Type} {es : PEnv} {xs : List V} {σ : L2.St} {H : Hp} {e : Sl} {x : V} {g : Bool → D α} {ps : α → PEnv} {Q : α → List V → Hp → Prop} (h : tZ X.prog X.w X.K W (es ++ [e]) (xs ++ [x]) (dbind (dbool e) g) σ H ps Q) (hl : es.length = xs.length) :
    ∃ k, x = .bl k ∧ tZ X.prog X.w X.K W (es ++ [e]) (xs ++ [x]) (g k) σ H ps Q := by
  obtain ⟨env, tm, τ, F, L, k, _, R, e1, h⟩ := h.get
  have R2 : Rel X.prog X.w X.K env ((tm ++ es) ++ [e]) σ ((τ ++ xs) ++ [x]) F H L := by simpa using R
  obtain ⟨p, hp⟩ := R2.top.rep (boolOf_some e1)
  exact ⟨k, hp, h⟩
theorem tE.bool {α : Type} {σ : L2.St} {H : Hp} {d : D Sl} {g : Bool → D α} {ps : α → PEnv} {Q : α → List V → Hp → Prop} (h : tZ X.prog X.w X.K W [] [] (dbind d fun x => dbind (dbool x) g) σ H ps Q) :
    tE X.prog X.w X.K W d σ H fun x H1 => ∃ k, x = .bl k ∧ tZ X.prog X.w X.K W [] [] (g k) σ H1 ps Q :=
  (tE.bind (es := []) (xs := []) h).mono fun v H1 ⟨e, q⟩ => by
    obtain ⟨k, ek, q⟩ := tZ.bool (es := []) (xs := []) q rfl
    exact ⟨k, ek, q.drop⟩
theorem tE.con {pv : PV} {v : V} {σ : L2.St} {H : Hp} {Q : VK} (h : tE X.prog X.w X.K W (dcon pv) σ H Q) (r : ∀ F, RepF X.prog X.w X.K F pv v) : Q v H := by
  obtain ⟨env, tm, τ, F, L, _, R, h⟩ := h
  exact h [v] F H L rfl (Same.refl F) (by simpa using R.pushF (r F)) v rfl
theorem ev_one {op : BoolOp} (ha : EV X W a da) : EV X W (.BoolOp op [a] pos) da := pe_one ha
theorem ev_and (ha : EV X W a da) (hb : EV X W (.BoolOp .And (b :: rest) pos) db) : EV X W (.BoolOp .And (a :: b :: rest) pos) (dand da db) :=
  PEimp (pe_and ha hb) fun σ H Q h => (tE.bool h).mono fun v H1 ⟨k, e, q⟩ => ⟨k, e, by
    cases k with
    | true => exact q
    | false => exact tE.con (W := W) q fun _ => rfl⟩
theorem ev_or (ha : EV X W a da) (hb : EV X W (.BoolOp .Or (b :: rest) pos) db) : EV X W (.BoolOp .Or (a :: b :: rest) pos) (dor da db) :=
  PEimp (pe_or ha hb) fun σ H Q h => (tE.bool h).mono fun v H1 ⟨k, e, q⟩ => ⟨k, e, by
    cases k with
    | true => exact tE.con (W := W) q fun _ => rfl
    | false => exact q⟩
theorem ev_not (ha : EV X W a da) : EV X W (.UnaryOp .Not a pos) (dnot da) :=
  PEimp (pe_not ha) fun σ H Q h => (tE.bool h).mono fun v H1 ⟨k, e, q⟩ => ⟨k, e, tE.con (W := W) q fun _ => rfl⟩
theorem ev_if (ht : TV X W c ta) (ha : EV X W a da) (hb : EV X W b db) : EV X W (.IfExp c a b pos) (dif ta da db) :=
  PEimp (pe_ifExp ht ha hb) fun σ H Q h => (tT.bind (es := []) (xs := []) h).mono fun k H1 q => by
    cases k with
    | true => exact q
    | false => exact q

/-! tests -/
theorem tT.pure {k : Bool} {σ : L2.St} {H : Hp} {Q : Bool → Hp → Prop} (h : tT X.prog X.w X.K W (dpure k) σ H Q) : Q k H := by
  obtain ⟨env, tm, τ, F, L, _, R, h⟩ := h
  exact h [] F H L rfl (Same.refl F) (by simpa using R)
theorem tT.bool {σ : L2.St} {H : Hp} {d : D Sl} {Q : Bool → Hp → Prop} (h : tT X.prog X.w X.K W (dtst d) σ H Q) : tE X.prog X.w X.K W d σ H fun x H1 => ∃ k, x = .bl k ∧ Q k H1 :=
  (tE.bind (es := []) (xs := []) h).mono fun v H1 ⟨e, q⟩ => by
    obtain ⟨env, tm, τ, F, L, hl, R, q⟩ := q
    unfold dbool dget at q
    dsimp only at q
    cases e1 : boolOf (cont env e) with
    | none => rw [e1] at q; exact q.elim
    | some k =>
      rw [e1] at q
      obtain ⟨p, hp⟩ := R.top.rep (boolOf_some e1)
      exact ⟨k, hp, q [] F H1 L rfl (Same.refl F) (by simpa using R.pop)⟩
theorem tv_val (ha : EV X W a da) (he : ∀ whole, isTrue a X.env whole = (do let v ← whole; standAt a.pos; holding [v] (truthy v)) := by intro _; rfl) : TV X W a (dtst da) :=
  PTimp (pt_val ha he) fun σ H Q h => tT.bool h
theorem tv_cmp {op : CmpOp} {f : Sl → Sl → D Sl} (ho : OpI X W (compareOp op) f) (hm : behindInMarks op b = false) (ha : EV X W a da) (hb : EV X W b db) : TV X W (.Compare a [op] [b] pos) (dtst (dop f da db)) :=
  PTimp (pt_cmpR ho ha hb hm) fun σ H Q h => (tE.bind (es := []) (xs := []) (tT.bool h)).mono fun v H1 ⟨e, q⟩ => (tE.bind q).mono fun u H2 ⟨e2, q2⟩ => ⟨σ, e, e2, q2⟩
theorem tv_not (ha : TV X W a ta) : TV X W (.UnaryOp .Not a pos) (dtnot ta) :=
  PTimp (pt_not ha) fun σ H Q h => (tT.bind (es := []) (xs := []) h).mono fun k H1 q => tT.pure (W := W) q
abbrev WV (X : Cx) (W : WX) (e : Expr) (d : D Bool) : Prop := PW X e (tT X.prog X.w X.K W d)
theorem PWimp {e : Expr} {t t' : TT} (h : PW X e t) (k : ∀ σ H Q, t' σ H Q → t σ H Q) : PW X e t' := ⟨fun wh pins s σ H Q I q => h.run wh pins s σ H Q I (k σ H Q q)⟩
theorem wv_and1 (ha : TV X W a ta) : WV X W (.BoolOp .And [a] pos) ta := pw_and1 ha
theorem wv_or1 (ha : TV X W a ta) : WV X W (.BoolOp .Or [a] pos) ta := pw_or1 ha
theorem wv_and (ha : TV X W a ta) (hb : WV X W (.BoolOp .And (b :: rest) pos) tb) : WV X W (.BoolOp .And (a :: b :: rest) pos) (dtand ta tb) :=
  PWimp (pw_and ha hb) fun σ H Q h => (tT.bind (es := []) (xs := []) h).mono fun k H1 q => by
    cases k with
    | true => exact q
    | false => exact tT.pure (W := W) q
theorem wv_or (ha : TV X W a ta) (hb : WV X W (.BoolOp .Or (b :: rest) pos) tb) : WV X W (.BoolOp .Or (a :: b :: rest) pos) (dtor ta tb) :=
  PWimp (pw_or ha hb) fun σ H Q h => (tT.bind (es := []) (xs := []) h).mono fun k H1 q => by
    cases k with
    | true => exact tT.pure (W := W) q
    | false => exact q
theorem tv_w (h : WV X W a ta) : TV X W a ta := h.pt

/-! ### a < b < c -/
def rR (P : Program) (w : World) (K : PySem.W.Frag) (g : List PV → Option PV) : R2 := fun x y H Q => ∃ F L p q r, Same F H ∧ ReA P w K F H L [p, q] [x, y] ∧ g [p, q] = some r ∧ ∀ v H', Res P w K F H r v H' → Q v H'
theorem Rule.raw {op : Value → Value → Sem Value} {g : List PV → Option PV} (h : Rule X (fun us => op (us.getD 0 .none) (us.getD 1 .none)) g) : OpR X op (rR X.prog X.w X.K g) :=
  fun pins s σ H x y v u Q I rx ry ⟨F, L, p, q, r, k, hr, hg, hq⟩ => h.run pins s σ H [x, y] [v, u] Q F L [p, q] r I (.cons rx (.cons ry .nil)) k hr hg hq
def dcmp (g : List PV → Option PV) (a b : Sl) : D Bool := dget fun env => match conts env [a, b] with
  | some ps => boolOf (g ps)
  | none => none
def dchain (f g : List PV → Option PV) (a b c : D Sl) : D Sl := dbind a fun x => dbind b fun y => dbind (dcmp f x y) fun k => if k = true then dbind c fun z => dfn g [y, z] else dcon (.bl false)
theorem Res.bool {P : Program} {w : World} {K : PySem.W.Frag} {F H H' : Hp} {k : Bool} {v : V} (h : Res P w K F H (.bl k) v H') : v = .bl k ∧ H' = H := by
  rcases h with ⟨rfl, h⟩ | ⟨_, _, _, _, _, _, e, _⟩ | ⟨_, _, _, _, _, _, e, _⟩
  · exact ⟨h, rfl⟩
  · cases e
  · cases e
/-- as rI2, more below -/
def rQ (P : Program) (w : World) (K : PySem.W.Frag) (W : WX) (g : List PV → Option PV) : R2 := fun x y H Q => ∃ σ pre px a b, tZ P w K W (pre ++ [a, b]) (px ++ [x, y]) (dfn g [a, b]) σ H (fun e => [e]) fun _ vs H' => ∀ v, vs = [v] → Q v H'
theorem Rule.opQ {op : Value → Value → Sem Value} {g : List PV → Option PV} (h : Rule X (fun us => op (us.getD 0 .none) (us.getD 1 .none)) g) : OpR X op (rQ X.prog X.w X.K W g) :=
  fun pins s σ H x y v u Q I rx ry ⟨σ0, pre, px, a, b, q⟩ => h.useP (us := [v, u]) I (.cons rx (.cons ry .nil)) rfl q
theorem conts_two {env : PEnv} {a b : Sl} {ps : List PV} (h : conts env [a, b] = some ps) : ∃ p q, ps = [p, q] ∧ cont env a = some p ∧ cont env b = some q := by
  cases h1 : cont env a with
  | none => simp [conts, h1] at h
  | some p =>
    cases h2 : cont env b with
    | none => simp [conts, h1, h2] at h
    | some q =>
      simp [conts, h1, h2] at h
      exact ⟨p, q, h.symm, rfl, rfl⟩
theorem chain_imp {f g : List PV → Option PV} {σ : L2.St} {H : Hp} {Q : VK} (h : tE X.prog X.w X.K W (dchain f g da db dc) σ H Q) :
    tChain (rR X.prog X.w X.K f) (rQ X.prog X.w X.K W g) (tE X.prog X.w X.K W da) (tE X.prog X.w X.K W db) (tE X.prog X.w X.K W dc) σ H Q := by
  refine (tE.bind (es := []) (xs := []) h).mono fun v H1 ⟨a, q⟩ => (tE.bind q).mono fun u H2 ⟨b, q2⟩ => ?_
  obtain ⟨env, tm, τ, F, L, k, hl, R, e1, q3⟩ := q2.get
  cases e2 : conts env [a, b] with
  | none => rw [e2] at e1; cases e1
  | some ps =>
    rw [e2] at e1
    obtain ⟨p, q', rfl, _, _⟩ := conts_two e2
    have hr : ReA X.prog X.w X.K F H2 L [p, q'] [v, u] := conts_rep R hl e2
    refine ⟨F, L, p, q', .bl k, R.fle, hr, boolOf_some e1, fun v' H' hres => ?_⟩
    obtain ⟨rfl, rfl⟩ := hres.bool
    refine ⟨k, rfl, ?_⟩
    cases k with
    | false => exact tE.con (W := W) q3.drop fun _ => rfl
    | true =>
      rw [if_pos rfl]
      exact (tE.bind q3).mono fun w' H4 ⟨c, q4⟩ => ⟨σ, [a], [v], b, c, q4⟩
theorem ev_chain {op op' : CmpOp} {f g : List PV → Option PV} (ho : Rule X (fun us => compareOp op (us.getD 0 .none) (us.getD 1 .none)) f) (ho' : Rule X (fun us => compareOp op' (us.getD 0 .none) (us.getD 1 .none)) g)
    (ha : EV X W a da) (hb : EV X W b db) (hc : EV X W c dc) (hm : lastMarks [op, op'] [b, c] = false := by with_unfolding_all rfl) : EV X W (.Compare a [op, op'] [b, c] pos) (dchain f g da db dc) :=
  PEimp (pe_chain ho.raw (ho'.opQ (W := W)) ha hb hc hm) fun σ H Q h => chain_imp h
theorem tv_chain {op op' : CmpOp} {f g : List PV → Option PV} (ho : Rule X (fun us => compareOp op (us.getD 0 .none) (us.getD 1 .none)) f) (ho' : Rule X (fun us => compareOp op' (us.getD 0 .none) (us.getD 1 .none)) g)
    (ha : EV X W a da) (hb : EV X W b db) (hc : EV X W c dc) (hm : lastMarks [op, op'] [b, c] = false := by with_unfolding_all rfl) : TV X W (.Compare a [op, op'] [b, c] pos) (dtst (dchain f g da db dc)) :=
  PTimp (pt_chain ho.raw (ho'.opQ (W := W)) ha hb hc hm) fun σ H Q h => chain_imp (tT.bool h)
end

/-! ### freezing entries -/
section
variable {P : Program} {w : World} {K : PySem.W.Frag} {F F' H H' : Hp} {L L' : Lab} {env env' tm tm' : PEnv} {σ σ' : L2.St} {τ τ' : List V}
/-- an intermediate result is frozen where it stands -/
theorem Rel.frzTmp {i : Nat} {pv : PV} {v : V} (R : Rel P w K env tm σ τ F H L) (hi : tm[i]? = some (.val pv)) (hv : τ[i]? = some v) :
    ∃ F' L', Same F F' ∧ Rel P w K env (tm.set i (.val pv.frz)) σ τ F' H L' := by
  have hr := R.tmp i _ v hi hv
  have go : ∀ {r : Nat} {e : Sl} {v : V}, r ≠ 2 * i + 1 → Ent P w K env F H L r e v → Ent P w K env (fF (2 * i + 1) L F H) H (fL (2 * i + 1) L) r e v := fun {r e v} hne h => by
    cases e with
    | un => trivial
    | val q => exact RepO.tr (fF_same R.lf) q [r] [r] v (fun a s l => ⟨fL_ne l hne, rfl⟩) h
    | al j p =>
      intro q hq
      exact RepO.tr (fF_same R.lf) q (2 * j :: p) (2 * j :: p) v (fun a s l => ⟨fL_ne (s := p ++ s) l (by omega), rfl⟩) (h q hq)
  refine ⟨fF (2 * i + 1) L F H, fL (2 * i + 1) L, fF_same R.lf, fF_le R.fle, fL_lf R.lf, fL_lh R.lh, R.len, fun k e he hu => ?_, by simp [R.tlen], fun k e u he hu => ?_, fun a b q h1 h2 => R.inj a b q (fL_some h1) (fL_some h2), fun k u j q he hu hq => by
    rcases getElem?_set_cases he with ⟨_, e, _⟩ | ⟨hne, he⟩
    · cases e
    · exact R.ali k u j q he hu hq⟩
  · obtain ⟨v, h1, h2⟩ := R.slot k e he hu
    exact ⟨v, h1, go (by omega) h2⟩
  · rcases getElem?_set_cases he with ⟨rfl, rfl, _⟩ | ⟨hne, he⟩
    · rw [hv] at hu
      cases hu
      exact RepO.ofF (freeze_rep R.lf hr)
    · exact go (by omega) (R.tmp k e u he hu)
theorem Rel.setTmp {i : Nat} {pv : PV} {v : V} (R : Rel P w K env tm σ τ F H L) (hv : τ[i]? = some v) (h : RepF P w K F pv v) : Rel P w K env (tm.set i (.val pv)) σ τ F H L :=
  ⟨R.fle, R.lf, R.lh, R.len, R.slot, by simp [R.tlen], fun k e u he hu => by
    rcases getElem?_set_cases he with ⟨rfl, rfl, _⟩ | ⟨hne, he⟩
    · rw [hv] at hu
      cases hu
      exact RepO.ofF h
    · exact R.tmp k e u he hu, R.inj, fun k u j q he hu hq => by
    rcases getElem?_set_cases he with ⟨_, e, _⟩ | ⟨hne, he⟩
    · cases e
    · exact R.ali k u j q he hu hq⟩
/-- what a frozen value holds at a place is frozen -/
theorem at_fz : ∀ (q : Path) (y x : PV), y.fz = true → y.at q = some x → x.fz = true
  | [], y, x, hz, e => by rw [PV.at] at e; cases e; exact hz
  | i :: q, y, x, hz, e => by
    cases y with
    | lst o ys =>
      rw [PV.at] at e
      split at e
      · rename_i y' ey'
        simp [PV.fz] at hz
        exact at_fz q y' x (PV.fzs_mem hz.2 (List.mem_of_getElem? ey')) e
      · cases e
    | dct o ks ys =>
      rw [PV.at] at e
      split at e
      · rename_i y' ey'
        simp [PV.fz] at hz
        exact at_fz q y' x (PV.fzs_mem hz.2 (List.mem_of_getElem? ey')) e
      · cases e
    | _ => simp [PV.at] at e
end
/-- an entry frozen: what it is then, the names then -/
def frzE (env : PEnv) : Sl → Option (PV × PEnv)
  | .val pv => some (pv.frz, env)
  | .al j p => match look env j p, env[j]? with
    | some q, some (.val pv) => some (q.frz, env.set j (.val pv.frz))
    | _, _ => none
  | .un => none
def frzEs : PEnv → PEnv → Option (List PV × PEnv)
  | env, [] => some ([], env)
  | env, e :: es => match frzE env e with
    | some (p, env1) => match frzEs env1 es with
      | some (ps, env2) => some (p :: ps, env2)
      | none => none
    | none => none
section
variable {P : Program} {w : World} {K : PySem.W.Frag} {F F' H H' : Hp} {L L' : Lab} {env env' tm tm' : PEnv} {σ σ' : L2.St} {τ τ' : List V}
theorem at_frz : ∀ (q : Path) (y x : PV), y.at q = some x → y.frz.at q = some x.frz
  | [], y, x, e => by rw [PV.at] at e ⊢; cases e; rfl
  | i :: q, y, x, e => by
    have hg : ∀ (ys : List PV) (i : Nat) (y' : PV), ys[i]? = some y' → (PV.frzs ys)[i]? = some y'.frz := by
      intro ys
      induction ys with
      | nil => intro i y' h; simp at h
      | cons a ys ih =>
        intro i y' h
        cases i with
        | zero => simp at h; subst h; simp [PV.frzs]
        | succ i => rw [PV.frzs]; simpa using ih i y' (by simpa using h)
    cases y with
    | lst o ys =>
      rw [PV.at] at e
      split at e
      · rename_i y' ey'
        rw [PV.frz, PV.at, hg ys i y' ey']
        exact at_frz q y' x e
      · cases e
    | dct o ks ys =>
      rw [PV.at] at e
      split at e
      · rename_i y' ey'
        rw [PV.frz, PV.at, hg ys i y' ey']
        exact at_frz q y' x e
      · cases e
    | _ => simp [PV.at] at e
/-- the i-th intermediate result frozen -/
theorem Rel.frzAt {i : Nat} {e : Sl} {v : V} {p : PV} (R : Rel P w K env tm σ τ F H L) (hi : tm[i]? = some e) (hv : τ[i]? = some v) (h : frzE env e = some (p, env')) :
    ∃ F' L', Same F F' ∧ Rel P w K env' (tm.set i (.val p)) σ τ F' H L' := by
  cases e with
  | un => cases h
  | val pv =>
    cases h
    exact R.frzTmp hi hv
  | al j q =>
    have h' : (match look env j q, env[j]? with
      | some x, some (.val pv) => some (x.frz, env.set j (.val pv.frz))
      | _, _ => none) = some (p, env') := h
    cases e1 : look env j q with
    | none => rw [e1] at h'; cases h'
    | some x =>
      obtain ⟨pv, e2, _, _⟩ := look_some e1
      rw [e1, e2] at h'
      cases h'
      refine ⟨_, _, fF_same R.lf, (R.frzSlot e2).setTmp hv ?_⟩
      refine RepO.freeze (fF_same R.lf) x (2 * j :: q) v (fun a s o l e => ?_) (R.tmp i _ v hi hv x e1)
      unfold fF
      rw [l]
      show (if isR (2 * j) (some (2 * j :: (q ++ s))) = true then H a else F a) = some o
      rw [isR_cons, if_pos rfl]
      exact e
/-- all entries from a place on frozen -/
theorem Rel.frzAll : ∀ {es pre : PEnv} {xs px : List V} {env env' : PEnv} {F : Hp} {L : Lab} {ps : List PV}, Rel P w K env (pre ++ es) σ (px ++ xs) F H L → pre.length = px.length → frzEs env es = some (ps, env') →
    ∃ F' L', Same F F' ∧ Rel P w K env' (pre ++ ps.map Sl.val) σ (px ++ xs) F' H L' ∧ RepFs P w K F' ps xs
  | [], pre, xs, px, env, env', F, L, ps, R, hl, h => by
    cases h
    have hx : xs = [] := by
      have := R.tlen
      simp at this
      exact List.length_eq_zero_iff.mp (by omega)
    subst hx
    exact ⟨F, L, Same.refl F, by simpa using R, by rw [RepFs]⟩
  | e :: es, pre, [], px, env, env', F, L, ps, R, hl, h => by
    have := R.tlen
    simp at this
    omega
  | e :: es, pre, x :: xs, px, env, env', F, L, ps, R, hl, h => by
    unfold frzEs at h
    cases e1 : frzE env e with
    | none => rw [e1] at h; cases h
    | some r =>
      obtain ⟨p, env1⟩ := r
      rw [e1] at h
      dsimp only at h
      cases e2 : frzEs env1 es with
      | none => rw [e2] at h; cases h
      | some r2 =>
        obtain ⟨ps', env2⟩ := r2
        rw [e2] at h
        cases h
        obtain ⟨F1, L1, k1, R1⟩ := R.frzAt (i := pre.length) (v := x) (by simp) (by rw [hl]; simp) e1
        have hs : (pre ++ e :: es).set pre.length (.val p) = (pre ++ [.val p]) ++ es := by simp
        rw [hs] at R1
        have R1' : Rel P w K env1 ((pre ++ [.val p]) ++ es) σ ((px ++ [x]) ++ xs) F1 H L1 := by simpa using R1
        obtain ⟨F2, L2, k2, R2, h2⟩ := Rel.frzAll R1' (by simp [hl]) e2
        have hp : RepF P w K F2 p x := by
          have := R2.tmp pre.length (.val p) x (by simp) (by rw [hl]; simp)
          refine RepO.toF ?_ this
          cases e with
          | un => cases e1
          | val pv => cases e1; exact PV.fz_frz _
          | al j q =>
            have h' : (match look env j q, env[j]? with
              | some x, some (.val pv) => some (x.frz, env.set j (.val pv.frz))
              | _, _ => none) = some (p, env1) := e1
            cases e3 : look env j q with
            | none => rw [e3] at h'; cases h'
            | some y =>
              obtain ⟨pv, e4, _, _⟩ := look_some e3
              rw [e3, e4] at h'
              cases h'
              exact PV.fz_frz _
        refine ⟨F2, L2, k1.trans k2, by simpa using R2, ?_⟩
        rw [RepFs]
        exact ⟨x, xs, rfl, hp, h2⟩
end
end Pv
namespace Pv
open PySem PySem.Spec PyProof.Rows L2

theorem modify_get {α : Type} {l : List α} {i k : Nat} {f : α → α} : (l.modify i f)[k]? = if i = k then l[k]?.map f else l[k]? := by
  rw [List.getElem?_modify]
  by_cases h : i = k
  · subst h; simp
  · simp [h]
theorem at_append : ∀ (q r : Path) (x : PV), x.at (q ++ r) = match x.at q with | some y => y.at r | none => none
  | [], r, x => by rw [List.nil_append, PV.at]
  | i :: q, r, x => by
    rw [List.cons_append]
    cases x with
    | lst o ys =>
      rw [PV.at, PV.at]
      cases e : ys[i]? with
      | none => rfl
      | some y => exact at_append q r y
    | dct o ks ys =>
      rw [PV.at, PV.at]
      cases e : ys[i]? with
      | none => rfl
      | some y => exact at_append q r y
    | _ => simp [PV.at]
theorem put_at : ∀ (q r : Path) (x y : PV), (∃ n, x.at (q ++ r) = some n) → (x.put (q ++ r) y).at q = (x.at q).map fun z => z.put r y
  | [], r, x, y, h => by rw [List.nil_append, PV.at, PV.at]; rfl
  | i :: q, r, x, y, h => by
    rw [List.cons_append] at h ⊢
    cases x with
    | lst o ys =>
      rw [put_lst, at_lst, at_lst, modify_get, if_pos rfl]
      rw [at_lst] at h
      cases e : ys[i]? with
      | none => rfl
      | some z =>
        rw [e] at h
        exact put_at q r z y h
    | dct o ks ys =>
      rw [put_dct, at_dct, at_dct, modify_get, if_pos rfl]
      rw [at_dct] at h
      cases e : ys[i]? with
      | none => rfl
      | some z =>
        rw [e] at h
        exact put_at q r z y h
    | _ => simp [PV.at] at h
/-- a place beside the changed one is as it was -/
theorem put_at_off : ∀ (q p : Path) (x y : PV), ¬ p <+: q → ¬ q <+: p → (x.put p y).at q = x.at q
  | q, [], x, y, h, _ => absurd (List.nil_prefix) h
  | [], i :: p, x, y, _, h => absurd (List.nil_prefix) h
  | k :: q, i :: p, x, y, h1, h2 => by
    by_cases e : i = k
    · subst e
      have h1' : ¬ p <+: q := fun z => h1 (List.cons_prefix_cons.mpr ⟨rfl, z⟩)
      have h2' : ¬ q <+: p := fun z => h2 (List.cons_prefix_cons.mpr ⟨rfl, z⟩)
      cases x with
      | lst o ys =>
        rw [put_lst, at_lst, at_lst, modify_get, if_pos rfl]
        cases e : ys[i]? with
        | none => rfl
        | some z => exact put_at_off q p z y h1' h2'
      | dct o ks ys =>
        rw [put_dct, at_dct, at_dct, modify_get, if_pos rfl]
        cases e : ys[i]? with
        | none => rfl
        | some z => exact put_at_off q p z y h1' h2'
      | _ => simp [PV.put]
    · cases x with
      | lst o ys => rw [put_lst, at_lst, at_lst, modify_get, if_neg e]
      | dct o ks ys => rw [put_dct, at_dct, at_dct, modify_get, if_neg e]
      | _ => simp [PV.put]

section
variable {P : Program} {w : World} {K : PySem.W.Frag} {F F' H H' : Hp} {L L' : Lab} {env env' tm tm' : PEnv} {σ σ' : L2.St} {τ τ' : List V}
theorem RepO.put (kF : Same F F') {node' : PV} : ∀ (r : Path) (p0 : Path) (pv node : PV) (v : V), RepO P w K F H L p0 pv v → pv.at r = some node → node.fz = false →
    (∀ u, RepO P w K F H L (p0 ++ r) node u → RepO P w K F' H' L' (p0 ++ r) node' u) →
    (∀ a s, L a = some (p0 ++ s) → ¬ r <+: s → L' a = some (p0 ++ s) ∧ H' a = H a) → RepO P w K F' H' L' p0 (pv.put r node') v
  | [], p0, pv, node, v, h, e, z, hn, m => by
    rw [PV.at] at e
    cases e
    rw [PV.put]
    simpa using hn v (by simpa using h)
  | i :: r, p0, .lst o xs, node, v, h, e, z, hn, m => by
    rw [PV.at] at e
    cases ey : xs[i]? with
    | none => rw [ey] at e; cases e
    | some y =>
      rw [ey] at e
      cases o with
      | false =>
        rw [RepO] at h
        have := RepF.fz _ _ h
        rw [at_fz (i :: r) _ node this (by rw [PV.at, ey]; exact e)] at z
        cases z
      | true =>
        rw [RepO] at h
        obtain ⟨a, vs, ev, l, hh, rs⟩ := h
        rw [put_lst, RepO]
        obtain ⟨l', hh'⟩ := m a [] (by simpa using l) (by simp)
        refine ⟨a, vs, ev, by simpa using l', by rw [hh']; exact hh, RepOs.of (by rw [List.length_modify]; exact rs.length) fun k x u hx hu => ?_⟩
        rw [modify_get] at hx
        by_cases hk : i = k
        · subst hk
          rw [if_pos rfl, ey] at hx
          cases hx
          obtain ⟨u', hu', hr⟩ := rs.get ey
          rw [hu] at hu'
          cases hu'
          refine RepO.put kF r (p0 ++ [0 + i]) y node u hr e z (fun t ht => ?_) (fun b s hl hs => ?_)
          · have := hn t (by rw [List.append_assoc] at ht; rw [Nat.zero_add] at ht; exact ht)
            rw [List.append_assoc, Nat.zero_add]
            exact this
          · rw [List.append_assoc] at hl ⊢
            refine m b ([0 + i] ++ s) hl fun hp => hs ?_
            rw [Nat.zero_add] at hp
            exact (List.cons_prefix_cons.mp hp).2
        · rw [if_neg hk] at hx
          obtain ⟨u', hu', hr⟩ := rs.get hx
          rw [hu] at hu'
          cases hu'
          refine RepO.tr kF x _ _ u (fun b s hl => ?_) hr
          rw [List.append_assoc] at hl ⊢
          refine m b ([0 + k] ++ s) hl fun hp => hk ?_
          rw [Nat.zero_add] at hp
          exact (List.cons_prefix_cons.mp hp).1
  | i :: r, p0, .dct o ks xs, node, v, h, e, z, hn, m => by
    rw [PV.at] at e
    cases ey : xs[i]? with
    | none => rw [ey] at e; cases e
    | some y =>
      rw [ey] at e
      cases o with
      | false =>
        rw [RepO] at h
        have := RepF.fz _ _ h
        rw [at_fz (i :: r) _ node this (by rw [PV.at, ey]; exact e)] at z
        cases z
      | true =>
        rw [RepO] at h
        obtain ⟨a, kes, vs, ev, l, hh, rk, rs⟩ := h
        rw [put_dct, RepO]
        obtain ⟨l', hh'⟩ := m a [] (by simpa using l) (by simp)
        refine ⟨a, kes, vs, ev, by simpa using l', DctR.mono P w hh fun o e => by rw [hh']; exact e, RepFs.mono kF _ _ rk, RepOs.of (by rw [List.length_modify]; exact rs.length) fun k x u hx hu => ?_⟩
        rw [modify_get] at hx
        by_cases hk : i = k
        · subst hk
          rw [if_pos rfl, ey] at hx
          cases hx
          obtain ⟨u', hu', hr⟩ := rs.get ey
          rw [hu] at hu'
          cases hu'
          refine RepO.put kF r (p0 ++ [0 + i]) y node u hr e z (fun t ht => ?_) (fun b s hl hs => ?_)
          · have := hn t (by rw [List.append_assoc] at ht; rw [Nat.zero_add] at ht; exact ht)
            rw [List.append_assoc, Nat.zero_add]
            exact this
          · rw [List.append_assoc] at hl ⊢
            refine m b ([0 + i] ++ s) hl fun hp => hs ?_
            rw [Nat.zero_add] at hp
            exact (List.cons_prefix_cons.mp hp).2
        · rw [if_neg hk] at hx
          obtain ⟨u', hu', hr⟩ := rs.get hx
          rw [hu] at hu'
          cases hu'
          refine RepO.tr kF x _ _ u (fun b s hl => ?_) hr
          rw [List.append_assoc] at hl ⊢
          refine m b ([0 + k] ++ s) hl fun hp => hk ?_
          rw [Nat.zero_add] at hp
          exact (List.cons_prefix_cons.mp hp).1
  | _ :: _, p0, .non, node, v, h, e, z, hn, m => by simp [PV.at] at e
  | _ :: _, p0, .bl _, node, v, h, e, z, hn, m => by simp [PV.at] at e
  | _ :: _, p0, .int _, node, v, h, e, z, hn, m => by simp [PV.at] at e
  | _ :: _, p0, .str _, node, v, h, e, z, hn, m => by simp [PV.at] at e
  | _ :: _, p0, .ref _, node, v, h, e, z, hn, m => by simp [PV.at] at e
  | _ :: _, p0, .ty _, node, v, h, e, z, hn, m => by simp [PV.at] at e
  | _ :: _, p0, .tup _, node, v, h, e, z, hn, m => by simp [PV.at] at e
  | _ :: _, p0, .frl _, node, v, h, e, z, hn, m => by simp [PV.at] at e
end
/-- other names for what hangs below a place are given up -/
def kill (j : Nat) (p : Path) : Sl → Sl
  | .al i q => if i = j ∧ p <+: q ∧ p ≠ q then .un else .al i q
  | e => e
/-- a slot's value changed at a place -/
def putE (env : PEnv) (j : Nat) (p : Path) (y : PV) : PEnv := match env[j]? with
  | some (.val pv) => (env.map (kill j p)).set j (.val (pv.put p y))
  | _ => env
theorem putE_get {env : PEnv} {j : Nat} {p : Path} {y pv : PV} (h : env[j]? = some (.val pv)) : (putE env j p y)[j]? = some (.val (pv.put p y)) := by
  unfold putE
  rw [h]
  rw [List.getElem?_set_self]
  rw [List.length_map]
  exact (List.getElem?_eq_some_iff.mp h).1
section
variable {P : Program} {w : World} {K : PySem.W.Frag} {F F' H H' : Hp} {L L' : Lab} {env env' tm tm' : PEnv} {σ σ' : L2.St} {τ τ' : List V}
/-- THE CHANGE of an object that hangs from a slot. Below the place nothing has another name, but for places that are not ours any more (nt) -/
theorem Rel.mut {j : Nat} {p : Path} {pv node node' : PV} (R : Rel P w K env tm σ τ F H L) (hj : env[j]? = some (.val pv)) (ha : pv.at p = some node) (hz : node.fz = false)
    (k : Same F F') (fle : Same F' H') (lf : ∀ a p, L' a = some p → F' a = none) (lh : ∀ a p, L' a = some p → ∃ o, H' a = some o)
    (hn : ∀ u, RepO P w K F H L (2 * j :: p) node u → RepO P w K F' H' L' (2 * j :: p) node' u)
    (m : ∀ a s, L a = some s → ¬ (2 * j :: p) <+: s → L' a = some s ∧ H' a = H a)
    (inj : ∀ a b q, L' a = some q → L' b = some q → a = b) (nt : ∀ i q, Sl.al i q ∈ tm → ¬ (i = j ∧ p <+: q ∧ p ≠ q) ∨ ∀ x, look (putE env j p node') i q ≠ some x) :
    Rel P w K (putE env j p node') tm σ τ F' H' L' := by
  have hjl := (List.getElem?_eq_some_iff.mp hj).1
  have eE : putE env j p node' = (env.map (kill j p)).set j (.val (pv.put p node')) := by
    unfold putE
    rw [hj]
  obtain ⟨vj, hv, hr⟩ := R.slot j _ hj (by simp)
  have hr : RepO P w K F H L [2 * j] pv vj := hr
  have mr : ∀ {r : Nat}, r ≠ 2 * j → ∀ a s, L a = some (r :: s) → L' a = some (r :: s) ∧ H' a = H a := fun hne a s l => m a _ l fun hp => hne (List.cons_prefix_cons.mp hp).1.symm
  have lk_ne : ∀ {i : Nat} {q : Path} {x : PV}, i ≠ j → look (putE env j p node') i q = some x → look env i q = some x := fun {i q x} hi h => by
    obtain ⟨y, e1, e2, e3⟩ := look_some h
    rw [eE, List.getElem?_set_ne (Ne.symm hi), List.getElem?_map] at e1
    cases e4 : env[i]? with
    | none => rw [e4] at e1; cases e1
    | some s =>
      rw [e4] at e1
      cases s with
      | un => cases e1
      | val z => cases e1; exact look_of e4 e2 e3
      | al i' q' =>
        simp only [Option.map_some, Option.some.injEq, kill] at e1
        split at e1 <;> cases e1
  have go : ∀ {r : Nat} {e : Sl} {v : V}, (r ≠ 2 * j ∨ ∃ i q, e = .al i q) → (∀ i q, e = .al i q → ¬ (i = j ∧ p <+: q ∧ p ≠ q) ∨ ∀ x, look (putE env j p node') i q ≠ some x) → Ent P w K env F H L r e v → Ent P w K (putE env j p node') F' H' L' r e v := fun {r e v} hne hal h => by
    cases e with
    | un => trivial
    | val q =>
      rcases hne with hne | ⟨_, _, e⟩
      · exact RepO.tr k q [r] [r] v (fun a s l => mr hne a s l) h
      · cases e
    | al i q =>
      intro x hx
      rcases hal i q rfl with hal | hal
      · by_cases hi : i = j
        · subst hi
          obtain ⟨y, e1, e2, e3⟩ := look_some hx
          rw [putE_get hj] at e1
          cases e1
          by_cases hqp : q <+: p
          · obtain ⟨r', rfl⟩ := hqp
            rw [put_at q r' pv node' ⟨node, ha⟩] at e2
            rw [at_append] at ha
            cases e4 : pv.at q with
            | none => rw [e4] at ha; cases ha
            | some z =>
              rw [e4] at ha e2
              cases e2
              have hzz : z.fz = false := by
                cases hb : z.fz with
                | false => rfl
                | true => rw [at_fz r' z node hb ha] at hz; cases hz
              refine RepO.put k r' (2 * i :: q) z node v (h z (look_of hj e4 hzz)) ha hz hn fun a s l hs => ?_
              refine m a _ l fun hp => hs ?_
              have : (2 * i :: (q ++ r')) <+: (2 * i :: (q ++ s)) := hp
              exact (List.prefix_append_right_inj q).mp (List.cons_prefix_cons.mp this).2
          · have hpq : ¬ p <+: q := fun z => hal ⟨rfl, z, fun e => hqp (by rw [e]; exact List.prefix_refl _)⟩
            rw [put_at_off q p pv node' hpq hqp] at e2
            refine RepO.tr k x (2 * i :: q) (2 * i :: q) v (fun a s l => m a _ l fun hp => ?_) (h x (look_of hj e2 e3))
            have : (2 * i :: p) <+: (2 * i :: (q ++ s)) := hp
            have := (List.cons_prefix_cons.mp this).2
            rcases List.prefix_or_prefix_of_prefix this (List.prefix_append q s) with z | z
            · exact hpq z
            · exact hqp z
        · exact RepO.tr k x (2 * i :: q) (2 * i :: q) v (fun a s l => mr (by omega) a _ l) (h x (lk_ne hi hx))
      · exact absurd hx (hal x)
  refine ⟨fle, lf, lh, by rw [eE, List.length_set, List.length_map]; exact R.len, fun i e he hu => ?_, R.tlen, fun i e v he hv => go (.inl (by omega)) (fun i' q' e' => nt i' q' (by rw [← e']; exact List.mem_of_getElem? he)) (R.tmp i e v he hv), inj, fun i v i' q he hw hq => by
    by_cases hi : i' = j
    · subst hi
      refine R.ali i v i' pv he hw (look_of hj rfl ?_)
      cases hb : pv.fz with
      | false => rfl
      | true => rw [at_fz p pv node hb ha] at hz; cases hz
    · exact R.ali i v i' q he hw (lk_ne hi hq)⟩
  by_cases hi : i = j
  · subst hi
    rw [putE_get hj] at he
    cases he
    refine ⟨vj, hv, RepO.put k p [2 * i] pv node vj hr ha hz hn fun a s l hs => m a _ l fun hp => hs ?_⟩
    exact (List.cons_prefix_cons.mp hp).2
  · rw [eE, List.getElem?_set_ne (Ne.symm hi), List.getElem?_map] at he
    cases e4 : env[i]? with
    | none => rw [e4] at he; cases he
    | some s =>
      rw [e4] at he
      have he' : kill j p s = e := by simpa using he
      cases s with
      | un => rw [← he'] at hu; exact absurd rfl hu
      | val z =>
        obtain ⟨v, h1, h2⟩ := R.slot i _ e4 (by simp)
        rw [← he']
        exact ⟨v, h1, go (.inl (by omega)) (fun _ _ e => by cases e) h2⟩
      | al i' q' =>
        obtain ⟨v, h1, h2⟩ := R.slot i _ e4 (by simp)
        by_cases hc : i' = j ∧ p <+: q' ∧ p ≠ q'
        · have e5 : kill j p (.al i' q') = .un := by
            show (if i' = j ∧ p <+: q' ∧ p ≠ q' then Sl.un else .al i' q') = _
            rw [if_pos hc]
          rw [e5] at he'
          exact absurd he'.symm hu
        · have e5 : kill j p (.al i' q') = .al i' q' := by
            show (if i' = j ∧ p <+: q' ∧ p ≠ q' then Sl.un else .al i' q') = _
            rw [if_neg hc]
          rw [e5] at he'
          rw [← he']
          exact ⟨v, h1, go (.inl (by omega)) (fun i2 q2 e => by cases e; exact .inl hc) h2⟩
end
end Pv
namespace Pv
open PySem PySem.Spec PyProof.Rows L2

/-! ### displays -/
def dtupE (es : PEnv) : D Sl := fun env => match frzEs env es with
  | some (ps, env') => if es.length ≤ 1000 then .ok (.val (.tup ps)) env' else .no
  | none => .no
def dlstE (es : PEnv) : D Sl := fun env => match frzEs env es with
  | some (ps, env') => if es.length ≤ 1000 then .ok (.val (.lst true ps)) env' else .no
  | none => .no
def dtup (d : D PEnv) : D Sl := dbind d dtupE
def dlst (d : D PEnv) : D Sl := dbind d dlstE

section
variable {X : Cx} {W : WX} {a b c : Expr} {da db dc : D Sl} {ds : D PEnv} {es : List Expr} {pos : Pos}
theorem ev_tup {x1} (h : AV X W es ds) : EV X W (.Tuple es x1 pos) (dtup ds) := PEimp (pe_tup h) fun σ H Q q => (tAr.bind (es := []) (xs := []) q).mono fun vs H1 ⟨en, q⟩ => by
  obtain ⟨env, tm, τ, F, L, hl, R, q⟩ := q
  unfold dtupE at q
  cases e1 : frzEs env en with
  | none => rw [e1] at q; exact q.elim
  | some r =>
    obtain ⟨ps, env'⟩ := r
    rw [e1] at q
    dsimp only at q
    by_cases hs : en.length ≤ 1000
    · rw [if_pos hs] at q
      have hl' : en.length = vs.length := by simpa using hl
      refine ⟨by rw [← hl', ← sl24]; omega, fun p hp => ?_⟩
      obtain ⟨F1, L1, k1, R1, hf⟩ := Rel.frzAll (pre := tm) (px := τ) (by simpa using R) (by have := R.tlen; simp at this; omega) e1
      have hlm : (ps.map Sl.val).length = vs.length := by have := hf.length; simpa using this
      obtain ⟨R2, k2⟩ := (R1.popN hlm).newT hp hf
      exact q [.ref p] _ _ L1 rfl (k1.trans k2) R2 _ rfl
    · rw [if_neg hs] at q; exact q.elim
theorem ev_lst (h : AV X W es ds) : EV X W (.List es pos) (dlst ds) := PEimp (pe_lst h) fun σ H Q q => (tAr.bind (es := []) (xs := []) q).mono fun vs H1 ⟨en, q⟩ => by
  obtain ⟨env, tm, τ, F, L, hl, R, q⟩ := q
  unfold dlstE at q
  cases e1 : frzEs env en with
  | none => rw [e1] at q; exact q.elim
  | some r =>
    obtain ⟨ps, env'⟩ := r
    rw [e1] at q
    dsimp only at q
    by_cases hs : en.length ≤ 1000
    · rw [if_pos hs] at q
      have hl' : en.length = vs.length := by simpa using hl
      refine ⟨by rw [← hl', ← sl24]; omega, fun p hp => ?_⟩
      obtain ⟨F1, L1, k1, R1, hf⟩ := Rel.frzAll (pre := tm) (px := τ) (by simpa using R) (by have := R.tlen; simp at this; omega) e1
      have hlm : (ps.map Sl.val).length = vs.length := by have := hf.length; simpa using this
      exact q [.ref p] _ _ _ rfl k1 ((R1.popN hlm).newL hp hf) _ rfl
    · rw [if_neg hs] at q; exact q.elim

/-! ### calls of what is built in -/
theorem ev_callB {x : Str} {p : Pos} {id : String} {g : List PV → Option PV} {e : Expr} (h : Rule X (fun us => call (.builtin id) us) g) (hg : Gl X x) (hm : X.mg x = none) (hv : bootBuiltins x = some (.builtin id)) (ha : AV X W (e :: es) ds)
    (hn : x ≠ "__name__" := by decide) (hdb : (x == ("__debug__" : Str)) = false := by decide)
    (he : starEach (e :: es) X.env = (false, eval e X.env) :: starEach es X.env := by rfl) (hpl : (backTo pos (starEach es X.env)).any (·.1) = false := by rfl) : EV X W (.Call (.Name x p) (e :: es) [] pos) (dcall (dfn g) ds) :=
  PEimp (pe_callB (h.call (W := W)) hg hm hv ha hn hdb he hpl) fun σ H Q q => (tAr.bind (es := []) (xs := []) q).mono fun vs H1 ⟨en, q⟩ => ⟨σ, en, by simpa using q⟩
theorem ev_callT {x : Str} {p : Pos} {T : String} {g : List PV → Option PV} {e : Expr} (h : Rule X (fun us => call (.type T) us) g) (hg : Gl X x) (hm : X.mg x = none) (hv : bootBuiltins x = some (.type T)) (ha : AV X W (e :: es) ds)
    (hn : x ≠ "__name__" := by decide) (hdb : (x == ("__debug__" : Str)) = false := by decide)
    (he : starEach (e :: es) X.env = (false, eval e X.env) :: starEach es X.env := by rfl) (hpl : (backTo pos (starEach es X.env)).any (·.1) = false := by rfl) : EV X W (.Call (.Name x p) (e :: es) [] pos) (dcall (dfn g) ds) :=
  PEimp (pe_callTy (h.call (W := W)) hg hm hv ha hn hdb he hpl) fun σ H Q q => (tAr.bind (es := []) (xs := []) q).mono fun vs H1 ⟨en, q⟩ => ⟨σ, en, by simpa using q⟩

/-! ### subscripts -/
end
def dixE (a b : Sl) : D Sl := fun env => match cont env a, cont env b with
  | some (.lst _ xs), some (.int i) => match ixN xs.length i with
    | some k => match xs[k]? with
      | some x => if x.fz = true then .ok (.val x) env else match a with
        | .al j p => .ok (.al j (p ++ [k])) env
        | _ => .no
      | none => .no
    | none => .no
  | some (.tup xs), some (.int i) => match atI xs i with
    | some x => .ok (.val x) env
    | none => .no
  | _, _ => .no
section
variable {X : Cx} {W : WX} {a b c : Expr} {da db dc : D Sl} {ds : D PEnv} {es : List Expr} {pos : Pos}
theorem ix_any : IxR X (rI2 X.prog X.w X.K W dixE) := by
  intro value slice pins s σ0 H x y v u Q I rx ry ⟨σ, a, b, q⟩ hs
  obtain ⟨env, tm, τ, F, L, hl, R, q⟩ := q
  unfold dixE at q
  have Ra : Rel X.prog X.w X.K env ((tm ++ [a]) ++ [b]) σ ((τ ++ [x]) ++ [y]) F H L := by simpa using R
  have ta := Ra.pop.top
  have tb := Ra.top
  cases e1 : cont env a with
  | none => rw [e1] at q; exact q.elim
  | some pa =>
    cases e2 : cont env b with
    | none =>
      rw [e1, e2] at q
      cases pa <;> exact q.elim
    | some pb =>
      rw [e1, e2] at q
      obtain ⟨qa, ra⟩ := ta.rep e1
      obtain ⟨qb, rb⟩ := tb.rep e2
      cases pb with
      | int i =>
        cases (show y = .int i from rb)
        cases pa with
        | lst o xs =>
          dsimp only at q
          obtain ⟨p0, vs, rfl, hp, hlen, _⟩ := RepO.asL R.fle ra
          cases e3 : ixN xs.length i with
          | none => rw [e3] at q; exact q.elim
          | some k =>
            rw [e3] at q
            dsimp only at q
            cases e4 : xs[k]? with
            | none => rw [e4] at q; exact q.elim
            | some z =>
              rw [e4] at q
              dsimp only at q
              have hat : ∀ v0, vs[k]? = some v0 → atI vs i = some v0 := fun v0 h0 => by
                unfold atI
                rw [← hlen, e3]
                exact h0
              -- the item's value
              obtain ⟨v0, hv0, hr0⟩ : ∃ v0, vs[k]? = some v0 ∧ (z.fz = true → RepF X.prog X.w X.K F z v0) ∧ ∀ j p, a = .al j p → RepO X.prog X.w X.K F H L (2 * j :: (p ++ [k])) z v0 ∨ z.fz = true := by
                cases o with
                | true =>
                  have ra' := ra
                  rw [RepO] at ra'
                  obtain ⟨p1, vs1, ev, _, hh, rs⟩ := ra'
                  cases ev
                  rw [hp] at hh
                  cases hh
                  obtain ⟨v0, h1, h2⟩ := rs.get e4
                  refine ⟨v0, h1, fun hz => RepO.toF hz h2, fun j p ea => .inl ?_⟩
                  subst ea
                  have h3 := ta _ e1
                  rw [RepO] at h3
                  obtain ⟨p1, vs1, ev, _, hh, rs3⟩ := h3
                  cases ev
                  rw [hp] at hh
                  cases hh
                  obtain ⟨v0', h1', h2'⟩ := rs3.get e4
                  rw [h1] at h1'
                  cases h1'
                  rw [Nat.zero_add] at h2'
                  exact h2'
                | false =>
                  have ra' := ra
                  rw [RepO, RepF] at ra'
                  obtain ⟨_, p1, vs1, ev, hh, rs⟩ := ra'
                  cases ev
                  have := R.fle _ _ hh
                  rw [hp] at this
                  cases this
                  obtain ⟨v0, h1, h2⟩ := rs.get e4
                  exact ⟨v0, h1, fun hz => h2, fun j p ea => .inr (RepF.fz _ _ h2)⟩
              have fin : Q v0 H := by
                by_cases hz : z.fz = true
                · rw [if_pos hz] at q
                  exact q [v0] F H L rfl (Same.refl F) ((R.popN hl).pushF (hr0.1 hz)) v0 rfl
                · rw [if_neg hz] at q
                  cases a with
                  | un => cases e1
                  | val pv => exact q.elim
                  | al j p =>
                    refine q [v0] F H L rfl (Same.refl F) ((R.popN hl).push ?_ fun j' q' ej _ => by simp at ej) v0 rfl
                    intro x' hx'
                    rcases hr0.2 j p rfl with h | h
                    · -- the item is what stands at the place
                      obtain ⟨pv, g1, g2, g3⟩ := look_some hx'
                      obtain ⟨pv', g1', g2', g3'⟩ := look_some e1
                      rw [g1] at g1'
                      cases g1'
                      rw [at_append, g2'] at g2
                      dsimp only at g2
                      rw [at_lst, e4] at g2
                      dsimp only at g2
                      rw [PV.at] at g2
                      cases g2
                      exact h
                    · exact absurd h hz
              exact ix_list value slice pins s σ0 H _ _ v u Q I rx ry ⟨p0, vs, i, v0, rfl, rfl, SqL.of hp, hat v0 hv0, fin⟩ hs
        | tup xs =>
          dsimp only at q
          obtain ⟨p0, vs, rfl, hp, rs, _⟩ := RepO.asT R.fle ra
          cases e3 : atI xs i with
          | none => rw [e3] at q; exact q.elim
          | some z =>
            rw [e3] at q
            dsimp only at q
            have : ∃ k, ixN xs.length i = some k ∧ xs[k]? = some z := by
              unfold atI at e3
              cases e4 : ixN xs.length i with
              | none => rw [e4] at e3; cases e3
              | some k => rw [e4] at e3; exact ⟨k, rfl, e3⟩
            obtain ⟨k, h1, h2⟩ := this
            obtain ⟨v0, h3, h4⟩ := rs.get h2
            have hat : atI vs i = some v0 := by
              unfold atI
              rw [← rs.length, h1]
              exact h3
            exact ix_tup value slice pins s σ0 H _ _ v u Q I rx ry ⟨p0, vs, i, v0, rfl, rfl, hp, hat, q [v0] F H L rfl (Same.refl F) ((R.popN hl).pushF h4) v0 rfl⟩ hs
        | _ => exact q.elim
      | _ => cases pa <;> exact q.elim
theorem ev_ix (ha : EV X W a da) (hb : EV X W b db) (hs : PlainIx b := by exact fun _ _ => rfl) : EV X W (.Subscript a b pos) (dop dixE da db) :=
  PEimp (pe_ix (ix_any (W := W)) ha hb hs) fun σ H Q h => (tE.bind (es := []) (xs := []) h).mono fun v H1 ⟨e, q⟩ => (tE.bind q).mono fun u H2 ⟨e2, q2⟩ => ⟨σ, e, e2, q2⟩

/-! ### slices -/
abbrev tO3 (X : Cx) (W : WX) (d : Option (D Sl)) : TO := match d with
  | none => tNoPart
  | some d => tPart (tE X.prog X.w X.K W d)
end
def intOf (p : Option PV) : Option Int := match p with
  | some (.int i) => some i
  | _ => none
def dint (a : Sl) : D Int := dget fun env => intOf (cont env a)
def dpart : Option (D Sl) → D (Option Int)
  | none => dpure none
  | some d => dbind d fun a => dbind (dint a) fun i => dpure (some i)
def cutP (xs : List PV) (lo hi : Option Int) : List PV := (xs.drop (HT.sIx xs.length 0 lo)).take (HT.sIx xs.length xs.length hi - HT.sIx xs.length 0 lo)
def dcut (a : Sl) (lo hi : Option Int) : D Sl := fun env => match cont env a with
  | some (.lst _ xs) => if PV.fzs xs = true then .ok (.val (.lst true (cutP xs lo hi))) env else .no
  | some (.frl xs) => .ok (.val (.lst true (cutP xs lo hi))) env
  | some (.tup xs) => .ok (.val (.tup (cutP xs lo hi))) env
  | _ => .no
def dslice (d : D Sl) (lo hi : Option (D Sl)) : D Sl := dbind d fun a => dbind (dpart lo) fun l => dbind (dpart hi) fun h => dcut a l h
def drev (a : Sl) : D Sl := fun env => match cont env a with
  | some (.lst _ xs) => if PV.fzs xs = true then .ok (.val (.lst true xs.reverse)) env else .no
  | some (.tup xs) => .ok (.val (.tup xs.reverse)) env
  | _ => .no
section
variable {X : Cx} {W : WX} {a b c : Expr} {da db dc : D Sl} {ds : D PEnv} {es : List Expr} {pos : Pos}
theorem RepFs.cut {P : Program} {w : World} {K : PySem.W.Frag} {F : Hp} {xs : List PV} {vs : List V} (h : RepFs P w K F xs vs) (lo hi : Option Int) : RepFs P w K F (cutP xs lo hi) (cutV vs lo hi) := by
  have hl := h.length
  refine RepFs.of (by unfold cutP cutV; simp [hl]) fun i x v hx hv => ?_
  unfold cutP at hx
  unfold cutV at hv
  rw [List.getElem?_take] at hx hv
  split at hx
  · rename_i h1
    rw [hl] at h1
    rw [if_pos h1, List.getElem?_drop] at hv
    rw [List.getElem?_drop, hl] at hx
    obtain ⟨u, e1, e2⟩ := h.get hx
    rw [hv] at e1
    cases e1
    exact e2
  · cases hx
theorem RepFs.rev {P : Program} {w : World} {K : PySem.W.Frag} {F : Hp} : ∀ {xs : List PV} {vs : List V}, RepFs P w K F xs vs → RepFs P w K F xs.reverse vs.reverse
  | [], vs, h => by
    rw [RepFs] at h
    subst h
    simp [RepFs]
  | x :: xs, vs, h => by
    rw [RepFs] at h
    obtain ⟨v, r, rfl, h1, h2⟩ := h
    rw [List.reverse_cons, List.reverse_cons]
    refine (RepFs.rev h2).append ?_
    rw [RepFs]
    exact ⟨v, [], rfl, h1, by rw [RepFs]⟩
def rCut (P : Program) (w : World) (K : PySem.W.Frag) (W : WX) : V → Option Int → Option Int → Hp → VK → Prop := fun x lo hi H Q => ∃ σ a, tZ P w K W [a] [x] (dcut a lo hi) σ H (fun e => [e]) fun _ vs H' => ∀ v, vs = [v] → Q v H'
theorem sl_any : SlR X (rCut X.prog X.w X.K W) := by
  intro pins s σ0 H x v vl vu lo hi sl Q I rx hs pl pu ⟨σ, a, q⟩
  obtain ⟨env, tm, τ, F, L, hl, R, q⟩ := q
  unfold dcut at q
  cases e1 : cont env a with
  | none => rw [e1] at q; exact q.elim
  | some pa =>
    rw [e1] at q
    obtain ⟨qa, ra⟩ := R.top.rep e1
    cases pa with
    | lst o xs =>
      dsimp only at q
      obtain ⟨p0, vs, rfl, hp, hlen, hf⟩ := RepO.asL R.fle ra
      by_cases hz : PV.fzs xs = true
      · rw [if_pos hz] at q
        exact sl_list pins s σ0 H _ v vl vu lo hi sl Q I rx hs pl pu ⟨p0, vs, rfl, SqL.of hp, fun p hn => q [.ref p] _ _ _ rfl (Same.refl F) (R.pop.newL hn ((hf hz).cut lo hi)) _ rfl⟩
      · rw [if_neg hz] at q; exact q.elim
    | frl xs =>
      dsimp only at q
      rw [RepO, RepF] at ra
      obtain ⟨p0, vs, rfl, hp, rs⟩ := ra
      exact sl_list pins s σ0 H _ v vl vu lo hi sl Q I rx hs pl pu ⟨p0, vs, rfl, SqL.mono R.fle hp, fun p hn => q [.ref p] _ _ _ rfl (Same.refl F) (R.pop.newL hn (rs.cut lo hi)) _ rfl⟩
    | tup xs =>
      dsimp only at q
      obtain ⟨p0, vs, rfl, hp, rs, hpF⟩ := RepO.asT R.fle ra
      refine sl_tupA pins s σ0 H _ v vl vu lo hi sl Q I rx hs pl pu ⟨p0, vs, rfl, hp, fun hw => ?_, fun hw p hn => ?_⟩
      · refine q [.ref p0] F H L rfl (Same.refl F) (R.pop.pushF ?_) _ rfl
        have : cutP xs lo hi = xs := by
          unfold cutP
          rw [rs.length, hw.1, hw.2, List.drop_zero, Nat.sub_zero, ← rs.length, List.take_length]
        rw [this, RepF]
        exact ⟨p0, vs, rfl, hpF, rs⟩
      · obtain ⟨R2, k2⟩ := R.pop.newT hn (rs.cut lo hi)
        exact q [.ref p] _ _ _ rfl k2 R2 _ rfl
    | _ => exact q.elim
/-- the top entry is an int -/
theorem tZ.int {α : Type} {es : PEnv} {xs : List V} {σ : L2.St} {H : Hp} {e : Sl} {x : V} {g : Int → D α} {ps : α → PEnv} {Q : α → List V → Hp → Prop} (h : tZ X.prog X.w X.K W (es ++ [e]) (xs ++ [x]) (dbind (dint e) g) σ H ps Q) (hl : es.length = xs.length) :
    ∃ k, x = .int k ∧ tZ X.prog X.w X.K W (es ++ [e]) (xs ++ [x]) (g k) σ H ps Q := by
  obtain ⟨env, tm, τ, F, L, k, _, R, e1, h⟩ := h.get
  have R2 : Rel X.prog X.w X.K env ((tm ++ es) ++ [e]) σ ((τ ++ xs) ++ [x]) F H L := by simpa using R
  have e1' : cont env e = some (.int k) := by
    unfold intOf at e1
    split at e1
    · rename_i h'; cases e1; exact h'
    · cases e1
  obtain ⟨p, hp⟩ := R2.top.rep e1'
  exact ⟨k, hp, h⟩
theorem tZ.len {α : Type} {es : PEnv} {xs : List V} {σ : L2.St} {H : Hp} {d : D α} {ps : α → PEnv} {Q : α → List V → Hp → Prop} (h : tZ X.prog X.w X.K W es xs d σ H ps Q) : es.length = xs.length := by
  obtain ⟨_, _, _, _, _, hl, _⟩ := h
  exact hl
/-- an intermediate result goes from the top, if it is frozen and nothing stands upon it -/
theorem tZ.pop1 {α : Type} {es : PEnv} {xs : List V} {σ : L2.St} {H : Hp} {e : Sl} {x : V} {d : D α} {ps : α → PEnv} {Q : α → List V → Hp → Prop} (h : tZ X.prog X.w X.K W (es ++ [e]) (xs ++ [x]) d σ H ps Q) : tZ X.prog X.w X.K W es xs d σ H ps Q := by
  obtain ⟨env, tm, τ, F, L, hl, R, h⟩ := h
  have R2 : Rel X.prog X.w X.K env ((tm ++ es) ++ [e]) σ ((τ ++ xs) ++ [x]) F H L := by simpa using R
  refine ⟨env, tm, τ, F, L, by simpa using hl, R2.pop, ?_⟩
  cases e : d env with
  | no => rw [e] at h; exact h
  | ok a env' => rw [e] at h; exact h
  | ex c env' => rw [e] at h; exact h
theorem dbind_assoc {α β γ : Type} (d : D α) (f : α → D β) (g : β → D γ) : dbind (dbind d f) g = dbind d fun a => dbind (f a) g := by
  funext env
  unfold dbind
  cases d env <;> rfl
theorem part_imp {α : Type} {es : PEnv} {xs : List V} {σ : L2.St} {H : Hp} {lo : Option (D Sl)} {f : Option Int → D α} {ps : α → PEnv} {Q : α → List V → Hp → Prop} (h : tZ X.prog X.w X.K W es xs (dbind (dpart lo) f) σ H ps Q) :
    (match lo with | none => tNoPart | some d => tPart (tE X.prog X.w X.K W d)) σ H fun o H1 => tZ X.prog X.w X.K W es xs (f o) σ H1 ps Q := by
  cases lo with
  | none => exact h
  | some d =>
    have h' : tZ X.prog X.w X.K W es xs (dbind d fun a => dbind (dint a) fun i => f (some i)) σ H ps Q := by
      have e : (dbind (dpart (some d)) f) = (dbind d fun a => dbind (dint a) fun i => f (some i)) := by
        show dbind (dbind d fun a => dbind (dint a) fun i => dpure (some i)) f = _
        rw [dbind_assoc]
        congr 1
        funext a
        rw [dbind_assoc]
        rfl
      rw [← e]; exact h
    exact (tE.bind h').mono fun v H1 ⟨e, q⟩ => by
      obtain ⟨k, ek, q⟩ := tZ.int q (by have := q.len; simpa using this)
      exact ⟨k, ek, q.pop1⟩
theorem ev_slice {lo hi : Option Expr} {dl dh : Option (D Sl)} {p2 : Pos} (ha : EV X W a da) (hl : PO X lo (match dl with | none => tNoPart | some d => tPart (tE X.prog X.w X.K W d))) (hh : PO X hi (match dh with | none => tNoPart | some d => tPart (tE X.prog X.w X.K W d))) :
    EV X W (.Subscript a (.Slice lo hi none p2) pos) (dslice da dl dh) :=
  PEimp (pe_slice (sl_any (W := W)) ha hl hh) fun σ H Q h => (tE.bind (es := []) (xs := []) h).mono fun v H1 ⟨e, q⟩ => by
    have q1 := part_imp q
    cases dl with
    | none =>
      have q2 := part_imp (show tZ X.prog X.w X.K W _ _ (dbind (dpart dh) _) σ H1 _ _ from q1)
      cases dh with
      | none => exact ⟨σ, e, q2⟩
      | some d => exact (show tE X.prog X.w X.K W d σ H1 _ from q2).mono fun v2 H2 ⟨i, e2, q3⟩ => ⟨i, e2, σ, e, by simpa using q3⟩
    | some d0 =>
      refine (show tE X.prog X.w X.K W d0 σ H1 _ from q1).mono fun v1 H2 ⟨i, e1, q3⟩ => ⟨i, e1, ?_⟩
      have q2 := part_imp q3
      cases dh with
      | none => exact ⟨σ, e, q2⟩
      | some d => exact (show tE X.prog X.w X.K W d σ H2 _ from q2).mono fun v2 H2 ⟨i, e2, q3⟩ => ⟨i, e2, σ, e, by simpa using q3⟩
end
end Pv
namespace Pv
open PySem PySem.Spec PyProof.Rows L2

/-- how a statement ends -/
inductive Fl where
  | nx | rt (e : Sl) | bk | ct

section
variable (P : Program) (w : World) (K : PySem.W.Frag) (W : WX) (fi : List Nat) (σ0 : L2.St)
def FxOk (σ : L2.St) : Prop := ∀ i ∈ fi, σ[i]? = σ0[i]?
/-- what is wanted behind a statement -/
def flQ (Dn : Ends) (tm : List PV) (τ : List V) (F : Hp) : Fl → PEnv → Prop
  | .nx, env' => ∀ σ' F' H' L', Same F F' → Rel P w K env' (tm.map .val) σ' τ F' H' L' → FxOk fi σ0 σ' → Dn.nx σ' H'
  | .bk, env' => ∀ σ' F' H' L', Same F F' → Rel P w K env' (tm.map .val) σ' τ F' H' L' → FxOk fi σ0 σ' → Dn.bk σ' H'
  | .ct, env' => ∀ σ' F' H' L', Same F F' → Rel P w K env' (tm.map .val) σ' τ F' H' L' → FxOk fi σ0 σ' → Dn.ct σ' H'
  | .rt e, env' => ∀ (ex : List PV) (xs : List V) σ' v F' H' L', ex.length = xs.length → Same F F' → Rel P w K env' ((tm ++ ex).map .val ++ [e]) σ' (τ ++ xs ++ [v]) F' H' L' → FxOk fi σ0 σ' → Dn.rt v H'
def outQ (Dn : Ends) (tm : List PV) (τ : List V) (F : Hp) : Out Fl → Prop
  | .no => False
  | .ok f env' => flQ P w K fi σ0 Dn tm τ F f env'
  | .ex c env' => ∀ σ' F' H' L', Same F F' → Rel P w K env' (tm.map .val) σ' τ F' H' L' → FxOk fi σ0 σ' → W c none σ' H'
def tS (d : D Fl) : TS := fun Dn σ H => ∃ env tm τ F L, Rel P w K env (tm.map .val) σ τ F H L ∧ FxOk fi σ0 σ ∧ outQ P w K W fi σ0 Dn tm τ F (d env)
end

section
variable {P : Program} {w : World} {K : PySem.W.Frag} {W : WX} {fi : List Nat} {σ0 : L2.St}
theorem flQ.mono {Dn : Ends} {tm : List PV} {τ : List V} {F F1 : Hp} {f : Fl} {env : PEnv} (h : flQ P w K fi σ0 Dn tm τ F f env) (k : Same F F1) : flQ P w K fi σ0 Dn tm τ F1 f env := by
  cases f with
  | nx => exact fun σ' F' H' L' k' => h σ' F' H' L' (k.trans k')
  | bk => exact fun σ' F' H' L' k' => h σ' F' H' L' (k.trans k')
  | ct => exact fun σ' F' H' L' k' => h σ' F' H' L' (k.trans k')
  | rt e => exact fun ex xs σ' v F' H' L' hl k' => h ex xs σ' v F' H' L' hl (k.trans k')
theorem outQ.mono {Dn : Ends} {tm : List PV} {τ : List V} {F F1 : Hp} {o : Out Fl} (h : outQ P w K W fi σ0 Dn tm τ F o) (k : Same F F1) : outQ P w K W fi σ0 Dn tm τ F1 o := by
  cases o with
  | no => exact h
  | ok f env => exact flQ.mono h k
  | ex c env => exact fun σ' F' H' L' k' => h σ' F' H' L' (k.trans k')
end

abbrev SV (X : Cx) (W : WX) (fi : List Nat) (σ0 : L2.St) (st : Stmt) (d : D Fl) : Prop := PS X st (tS X.prog X.w X.K W fi σ0 d)
abbrev BV (X : Cx) (W : WX) (fi : List Nat) (σ0 : L2.St) (st : List Stmt) (d : D Fl) : Prop := PSs X st (tS X.prog X.w X.K W fi σ0 d)
theorem PSimp {X : Cx} {e : Stmt} {t t' : TS} (h : PS X e t) (k : ∀ D σ H, t' D σ H → t D σ H) : PS X e t' := ⟨fun pins s σ H D I q => h.run pins s σ H D I (k D σ H q)⟩
theorem PSsimp {X : Cx} {e : List Stmt} {t t' : TS} (h : PSs X e t) (k : ∀ D σ H, t' D σ H → t D σ H) : PSs X e t' := ⟨fun pins s σ H D I q => h.run pins s σ H D I (k D σ H q)⟩

def dskip : D Fl := dpure .nx
def dseq (a b : D Fl) : D Fl := dbind a fun f => match f with
  | .nx => b
  | f => dpure f
section
variable {X : Cx} {W : WX} {fi : List Nat} {σ0 : L2.St} {a b c : Expr} {da db dc : D Sl} {sa sb : D Fl} {ta : D Bool} {st : Stmt} {rest sts sts2 : List Stmt} {pos : Pos}
theorem bv_nil : BV X W fi σ0 [] dskip := PSsimp pss_nil fun Dn σ H ⟨env, tm, τ, F, L, R, fx, h⟩ => h σ F H L (Same.refl F) R fx
theorem seq_imp {Dn : Ends} {σ : L2.St} {H : Hp} (h : tS X.prog X.w X.K W fi σ0 (dseq sa sb) Dn σ H) : tSeq (tS X.prog X.w X.K W fi σ0 sa) (tS X.prog X.w X.K W fi σ0 sb) Dn σ H := by
  obtain ⟨env, tm, τ, F, L, R, fx, h⟩ := h
  refine ⟨env, tm, τ, F, L, R, fx, ?_⟩
  unfold dseq dbind at h
  cases e : sa env with
  | no => rw [e] at h; exact h
  | ex c env' => rw [e] at h; exact h
  | ok f env' =>
    rw [e] at h
    cases f with
    | nx => exact fun σ' F' H' L' k R' fx' => ⟨env', tm, τ, F', L', R', fx', outQ.mono h k⟩
    | rt _ => exact h
    | bk => exact h
    | ct => exact h
theorem bv_cons (h1 : SV X W fi σ0 st sa) (h2 : BV X W fi σ0 rest sb) : BV X W fi σ0 (st :: rest) (dseq sa sb) := PSsimp (pss_cons h1 h2) fun Dn σ H h => seq_imp h
theorem bv_one (h1 : SV X W fi σ0 st sa) : BV X W fi σ0 [st] sa := pss_one h1
theorem sv_pass : SV X W fi σ0 (.Pass pos) dskip := PSimp ps_pass fun Dn σ H ⟨env, tm, τ, F, L, R, fx, h⟩ => h σ F H L (Same.refl F) R fx
theorem sv_break : SV X W fi σ0 (.Break pos) (dpure .bk) := PSimp ps_break fun Dn σ H ⟨env, tm, τ, F, L, R, fx, h⟩ => h σ F H L (Same.refl F) R fx
theorem sv_continue : SV X W fi σ0 (.Continue pos) (dpure .ct) := PSimp ps_continue fun Dn σ H ⟨env, tm, τ, F, L, R, fx, h⟩ => h σ F H L (Same.refl F) R fx
/-- raise, where it does not come to it -/
theorem sv_never : SV X W fi σ0 st dno := PSimp ps_never fun Dn σ H ⟨env, tm, τ, F, L, R, fx, h⟩ => h
theorem bv_never : BV X W fi σ0 sts dno := PSsimp pss_never fun Dn σ H ⟨env, tm, τ, F, L, R, fx, h⟩ => h

/-- a statement that begins with an expression -/
theorem tS.expr {d : D Sl} {f : Sl → D Fl} {Dn : Ends} {σ : L2.St} {H : Hp} (h : tS X.prog X.w X.K W fi σ0 (dbind d f) Dn σ H) :
    tE X.prog X.w X.K W d σ H fun v H1 => ∃ (e : Sl) (env : PEnv) (tm : List PV) (τ : List V) (F : Hp) (L : Lab), Rel X.prog X.w X.K env (tm.map .val ++ [e]) σ (τ ++ [v]) F H1 L ∧ FxOk fi σ0 σ ∧ outQ X.prog X.w X.K W fi σ0 Dn tm τ F (f e env) := by
  obtain ⟨env, tm, τ, F, L, R, fx, h⟩ := h
  refine ⟨env, tm.map .val, τ, F, L, rfl, by simpa using R, ?_⟩
  unfold dbind at h
  cases e : d env with
  | no => rw [e] at h; exact h
  | ex c env' => rw [e] at h; exact fun F' H' L' k R' => h σ F' H' L' k R' fx
  | ok a env' =>
    rw [e] at h
    intro vs F' H' L' h1 k R' v hv
    subst hv
    exact ⟨a, env', tm, τ, F', L', R', fx, outQ.mono h k⟩
theorem tS.test {d : D Bool} {f : Bool → D Fl} {Dn : Ends} {σ : L2.St} {H : Hp} (h : tS X.prog X.w X.K W fi σ0 (dbind d f) Dn σ H) :
    tT X.prog X.w X.K W d σ H fun k H1 => tS X.prog X.w X.K W fi σ0 (f k) Dn σ H1 := by
  obtain ⟨env, tm, τ, F, L, R, fx, h⟩ := h
  refine ⟨env, tm.map .val, τ, F, L, rfl, by simpa using R, ?_⟩
  unfold dbind at h
  cases e : d env with
  | no => rw [e] at h; exact h
  | ex c env' => rw [e] at h; exact fun F' H' L' k R' => h σ F' H' L' k R' fx
  | ok a env' =>
    rw [e] at h
    intro vs F' H' L' h1 k R'
    have hv : vs = [] := List.length_eq_zero_iff.mp h1.symm
    subst hv
    exact ⟨env', tm, τ, F', L', by simpa using R', fx, outQ.mono h k⟩

def dret (d : D Sl) : D Fl := dbind d fun e => dpure (.rt e)
def dite (t : D Bool) (a b : D Fl) : D Fl := dbind t fun k => if k = true then a else b
def dexpr (d : D Sl) : D Fl := dbind d fun _ => dpure .nx
theorem sv_ret (ha : EV X W a da) : SV X W fi σ0 (.Return (some a) pos) (dret da) := PSimp (ps_ret ha) fun Dn σ H h => (tS.expr h).mono fun v H1 ⟨e, env, tm, τ, F, L, R, fx, q⟩ => q [] [] σ v F H1 L rfl (Same.refl F) (by simpa using R) fx
theorem sv_retN : SV X W fi σ0 (.Return none pos) (dpure (.rt (.val .non))) := PSimp ps_retN fun Dn σ H ⟨env, tm, τ, F, L, R, fx, h⟩ => h [] [] σ .non F H L rfl (Same.refl F) (by simpa using R.pushF (pv := .non) (v := .non) rfl) fx
theorem sv_if (ht : TV X W c ta) (ha : BV X W fi σ0 sts sa) (hb : BV X W fi σ0 sts2 sb) : SV X W fi σ0 (.If c sts sts2 pos) (dite ta sa sb) := PSimp (ps_if ht ha hb) fun Dn σ H h => (tS.test h).mono fun k H1 q => by
  cases k with
  | true => exact q
  | false => exact q
theorem sv_expr (ha : EV X W a da) (hs : swapsWith a none pos.line X.env = pure false := by rfl) : SV X W fi σ0 (.Expr a pos) (dexpr da) := PSimp (ps_expr ha hs) fun Dn σ H h => (tS.expr h).mono fun v H1 ⟨e, env, tm, τ, F, L, R, fx, q⟩ => q σ F H1 L (Same.refl F) R.pop fx
theorem sv_doc {x j pos pos'} : SV X W fi σ0 (.Expr (.Constant (.str x) j pos) pos') dskip := PSimp ps_doc fun Dn σ H ⟨env, tm, τ, F, L, R, fx, h⟩ => h σ F H L (Same.refl F) R fx
end

/-! ### names stored -/
/-- other names for what hangs from a slot are given up -/
def killR (j : Nat) : Sl → Sl
  | .al i q => if i = j then .un else .al i q
  | e => e
def setE (env : PEnv) (i : Nat) (e : Sl) : PEnv := (env.map (killR i)).set i e
/-- an entry that is to be stored: no other name for a whole slot -/
def unalE (env : PEnv) : Sl → Option (Sl × PEnv)
  | .val pv => some (.val pv, env)
  | .al j [] => (frzE env (.al j [])).map fun r => (.val r.1, r.2)
  | .al j p => some (.al j p, env)
  | .un => none
def dstore (i : Nat) (e : Sl) : D Fl := fun env => match e with
  | .val pv => .ok .nx (setE env i (.val pv))
  | .al j p => if p = [] ∨ j = i then match frzE env (.al j p) with
      | some (q, env1) => .ok .nx (setE env1 i (.val q))
      | none => .no
    else .ok .nx (setE env i (.al j p))
  | .un => .no
def dset (i : Nat) (d : D Sl) : D Fl := dbind d (dstore i)
/-- labels moved from a root to another -/
def mvL (r r' : Nat) (L : Lab) : Lab := fun a => match L a with
  | some (x :: s) => if x = r then some (r' :: s) else if x = r' then none else some (x :: s)
  | o => o
theorem mvL_src {r r' : Nat} {L : Lab} {a : Addr} {s : Path} (h : L a = some (r :: s)) : mvL r r' L a = some (r' :: s) := by simp [mvL, h]
theorem mvL_off {r r' x : Nat} {L : Lab} {a : Addr} {s : Path} (h : L a = some (x :: s)) (h1 : x ≠ r) (h2 : x ≠ r') : mvL r r' L a = some (x :: s) := by simp [mvL, h, h1, h2]
theorem mvL_some {r r' : Nat} {L : Lab} {a : Addr} {p : Path} (h : mvL r r' L a = some p) : ∃ q, L a = some q := by
  unfold mvL at h
  cases e : L a with
  | none => rw [e] at h; cases h
  | some q => exact ⟨q, rfl⟩
theorem mvL_inv {r r' : Nat} {L : Lab} {a : Addr} {q : Path} (h : mvL r r' L a = some q) : (∃ s, L a = some (r :: s) ∧ q = r' :: s) ∨ (L a = some q ∧ ∀ s, q ≠ r' :: s) := by
  unfold mvL at h
  cases e : L a with
  | none => rw [e] at h; cases h
  | some z =>
    rw [e] at h
    cases z with
    | nil => cases h; exact .inr ⟨rfl, fun s z => by cases z⟩
    | cons x s =>
      dsimp only at h
      by_cases h1 : x = r
      · rw [if_pos h1] at h
        cases h
        exact .inl ⟨s, by rw [h1], rfl⟩
      · rw [if_neg h1] at h
        by_cases h2 : x = r'
        · rw [if_pos h2] at h; cases h
        · rw [if_neg h2] at h
          cases h
          exact .inr ⟨rfl, fun s' z => by cases z; exact h2 rfl⟩
theorem mvL_inj {r r' : Nat} {L : Lab} (inj : ∀ a b q, L a = some q → L b = some q → a = b) : ∀ a b q, mvL r r' L a = some q → mvL r r' L b = some q → a = b := fun a b q h1 h2 => by
  rcases mvL_inv h1 with ⟨s, e1, e2⟩ | ⟨e1, e2⟩
  · rcases mvL_inv h2 with ⟨s', e3, e4⟩ | ⟨e3, e4⟩
    · rw [e2] at e4
      cases e4
      exact inj _ _ _ e1 e3
    · exact absurd e2 (e4 s)
  · rcases mvL_inv h2 with ⟨s', e3, e4⟩ | ⟨e3, e4⟩
    · exact absurd e4 (e2 s')
    · exact inj _ _ _ e1 e3
section
variable {P : Program} {w : World} {K : PySem.W.Frag} {F F' H H' : Hp} {L L' : Lab} {env env' tm tm' : PEnv} {σ σ' : L2.St} {τ τ' : List V}
theorem setE_len {env : PEnv} {i : Nat} {e : Sl} : (setE env i e).length = env.length := by unfold setE; rw [List.length_set, List.length_map]
theorem setE_look {env : PEnv} {i j : Nat} {e : Sl} {q : Path} {x : PV} (h : look (setE env i e) j q = some x) (hj : j ≠ i) : look env j q = some x := by
  obtain ⟨y, e1, e2, e3⟩ := look_some h
  unfold setE at e1
  rw [List.getElem?_set_ne (Ne.symm hj), List.getElem?_map] at e1
  cases e4 : env[j]? with
  | none => rw [e4] at e1; cases e1
  | some s =>
    rw [e4] at e1
    cases s with
    | un => cases e1
    | val z => cases e1; exact look_of e4 e2 e3
    | al i' q' =>
      simp only [Option.map_some, Option.some.injEq, killR] at e1
      split at e1 <;> cases e1
theorem setE_get {env : PEnv} {i k : Nat} {e s : Sl} (h : (setE env i e)[k]? = some s) : (k = i ∧ s = e) ∨ (k ≠ i ∧ ∃ s0, env[k]? = some s0 ∧ s = killR i s0) := by
  unfold setE at h
  rcases getElem?_set_cases h with ⟨rfl, rfl, _⟩ | ⟨hne, h⟩
  · exact .inl ⟨rfl, rfl⟩
  · rw [List.getElem?_map] at h
    cases e4 : env[k]? with
    | none => rw [e4] at h; cases h
    | some s0 =>
      rw [e4] at h
      exact .inr ⟨Ne.symm hne, s0, rfl, (Option.some.inj h).symm⟩
/-- a value goes from the top into a slot; other names for that slot's old value are none -/
theorem Rel.store {i : Nat} {pv : PV} {v : V} (R : Rel P w K env (tm ++ [.val pv]) σ (τ ++ [v]) F H L) (hi : i < σ.length) (hal : ∀ j p, Sl.al j p ∈ tm → j ≠ i) :
    Rel P w K (setE env i (.val pv)) tm (σ.set i (some v)) τ F H (mvL (2 * tm.length + 1) (2 * i) L) := by
  have ht := R.top
  have R' := R.pop
  have go : ∀ {r : Nat} {e : Sl} {u : V}, r ≠ 2 * i → r ≠ 2 * tm.length + 1 → (∀ j p, e = .al j p → j ≠ i) → Ent P w K env F H L r e u → Ent P w K (setE env i (.val pv)) F H (mvL (2 * tm.length + 1) (2 * i) L) r e u := fun {r e u} h1 h2 h3 h => by
    cases e with
    | un => trivial
    | val q => exact RepO.tr (Same.refl F) q [r] [r] u (fun a s l => ⟨mvL_off l h2 h1, rfl⟩) h
    | al j p =>
      intro q hq
      have hj := h3 j p rfl
      exact RepO.tr (Same.refl F) q (2 * j :: p) (2 * j :: p) u (fun a s l => ⟨mvL_off (s := p ++ s) l (by omega) (by omega), rfl⟩) (h q (setE_look hq hj))
  refine ⟨R.fle, fun a p e => ?_, fun a p e => ?_, by rw [setE_len, List.length_set]; exact R.len, fun k e he hu => ?_, R'.tlen, fun k e u he hu => ?_, mvL_inj R.inj, fun k u j q he hu hq => ?_⟩
  rotate_right
  · have hj := hal j [] (List.mem_of_getElem? he)
    rw [List.getElem?_set_ne (Ne.symm hj)]
    exact R'.ali k u j q he hu (setE_look hq hj)
  · obtain ⟨q, hq⟩ := mvL_some e; exact R.lf a q hq
  · obtain ⟨q, hq⟩ := mvL_some e; exact R.lh a q hq
  · rcases setE_get he with ⟨rfl, rfl⟩ | ⟨hne, s0, h0, rfl⟩
    · refine ⟨v, List.getElem?_set_self hi, ?_⟩
      exact RepO.tr (Same.refl F) pv [2 * tm.length + 1] [2 * k] v (fun a s l => ⟨mvL_src l, rfl⟩) ht
    · cases s0 with
      | un => exact absurd rfl hu
      | val q =>
        obtain ⟨u, h1, h2⟩ := R.slot k _ h0 (by simp)
        refine ⟨u, by rw [List.getElem?_set_ne (Ne.symm hne)]; exact h1, go (by omega) (by omega) (fun _ _ e => by cases e) h2⟩
      | al j p =>
        by_cases hj : j = i
        · exact absurd (show killR i (.al j p) = .un by simp [killR, hj]) hu
        · have e5 : killR i (.al j p) = .al j p := by simp [killR, hj]
          rw [e5]
          obtain ⟨u, h1, h2⟩ := R.slot k _ h0 (by simp)
          exact ⟨u, by rw [List.getElem?_set_ne (Ne.symm hne)]; exact h1, go (by omega) (by omega) (fun _ _ e => by cases e; exact hj) h2⟩
  · have hk := (List.getElem?_eq_some_iff.mp he).1
    exact go (by omega) (by omega) (fun j p e => hal j p (by rw [← e]; exact List.mem_of_getElem? he)) (R'.tmp k e u he hu)
/-- another name goes from the top into a slot -/
theorem Rel.storeA {i j : Nat} {p : Path} {v : V} (R : Rel P w K env (tm ++ [.al j p]) σ (τ ++ [v]) F H L) (hi : i < σ.length) (hj : j ≠ i) (hal : ∀ j p, Sl.al j p ∈ tm → j ≠ i) :
    Rel P w K (setE env i (.al j p)) tm (σ.set i (some v)) τ F H L := by
  have ht := R.top
  have R' := R.pop
  have go : ∀ {r : Nat} {e : Sl} {u : V}, (∀ j p, e = .al j p → j ≠ i) → Ent P w K env F H L r e u → Ent P w K (setE env i (.al j p)) F H L r e u := fun {r e u} h3 h => by
    cases e with
    | un => trivial
    | val q => exact h
    | al j' p' =>
      intro q hq
      exact h q (setE_look hq (h3 j' p' rfl))
  refine ⟨R.fle, R.lf, R.lh, by rw [setE_len, List.length_set]; exact R.len, fun k e he hu => ?_, R'.tlen, fun k e u he hu => ?_, R.inj, fun k u j q he hu hq => ?_⟩
  rotate_right
  · have hj := hal j [] (List.mem_of_getElem? he)
    rw [List.getElem?_set_ne (Ne.symm hj)]
    exact R'.ali k u j q he hu (setE_look hq hj)
  · rcases setE_get he with ⟨rfl, rfl⟩ | ⟨hne, s0, h0, rfl⟩
    · exact ⟨v, List.getElem?_set_self hi, go (fun _ _ e => by cases e; exact hj) ht⟩
    · cases s0 with
      | un => exact absurd rfl hu
      | val q =>
        obtain ⟨u, h1, h2⟩ := R.slot k _ h0 (by simp)
        exact ⟨u, by rw [List.getElem?_set_ne (Ne.symm hne)]; exact h1, go (fun _ _ e => by cases e) h2⟩
      | al j' p' =>
        by_cases hj' : j' = i
        · exact absurd (show killR i (.al j' p') = .un by simp [killR, hj']) hu
        · have e5 : killR i (.al j' p') = .al j' p' := by simp [killR, hj']
          rw [e5]
          obtain ⟨u, h1, h2⟩ := R.slot k _ h0 (by simp)
          exact ⟨u, by rw [List.getElem?_set_ne (Ne.symm hne)]; exact h1, go (fun _ _ e => by cases e; exact hj') h2⟩
  · exact go (fun j p e => hal j p (by rw [← e]; exact List.mem_of_getElem? he)) (R'.tmp k e u he hu)
theorem no_al {tm : List PV} {j : Nat} {p : Path} (h : Sl.al j p ∈ tm.map Sl.val) : False := by
  obtain ⟨x, _, e⟩ := List.mem_map.mp h
  cases e
end
section
variable {X : Cx} {W : WX} {fi : List Nat} {σ0 : L2.St} {a b c : Expr} {da db dc : D Sl} {sa sb : D Fl} {ta : D Bool} {st : Stmt} {rest sts sts2 : List Stmt} {pos : Pos}
theorem FxOk.set {σ : L2.St} {i : Nat} {v : Option V} (h : FxOk fi σ0 σ) (hi : i ∉ fi) : FxOk fi σ0 (σ.set i v) := fun k hk => by
  rw [List.getElem?_set_ne (fun e => hi (by rw [e]; exact hk))]
  exact h k hk
/-- an entry at the top stored -/
theorem store_imp {i : Nat} {e : Sl} {env : PEnv} {tm : List PV} {τ : List V} {σ : L2.St} {F H : Hp} {L : Lab} {v : V} {Dn : Ends} (R : Rel X.prog X.w X.K env (tm.map .val ++ [e]) σ (τ ++ [v]) F H L) (fx : FxOk fi σ0 σ) (hi : i < σ.length) (hf : i ∉ fi)
    (q : outQ X.prog X.w X.K W fi σ0 Dn tm τ F (dstore i e env)) : Dn.nx (σ.set i (some v)) H := by
  unfold dstore at q
  cases e with
  | un => exact q.elim
  | val pv => exact q _ F H _ (Same.refl F) (R.store hi fun j p h => (no_al h).elim) (fx.set hf)
  | al j p =>
    dsimp only at q
    by_cases hp : p = [] ∨ j = i
    · rw [if_pos hp] at q
      cases e1 : frzE env (.al j p) with
      | none => rw [e1] at q; exact q.elim
      | some r =>
        obtain ⟨y, env1⟩ := r
        rw [e1] at q
        obtain ⟨F1, L1, k1, R1⟩ := R.frzAt (i := (tm.map Sl.val).length) (v := v) (by simp) (by have := R.pop.tlen; rw [this]; simp) e1
        have hs : (tm.map Sl.val ++ [Sl.al j p]).set (tm.map Sl.val).length (.val y) = tm.map Sl.val ++ [.val y] := by simp
        rw [hs] at R1
        exact q _ F1 H _ k1 (R1.store hi fun j p h => (no_al h).elim) (fx.set hf)
    · rw [if_neg hp] at q
      exact q _ F H _ (Same.refl F) (R.storeA hi (fun e => hp (.inr e)) fun j p h => (no_al h).elim) (fx.set hf)
theorem Rel.slen {env tm : PEnv} {σ : L2.St} {τ : List V} {F H : Hp} {L : Lab} {P : Program} {w : World} {K : PySem.W.Frag} (R : Rel P w K env tm σ τ F H L) : σ.length = env.length := R.len.symm
theorem sv_set {i : Nat} {x : Str} {pos' : Pos} (G : Good X) (hi : X.N[i]? = some x) (hx : Loc X.env.scope x) (hf : i ∉ fi) (he : EV X W a da) (hs : swapsWith a (some (.Name x pos')) pos.line X.env = pure false := by rfl)
    (hfn : X.fn x = true ∨ X.env.scope.names.lookup x = some .local := by first | exact .inl rfl | exact .inr rfl | assumption) : SV X W fi σ0 (.Assign [.Name x pos'] a pos) (dset i da) := by
  refine ⟨fun pins s σ H Dn I h => (ps_set (pos' := pos') (pos := pos) G.nd hi hx he hs hfn).run pins s σ H Dn I ?_⟩
  have hl : i < σ.length := by rw [I.len]; exact (List.getElem?_eq_some_iff.mp hi).1
  exact (tS.expr h).mono fun v H1 ⟨e, env, tm, τ, F, L, R, fx, q⟩ => store_imp R fx hl hf q
end
end Pv
namespace Pv
open PySem PySem.Spec PyProof.Rows L2

/-! ### targets -/
inductive Tg where
  | nm (i : Nat) | tp (ts : List Tg) | ix (a b : D Sl)
/-- a kept value stored at a place of a list without lists of its own -/
def storeIx (a b : Sl) (p : PV) (env : PEnv) : Option PEnv := match a with
  | .al j q => match look env j q, cont env b with
    | some (.lst true xs), some (.int i) => match ixN xs.length i with
      | some k => if PV.fzs xs = true then some (putE env j q (.lst true (xs.set k p))) else none
      | none => none
    | _, _ => none
  | _ => none
mutual
def setT : Tg → PV → PEnv → Option PEnv
  | .nm i, p, env => some (setE env i (.val p))
  | .tp ts, .tup ps, env => setTs ts ps env
  | .ix a b, p, env => match a env with
    | .ok x env1 => match b env1 with
      | .ok y env2 => storeIx x y p env2
      | _ => none
    | _ => none
  | .tp _, _, _ => none
def setTs : List Tg → List PV → PEnv → Option PEnv
  | [], [], env => some env
  | t :: ts, p :: ps, env => match setT t p env with
    | some env1 => setTs ts ps env1
    | none => none
  | _, _, _ => none
end
section
variable (P : Program) (w : World) (K : PySem.W.Frag) (fi : List Nat) (σ0 : L2.St)
def gT (t : Tg) : TG := fun v σ H Q => ∃ (env tm : PEnv) (τ : List V) (F : Hp) (L : Lab) (p : PV) (env' : PEnv), Rel P w K env tm σ τ F H L ∧ FxOk fi σ0 σ ∧ RepF P w K F p v ∧ setT t p env = some env' ∧
  ∀ σ' F' H' L', Same F F' → Rel P w K env' tm σ' τ F' H' L' → FxOk fi σ0 σ' → Q σ' H'
def gTs (ts : List Tg) : TGs := fun vs σ H Q => ∃ (env tm : PEnv) (τ : List V) (F : Hp) (L : Lab) (ps : List PV) (env' : PEnv), Rel P w K env tm σ τ F H L ∧ FxOk fi σ0 σ ∧ RepFs P w K F ps vs ∧ setTs ts ps env = some env' ∧
  ∀ σ' F' H' L', Same F F' → Rel P w K env' tm σ' τ F' H' L' → FxOk fi σ0 σ' → Q σ' H'
end
/-- a frozen value stored in a slot -/
theorem Rel.storeF {P : Program} {w : World} {K : PySem.W.Frag} {F H : Hp} {L : Lab} {env tm : PEnv} {σ : L2.St} {τ : List V} {i : Nat} {pv : PV} {v : V} (R : Rel P w K env tm σ τ F H L) (hp : RepF P w K F pv v) (hi : i < σ.length) :
    Rel P w K (setE env i (.val pv)) tm (σ.set i (some v)) τ F H L := by
  have hz := RepF.fz _ _ hp
  have hil : i < env.length := by rw [R.len]; exact hi
  have self : (setE env i (.val pv))[i]? = some (.val pv) := by
    unfold setE
    rw [List.getElem?_set_self (by rw [List.length_map]; exact hil)]
  have go : ∀ {r : Nat} {e : Sl} {u : V}, Ent P w K env F H L r e u → Ent P w K (setE env i (.val pv)) F H L r e u := fun {r e u} h => by
    cases e with
    | un => trivial
    | val q => exact h
    | al j p =>
      intro q hq
      by_cases hj : j = i
      · subst hj
        obtain ⟨y, e1, e2, e3⟩ := look_some hq
        rw [self] at e1
        cases e1
        rw [at_fz _ _ _ hz e2] at e3
        cases e3
      · exact h q (setE_look hq hj)
  refine ⟨R.fle, R.lf, R.lh, by rw [setE_len, List.length_set]; exact R.len, fun k e he hu => ?_, R.tlen, fun k e u he hu => go (R.tmp k e u he hu), R.inj, fun k u j q he hu hq => ?_⟩
  rotate_right
  · by_cases hj : j = i
    · subst hj
      obtain ⟨y, e1, e2, e3⟩ := look_some hq
      rw [self] at e1
      cases e1
      rw [at_fz _ _ _ hz e2] at e3
      cases e3
    · rw [List.getElem?_set_ne (Ne.symm hj)]
      exact R.ali k u j q he hu (setE_look hq hj)
  rcases setE_get he with ⟨rfl, rfl⟩ | ⟨hne, s0, h0, rfl⟩
  · exact ⟨v, List.getElem?_set_self hi, RepO.ofF hp⟩
  · cases s0 with
    | un => exact absurd rfl hu
    | val q =>
      obtain ⟨u, h1, h2⟩ := R.slot k _ h0 (by simp)
      exact ⟨u, by rw [List.getElem?_set_ne (Ne.symm hne)]; exact h1, go h2⟩
    | al j p =>
      by_cases hj : j = i
      · exact absurd (show killR i (.al j p) = .un by simp [killR, hj]) hu
      · have e5 : killR i (.al j p) = .al j p := by simp [killR, hj]
        rw [e5]
        obtain ⟨u, h1, h2⟩ := R.slot k _ h0 (by simp)
        exact ⟨u, by rw [List.getElem?_set_ne (Ne.symm hne)]; exact h1, go h2⟩
theorem PGimp {X : Cx} {e : Expr} {t t' : TG} (h : PG X e t) (k : ∀ v σ H Q, t' v σ H Q → t v σ H Q) : PG X e t' := ⟨fun pins s σ H v u Q I r q => h.run pins s σ H v u Q I r (k v σ H Q q)⟩
theorem PGsimp {X : Cx} {e : List Expr} {t t' : TGs} (h : PGs X e t) (k : ∀ v σ H Q, t' v σ H Q → t v σ H Q) : PGs X e t' := ⟨fun pins s σ H v u Q I r q => h.run pins s σ H v u Q I r (k v σ H Q q)⟩
abbrev GV (X : Cx) (fi : List Nat) (σ0 : L2.St) (e : Expr) (t : Tg) : Prop := PG X e (gT X.prog X.w X.K fi σ0 t)
abbrev GVs (X : Cx) (fi : List Nat) (σ0 : L2.St) (e : List Expr) (t : List Tg) : Prop := PGs X e (gTs X.prog X.w X.K fi σ0 t)
section
variable {X : Cx} {W : WX} {fi : List Nat} {σ0 : L2.St} {a b c e : Expr} {es : List Expr} {da db dc : D Sl} {sa sb : D Fl} {ta : D Bool} {st : Stmt} {rest sts sts2 : List Stmt} {pos : Pos}
theorem gv_name {i : Nat} {x : Str} (G : Good X) (hi : X.N[i]? = some x) (hx : Loc X.env.scope x) (hf : i ∉ fi)
    (hfn : X.fn x = true ∨ X.env.scope.names.lookup x = some .local := by first | exact .inl rfl | exact .inr rfl | assumption) : GV X fi σ0 (.Name x pos) (.nm i) := by
  refine ⟨fun pins s σ H v u Q I r q => (pg_name (pos := pos) G.nd hi hx hfn).run pins s σ H v u Q I r ?_⟩
  have hl : i < σ.length := by rw [I.len]; exact (List.getElem?_eq_some_iff.mp hi).1
  obtain ⟨env, tm, τ, F, L, p, env', R, fx, hp, hs, q⟩ := q
  cases hs
  exact q _ F H _ (Same.refl F) (R.storeF hp hl) (fx.set hf)
theorem gvs_nil : GVs X fi σ0 [] [] := PGsimp pgs_nil fun vs σ H Q ⟨env, tm, τ, F, L, ps, env', R, fx, hp, hs, q⟩ => by
  cases ps with
  | nil =>
    rw [setTs] at hs
    cases hs
    rw [RepFs] at hp
    exact ⟨hp, q σ F H L (Same.refl F) R fx⟩
  | cons p ps => simp [setTs] at hs
theorem gvs_cons {t : Tg} {ts : List Tg} (h1 : GV X fi σ0 e t) (h2 : GVs X fi σ0 es ts) (hd : (assignEach (e :: es) X.env).map (·.2) = assign e X.env :: (assignEach es X.env).map (·.2) := by rfl) : GVs X fi σ0 (e :: es) (t :: ts) := PGsimp (pgs_cons h1 h2 hd) fun vs σ H Q ⟨env, tm, τ, F, L, ps, env', R, fx, hp, hs, q⟩ => by
  cases ps with
  | nil => simp [setTs] at hs
  | cons p ps =>
    rw [RepFs] at hp
    obtain ⟨v, r, rfl, h3, h4⟩ := hp
    rw [setTs] at hs
    cases e1 : setT t p env with
    | none => rw [e1] at hs; cases hs
    | some env1 =>
      rw [e1] at hs
      exact ⟨v, r, rfl, env, tm, τ, F, L, p, env1, R, fx, h3, e1, fun σ' F' H' L' k' R' fx' => ⟨env1, tm, τ, F', L', ps, env', R', fx', RepFs.mono k' _ _ h4, hs, fun σ2 F2 H2 L2 k2 => q σ2 F2 H2 L2 (k'.trans k2)⟩⟩
theorem gv_tup {k : Nat} {ts : List Tg} {n : Nat} (G : Good X) (h : GVs X fi σ0 es ts) (hn : ts.length = n := by rfl) (hm : (assignEach es X.env).length = n := by rfl) (hst : (assignEach es X.env).findIdx? (·.1) = none := by rfl) : GV X fi σ0 (.Tuple es k pos) (.tp ts) := by
  have hlen : ∀ (ts : List Tg) (ps : List PV) (env env' : PEnv), setTs ts ps env = some env' → ps.length = ts.length := by
    intro ts
    induction ts with
    | nil => intro ps env env' h; cases ps with
      | nil => rfl
      | cons p ps => simp [setTs] at h
    | cons t ts ih => intro ps env env' h; cases ps with
      | nil => simp [setTs] at h
      | cons p ps =>
        rw [setTs] at h
        cases e1 : setT t p env with
        | none => rw [e1] at h; cases h
        | some env1 => rw [e1] at h; rw [List.length_cons, List.length_cons, ih ps env1 env' h]
  refine PGimp (pg_tup (n := n) G.calm h hm hst) fun v σ H Q ⟨env, tm, τ, F, L, p, env', R, fx, hp, hs, q⟩ => ?_
  cases p with
  | tup ps =>
    rw [setT] at hs
    rw [RepF] at hp
    obtain ⟨a, vs, rfl, s1, r⟩ := hp
    exact ⟨a, vs, rfl, SqT.mono R.fle s1, by rw [← r.length, hlen ts ps env env' hs, hn], env, tm, τ, F, L, ps, env', R, fx, r, hs, q⟩
  | _ => simp [setT] at hs
/-- target = e, a pattern -/
def dunpack (t : Tg) (e : Sl) : D Fl := fun env => match frzE env e with
  | some (p, env1) => match setT t p env1 with
    | some env2 => .ok .nx env2
    | none => .no
  | none => .no
def dasg (t : Tg) (d : D Sl) : D Fl := dbind d (dunpack t)
theorem unpack_imp {t : Tg} {e : Sl} {env : PEnv} {tm : List PV} {τ : List V} {σ : L2.St} {F H : Hp} {L : Lab} {v : V} {Dn : Ends} (R : Rel X.prog X.w X.K env (tm.map .val ++ [e]) σ (τ ++ [v]) F H L) (fx : FxOk fi σ0 σ)
    (q : outQ X.prog X.w X.K W fi σ0 Dn tm τ F (dunpack t e env)) : gT X.prog X.w X.K fi σ0 t v σ H Dn.nx := by
  unfold dunpack at q
  cases e1 : frzE env e with
  | none => rw [e1] at q; exact q.elim
  | some r =>
    obtain ⟨p, env1⟩ := r
    rw [e1] at q
    dsimp only at q
    obtain ⟨F1, L1, k1, R1⟩ := R.frzAt (i := (tm.map Sl.val).length) (v := v) (by simp) (by have := R.pop.tlen; rw [this]; simp) e1
    have hs : (tm.map Sl.val ++ [e]).set (tm.map Sl.val).length (.val p) = tm.map Sl.val ++ [.val p] := by simp
    rw [hs] at R1
    cases e2 : setT t p env1 with
    | none => rw [e2] at q; exact q.elim
    | some env2 =>
      rw [e2] at q
      have hpz : p.fz = true := by
        cases e with
        | un => cases e1
        | val pv => cases e1; exact PV.fz_frz _
        | al j q' =>
          have h' : (match look env j q', env[j]? with
            | some x, some (.val pv) => some (x.frz, env.set j (.val pv.frz))
            | _, _ => none) = some (p, env1) := e1
          cases e3 : look env j q' with
          | none => rw [e3] at h'; cases h'
          | some y =>
            obtain ⟨pv, e4, _, _⟩ := look_some e3
            rw [e3, e4] at h'
            cases h'
            exact PV.fz_frz _
      exact ⟨env1, tm.map .val, τ, F1, L1, p, env2, R1.pop, fx, RepO.toF hpz R1.top, e2, fun σ' F' H' L' k' R' fx' => q σ' F' H' L' (k1.trans k') R' fx'⟩
theorem sv_asg {tg : Expr} {t : Tg} (hg : GV X fi σ0 tg t) (he : EV X W a da) (hs : swapsWithSole [tg] a pos.line X.env = pure false := by rfl) (hw : swappedStores [tg] a X.env = pure none := by rfl)
    (h1 : (assignEach [tg] X.env).map (·.2) = [assign tg X.env] := by rfl) : SV X W fi σ0 (.Assign [tg] a pos) (dasg t da) :=
  PSimp (ps_asg he hg hs hw h1) fun Dn σ H h => (tS.expr h).mono fun v H1 ⟨e, env, tm, τ, F, L, R, fx, q⟩ => unpack_imp R fx q
end

/-! ### a, b = x, y -/
/-- entries as values, whole slots frozen -/
def unalEs : PEnv → PEnv → Option (List PV × PEnv)
  | env, [] => some ([], env)
  | env, e :: es => match (match e with
      | .val pv => some (pv, env)
      | e => frzE env e) with
    | some (p, env1) => match unalEs env1 es with
      | some (ps, env2) => some (p :: ps, env2)
      | none => none
    | none => none
def setAll : PEnv → List Nat → List PV → Option PEnv
  | env, [], [] => some env
  | env, i :: is, p :: ps => setAll (setE env i (.val p)) is ps
  | _, _, _ => none
def dparsE (is : List Nat) (es : PEnv) : D Fl := fun env => match unalEs env es with
  | some (ps, env1) => match setAll env1 is ps with
    | some env2 => .ok .nx env2
    | none => .no
  | none => .no
def dpars (is : List Nat) (d : D PEnv) : D Fl := dbind d (dparsE is)
section
variable {P : Program} {w : World} {K : PySem.W.Frag} {F F' H H' : Hp} {L L' : Lab} {env env' tm tm' : PEnv} {σ σ' : L2.St} {τ τ' : List V}
theorem Rel.unalAll : ∀ {es pre : PEnv} {xs px : List V} {env env' : PEnv} {F : Hp} {L : Lab} {ps : List PV}, Rel P w K env (pre ++ es) σ (px ++ xs) F H L → pre.length = px.length → unalEs env es = some (ps, env') →
    ∃ F' L', Same F F' ∧ Rel P w K env' (pre ++ ps.map Sl.val) σ (px ++ xs) F' H L'
  | [], pre, xs, px, env, env', F, L, ps, R, hl, h => by
    cases h
    exact ⟨F, L, Same.refl F, by simpa using R⟩
  | e :: es, pre, [], px, env, env', F, L, ps, R, hl, h => by
    have := R.tlen
    simp at this
    omega
  | e :: es, pre, x :: xs, px, env, env', F, L, ps, R, hl, h => by
    unfold unalEs at h
    have step : ∀ {p : PV} {env1 : PEnv} {F1 : Hp} {L1 : Lab}, Same F F1 → Rel P w K env1 (pre ++ .val p :: es) σ (px ++ x :: xs) F1 H L1 → (match unalEs env1 es with | some (ps, env2) => some (p :: ps, env2) | none => (none : Option (List PV × PEnv))) = some (ps, env') → ∃ F' L', Same F F' ∧ Rel P w K env' (pre ++ ps.map Sl.val) σ (px ++ x :: xs) F' H L' := fun {p env1 F1 L1} k1 R1 h => by
      cases e2 : unalEs env1 es with
      | none => rw [e2] at h; cases h
      | some r2 =>
        obtain ⟨ps', env2⟩ := r2
        rw [e2] at h
        cases h
        have R1' : Rel P w K env1 ((pre ++ [.val p]) ++ es) σ ((px ++ [x]) ++ xs) F1 H L1 := by simpa using R1
        obtain ⟨F2, L2, k2, R2⟩ := Rel.unalAll R1' (by simp [hl]) e2
        exact ⟨F2, L2, k1.trans k2, by simpa using R2⟩
    cases e with
    | val pv => exact step (Same.refl F) R h
    | un =>
      cases h
    | al j q =>
      dsimp only at h
      cases e1 : frzE env (.al j q) with
      | none => rw [e1] at h; cases h
      | some r =>
        obtain ⟨p, env1⟩ := r
        rw [e1] at h
        obtain ⟨F1, L1, k1, R1⟩ := R.frzAt (i := pre.length) (v := x) (by simp) (by rw [hl]; simp) e1
        have hs : (pre ++ Sl.al j q :: es).set pre.length (.val p) = pre ++ .val p :: es := by simp
        rw [hs] at R1
        exact step k1 R1 h
/-- a value goes from its place among the intermediate results into a slot -/
theorem Rel.storeAt {i n : Nat} {pv : PV} {v : V} (R : Rel P w K env tm σ τ F H L) (hn : tm[n]? = some (.val pv)) (hv : τ[n]? = some v) (hi : i < σ.length) (hal : ∀ j p, Sl.al j p ∈ tm → j ≠ i) :
    Rel P w K (setE env i (.val pv)) (tm.set n .un) (σ.set i (some v)) τ F H (mvL (2 * n + 1) (2 * i) L) := by
  have ht := R.tmp n _ v hn hv
  have go : ∀ {r : Nat} {e : Sl} {u : V}, r ≠ 2 * i → r ≠ 2 * n + 1 → (∀ j p, e = .al j p → j ≠ i) → Ent P w K env F H L r e u → Ent P w K (setE env i (.val pv)) F H (mvL (2 * n + 1) (2 * i) L) r e u := fun {r e u} h1 h2 h3 h => by
    cases e with
    | un => trivial
    | val q => exact RepO.tr (Same.refl F) q [r] [r] u (fun a s l => ⟨mvL_off l h2 h1, rfl⟩) h
    | al j p =>
      intro q hq
      have hj := h3 j p rfl
      exact RepO.tr (Same.refl F) q (2 * j :: p) (2 * j :: p) u (fun a s l => ⟨mvL_off (s := p ++ s) l (by omega) (by omega), rfl⟩) (h q (setE_look hq hj))
  refine ⟨R.fle, fun a p e => ?_, fun a p e => ?_, by rw [setE_len, List.length_set]; exact R.len, fun k e he hu => ?_, by rw [List.length_set]; exact R.tlen, fun k e u he hu => ?_, mvL_inj R.inj, fun k u j q he hu hq => ?_⟩
  rotate_right
  · rcases getElem?_set_cases he with ⟨_, e, _⟩ | ⟨hne, he⟩
    · cases e
    · have hj := hal j [] (List.mem_of_getElem? he)
      rw [List.getElem?_set_ne (Ne.symm hj)]
      exact R.ali k u j q he hu (setE_look hq hj)
  · obtain ⟨q, hq⟩ := mvL_some e; exact R.lf a q hq
  · obtain ⟨q, hq⟩ := mvL_some e; exact R.lh a q hq
  · rcases setE_get he with ⟨rfl, rfl⟩ | ⟨hne, s0, h0, rfl⟩
    · refine ⟨v, List.getElem?_set_self hi, ?_⟩
      exact RepO.tr (Same.refl F) pv [2 * n + 1] [2 * k] v (fun a s l => ⟨mvL_src l, rfl⟩) ht
    · cases s0 with
      | un => exact absurd rfl hu
      | val q =>
        obtain ⟨u, h1, h2⟩ := R.slot k _ h0 (by simp)
        refine ⟨u, by rw [List.getElem?_set_ne (Ne.symm hne)]; exact h1, go (by omega) (by omega) (fun _ _ e => by cases e) h2⟩
      | al j p =>
        by_cases hj : j = i
        · exact absurd (show killR i (.al j p) = .un by simp [killR, hj]) hu
        · have e5 : killR i (.al j p) = .al j p := by simp [killR, hj]
          rw [e5]
          obtain ⟨u, h1, h2⟩ := R.slot k _ h0 (by simp)
          exact ⟨u, by rw [List.getElem?_set_ne (Ne.symm hne)]; exact h1, go (by omega) (by omega) (fun _ _ e => by cases e; exact hj) h2⟩
  · rcases getElem?_set_cases he with ⟨rfl, rfl, _⟩ | ⟨hne, he⟩
    · trivial
    · exact go (by omega) (by omega) (fun j p e => hal j p (by rw [← e]; exact List.mem_of_getElem? he)) (R.tmp k e u he hu)
/-- the slots' values behind stores one after another -/
def sts (σ : L2.St) : List Nat → List V → L2.St
  | i :: is, v :: vs => sts (σ.set i (some v)) is vs
  | _, _ => σ
theorem Rel.setAll : ∀ {is : List Nat} {ps : List PV} {pre : PEnv} {px xs : List V} {env env' : PEnv} {σ : L2.St} {L : Lab}, Rel P w K env (pre ++ ps.map .val) σ (px ++ xs) F H L → pre.length = px.length → (∀ j p, Sl.al j p ∉ pre) → (∀ i ∈ is, i < σ.length) → Pv.setAll env is ps = some env' →
    ∃ L' tm', Rel P w K env' (pre ++ tm') (sts σ is xs) (px ++ xs) F H L' ∧ tm'.length = xs.length
  | [], [], pre, px, xs, env, env', σ, L, R, hl, hal, hi, h => by
    cases h
    have : xs.length = 0 := by have := R.tlen; simp at this; omega
    obtain rfl := List.length_eq_zero_iff.mp this
    exact ⟨L, [], by simpa [sts] using R, rfl⟩
  | [], p :: ps, pre, px, xs, env, env', σ, L, R, hl, hal, hi, h => by simp [Pv.setAll] at h
  | i :: is, [], pre, px, xs, env, env', σ, L, R, hl, hal, hi, h => by simp [Pv.setAll] at h
  | i :: is, p :: ps, pre, px, [], env, env', σ, L, R, hl, hal, hi, h => by
    have := R.tlen
    simp at this
    omega
  | i :: is, p :: ps, pre, px, x :: xs, env, env', σ, L, R, hl, hal, hi, h => by
    rw [Pv.setAll] at h
    have R1 := R.storeAt (i := i) (n := pre.length) (pv := p) (v := x) (by simp) (by rw [hl]; simp) (hi i (by simp)) (fun j q hm => by
      rcases List.mem_append.mp hm with hm | hm
      · exact absurd hm (hal j q)
      · exact (no_al hm).elim)
    have hs : (pre ++ (p :: ps).map Sl.val).set pre.length .un = (pre ++ [.un]) ++ ps.map Sl.val := by simp
    rw [hs] at R1
    have R1' : Rel P w K (setE env i (.val p)) ((pre ++ [.un]) ++ ps.map Sl.val) (σ.set i (some x)) ((px ++ [x]) ++ xs) F H (mvL (2 * pre.length + 1) (2 * i) L) := by simpa using R1
    obtain ⟨L', tm', R2, h2⟩ := Rel.setAll R1' (by simp [hl]) (fun j q hm => by
      rcases List.mem_append.mp hm with hm | hm
      · exact hal j q hm
      · simp at hm) (fun k hk => by rw [List.length_set]; exact hi k (by simp [hk])) h
    exact ⟨L', .un :: tm', by simpa [sts] using R2, by simp [h2]⟩
end
section
variable {X : Cx} {W : WX} {fi : List Nat} {σ0 : L2.St} {a b c e : Expr} {es : List Expr} {ds : D PEnv} {da db dc : D Sl} {sa sb : D Fl} {ta : D Bool} {st : Stmt} {rest : List Stmt} {pos : Pos}
theorem tS.args {d : D PEnv} {f : PEnv → D Fl} {Dn : Ends} {σ : L2.St} {H : Hp} (h : tS X.prog X.w X.K W fi σ0 (dbind d f) Dn σ H) :
    tAr X.prog X.w X.K W d σ H fun vs H1 => ∃ (es : PEnv) (env : PEnv) (tm : List PV) (τ : List V) (F : Hp) (L : Lab), es.length = vs.length ∧ Rel X.prog X.w X.K env (tm.map .val ++ es) σ (τ ++ vs) F H1 L ∧ FxOk fi σ0 σ ∧ outQ X.prog X.w X.K W fi σ0 Dn tm τ F (f es env) := by
  obtain ⟨env, tm, τ, F, L, R, fx, h⟩ := h
  refine ⟨env, tm.map .val, τ, F, L, rfl, by simpa using R, ?_⟩
  unfold dbind at h
  cases e : d env with
  | no => rw [e] at h; exact h
  | ex c env' => rw [e] at h; exact fun F' H' L' k R' => h σ F' H' L' k R' fx
  | ok a env' =>
    rw [e] at h
    exact fun vs F' H' L' h1 k R' => ⟨a, env', tm, τ, F', L', h1, R', fx, outQ.mono h k⟩
theorem FxOk.sts {σ : L2.St} : ∀ {is : List Nat} {vs : List V} {σ : L2.St}, FxOk fi σ0 σ → (∀ i ∈ is, i ∉ fi) → FxOk fi σ0 (Pv.sts σ is vs)
  | [], vs, σ, h, _ => by unfold Pv.sts; exact h
  | i :: is, [], σ, h, _ => by unfold Pv.sts; exact h
  | i :: is, v :: vs, σ, h, hf => by
    rw [Pv.sts]
    exact FxOk.sts (σ := σ) (h.set (hf i (by simp))) fun k hk => hf k (by simp [hk])
theorem pars_imp {is : List Nat} {es : PEnv} {env : PEnv} {tm : List PV} {τ : List V} {σ : L2.St} {F H : Hp} {L : Lab} {vs : List V} {Dn : Ends} (hl : es.length = vs.length) (R : Rel X.prog X.w X.K env (tm.map .val ++ es) σ (τ ++ vs) F H L) (fx : FxOk fi σ0 σ) (hi : ∀ i ∈ is, i < σ.length) (hf : ∀ i ∈ is, i ∉ fi)
    (q : outQ X.prog X.w X.K W fi σ0 Dn tm τ F (dparsE is es env)) : Dn.nx (sts σ is vs) H := by
  unfold dparsE at q
  cases e1 : unalEs env es with
  | none => rw [e1] at q; exact q.elim
  | some r =>
    obtain ⟨ps, env1⟩ := r
    rw [e1] at q
    dsimp only at q
    have htl : (tm.map Sl.val).length = τ.length := (R.popN hl).tlen
    obtain ⟨F1, L1, k1, R1⟩ := R.unalAll htl e1
    cases e2 : setAll env1 is ps with
    | none => rw [e2] at q; exact q.elim
    | some env2 =>
      rw [e2] at q
      obtain ⟨L2, tm', R2, h2⟩ := R1.setAll htl (fun j p h => no_al h) hi e2
      exact q _ F1 H L2 k1 (R2.popN h2) (fx.sts (σ := σ) hf)
theorem sts_len : ∀ {is : List Nat} {vs : List V} {σ : L2.St}, (sts σ is vs).length = σ.length
  | [], vs, σ => by unfold sts; rfl
  | i :: is, [], σ => by unfold sts; rfl
  | i :: is, v :: vs, σ => by rw [sts, sts_len, List.length_set]
/-- x, y = a, b as the model swaps stores: both names the frame's own -/
theorem sv_par {i j : Nat} {x y : Str} {px py pt : Pos} {kt k2 pt2} (G : Good X) (hi : X.N[i]? = some x) (hj : X.N[j]? = some y) (hij : i ≠ j) (hfi : i ∉ fi) (hfj : j ∉ fi)
    (hx : X.env.scope.names.lookup x = some .local) (hy : X.env.scope.names.lookup y = some .local) (ha : AV X W [a, b] ds)
    (hw : swappedStores [.Tuple [.Name x px, .Name y py] kt pt] (.Tuple [a, b] k2 pt2) X.env = pure (some [x, y]))
    (hs : swapsWithSole [.Tuple [.Name x px, .Name y py] kt pt] (.Tuple [a, b] k2 pt2) pos.line X.env = pure false := by rfl) :
    SV X W fi σ0 (.Assign [.Tuple [.Name x px, .Name y py] kt pt] (.Tuple [a, b] k2 pt2) pos) (dpars [i, j] ds) := by
  refine ⟨fun pins s σ H Dn I h => (ps_par (pos := pos) G.calm G.nd hi hj hij hx hy ha hw hs).run pins s σ H Dn I ?_⟩
  have hli : i < σ.length := by rw [I.len]; exact (List.getElem?_eq_some_iff.mp hi).1
  have hlj : j < σ.length := by rw [I.len]; exact (List.getElem?_eq_some_iff.mp hj).1
  exact (tS.args h).mono fun vs H1 ⟨es, env, tm, τ, F, L, hl, R, fx, q⟩ => by
    have h2 : vs.length = 2 := by
      unfold dparsE at q
      cases e1 : unalEs env es with
      | none => rw [e1] at q; exact q.elim
      | some r =>
        obtain ⟨ps, env1⟩ := r
        rw [e1] at q
        dsimp only at q
        obtain ⟨F1, L1, k1, R1⟩ := R.unalAll (R.popN hl).tlen e1
        have hlp : ps.length = vs.length := by
          have := R1.tlen
          have h3 := (R.popN hl).tlen
          simp at this h3
          omega
        cases ps with
        | nil => exact q.elim
        | cons p ps =>
          cases ps with
          | nil => exact q.elim
          | cons p' ps =>
            cases ps with
            | nil => exact hlp.symm
            | cons p'' ps => exact q.elim
    match vs, h2 with
    | [v, u], _ => exact ⟨v, u, rfl, pars_imp hl R fx (by simp [hli, hlj]) (by simp [hfi, hfj]) q⟩
/-- names stored from a tuple's items -/
def gNames : List Nat → TGs
  | [] => fun vs σ H Q => vs = [] ∧ Q σ H
  | i :: is => fun vs σ H Q => ∃ v r, vs = v :: r ∧ gNames is r (σ.set i (some v)) H Q
theorem gNames_sts : ∀ {is : List Nat} {vs : List V} {σ : L2.St} {H : Hp} {Q : L2.St → Hp → Prop}, vs.length = is.length → Q (sts σ is vs) H → gNames is vs σ H Q
  | [], vs, σ, H, Q, hl, q => by
    obtain rfl := List.length_eq_zero_iff.mp hl
    exact ⟨rfl, q⟩
  | i :: is, [], σ, H, Q, hl, q => by simp at hl
  | i :: is, v :: vs, σ, H, Q, hl, q => ⟨v, vs, rfl, gNames_sts (by simpa using hl) q⟩
theorem pgs_names_nil : PGs X [] (gNames []) := pgs_nil
theorem pgs_names_cons {i : Nat} {is : List Nat} {x : Str} (G : Good X) (hi : X.N[i]? = some x) (hx : Loc X.env.scope x) (h : PGs X es (gNames is)) (hfn : X.fn x = true ∨ X.env.scope.names.lookup x = some .local := by first | exact .inl rfl | exact .inr rfl | assumption)
    (hd : (assignEach (.Name x pos :: es) X.env).map (·.2) = assign (.Name x pos) X.env :: (assignEach es X.env).map (·.2) := by rfl) :
    PGs X (.Name x pos :: es) (gNames (i :: is)) := PGsimp (pgs_cons (pg_name G.nd hi hx hfn) h hd) fun vs σ H Q q => q
/-- a, b, .. = x, y, .. through a tuple -/
theorem sv_parT {is : List Nat} {tgs ees : List Expr} {k k2 : Nat} {pt pt2 : Pos} (G : Good X) (hg : PGs X tgs (gNames is)) (ha : AV X W ees ds) (hlt : ∀ i ∈ is, i < X.N.length) (hf : ∀ i ∈ is, i ∉ fi) (h1000 : is.length ≤ 1000 := by decide) (hm : (assignEach tgs X.env).length = is.length := by rfl) (hst : (assignEach tgs X.env).findIdx? (·.1) = none := by rfl)
    (hs : swapsWithSole [.Tuple tgs k pt] (.Tuple ees k2 pt2) pos.line X.env = pure false := by rfl) (hw : swappedStores [.Tuple tgs k pt] (.Tuple ees k2 pt2) X.env = pure none := by rfl)
    (h1 : (assignEach [.Tuple tgs k pt] X.env).map (·.2) = [assign (.Tuple tgs k pt) X.env] := by rfl) : SV X W fi σ0 (.Assign [.Tuple tgs k pt] (.Tuple ees k2 pt2) pos) (dpars is ds) := by
  refine ⟨fun pins s σ H Dn I h => (ps_asg (pos := pos) (pe_tup ha) (pg_tup (n := is.length) G.calm hg hm hst) hs hw h1).run pins s σ H Dn I ?_⟩
  have hli : ∀ i ∈ is, i < σ.length := fun i hi => by rw [I.len]; exact hlt i hi
  refine (tS.args h).mono fun vs H1 ⟨es, env, tm, τ, F, L, hl, R, fx, q⟩ => ?_
  have h2 : vs.length = is.length := by
    unfold dparsE at q
    cases e1 : unalEs env es with
    | none => rw [e1] at q; exact q.elim
    | some r =>
      obtain ⟨ps, env1⟩ := r
      rw [e1] at q
      dsimp only at q
      obtain ⟨F1, L1, k1, R1⟩ := R.unalAll (R.popN hl).tlen e1
      have hlp : ps.length = vs.length := by
        have := R1.tlen
        have h3 := (R.popN hl).tlen
        simp at this h3
        omega
      have : ∀ (is : List Nat) (ps : List PV) (env env' : PEnv), setAll env is ps = some env' → ps.length = is.length := by
        intro is
        induction is with
        | nil => intro ps env env' h; cases ps with
          | nil => rfl
          | cons p ps => simp [setAll] at h
        | cons i is ih => intro ps env env' h; cases ps with
          | nil => simp [setAll] at h
          | cons p ps => rw [setAll] at h; rw [List.length_cons, List.length_cons, ih _ _ _ h]
      cases e2 : setAll env1 is ps with
      | none => rw [e2] at q; exact q.elim
      | some env2 => rw [← hlp, this is ps env1 env2 e2]
  have hsz : vs.length ≤ sizeLine := by rw [h2, ← sl24]; omega
  refine ⟨hsz, fun p hp => ?_⟩
  refine ⟨p, vs, rfl, SqT.of upd_same, h2, gNames_sts h2 ?_⟩
  have R' : Rel X.prog X.w X.K env (tm.map .val ++ es) σ (τ ++ vs) F (upd H1 p (.tup vs)) L := by
    have ln : ∀ q, L p ≠ some q := fun q e => by
      obtain ⟨o, ho⟩ := R.lh p q e
      rw [hp] at ho
      cases ho
    refine R.grow (Same.refl F) (fun b o e => ?_) R.lf (fun b q e => ?_) (fun b x s e _ => ⟨e, ?_⟩) R.inj
    · have := R.fle b o e
      rw [upd_ne (ne_of_none this hp)]
      exact this
    · have hb : b ≠ p := fun z => ln q (z ▸ e)
      rw [upd_ne hb]
      exact R.lh b q e
    · have hb : b ≠ p := fun z => ln _ (z ▸ e)
      rw [upd_ne hb]
  exact pars_imp hl R' fx hli hf q
end
end Pv
namespace Pv
open PySem PySem.Spec PyProof.Rows L2

/-! ### what is walked -/
section
variable (P : Program) (w : World) (K : PySem.W.Frag) (W : WX)
/-- an item has come (perhaps in a new pair) -/
def YOk (F H : Hp) (p : PV) (x : V) (H' : Hp) : Prop := ∃ F', Same F F' ∧ RepF P w K F' p x ∧ ∀ env tm σ τ L, Rel P w K env tm σ τ F H L → ∃ L', Rel P w K env tm σ τ F' H' L'
structure ItOk (F0 : Hp) (ps : List PV) (J : It) : Prop where
  go : ∀ (i : Nat) p F H, Same F0 F → Same F H → ps[i]? = some p → J.go i H ∧ ∀ x H', J.yld i H x H' → YOk P w K F H p x H'
  stop : ∀ (i : Nat) F H, Same F0 F → Same F H → ps.length ≤ i → J.stop i H
def tI (d : D (List PV)) : TI := fun σ H R => ∃ env tm τ F L, Rel P w K env tm σ τ F H L ∧ match d env with
    | .no => False
    | .ok ps env' => ∀ F' H' L' J, Same F F' → Rel P w K env' tm σ τ F' H' L' → ItOk P w K F' ps J → R J H'
    | .ex c env' => ∀ F' H' L', Same F F' → Rel P w K env' tm σ τ F' H' L' → W c none σ H'
end
abbrev IV (X : Cx) (W : WX) (tg e : Expr) (d : D (List PV)) : Prop := PI X tg e (tI X.prog X.w X.K W d)
theorem PIimp {X : Cx} {tg e : Expr} {t t' : TI} (h : PI X tg e t) (k : ∀ σ H Q, t' σ H Q → t σ H Q) : PI X tg e t' := ⟨fun pins s σ H R I q => h.run pins s σ H R I (k σ H R q)⟩

/-- items of a list or a tuple, kept -/
def itemsE (e : Sl) : D (List PV) := fun env => match frzE env e with
  | some (.lst _ xs, env1) => .ok xs env1
  | some (.tup xs, env1) => .ok xs env1
  | some (.frl xs, env1) => .ok xs env1
  | _ => .no
def ditems (d : D Sl) : D (List PV) := dbind d itemsE
def rangeP (lo : Int) (n : Nat) (c : Int) : List PV := (List.range n).map fun (k : Nat) => .int (lo + (k : Int) * c)
def okB (i : Int) : Prop := -(2 ^ 62) ≤ i ∧ i < 2 ^ 62
instance (i : Int) : Decidable (okB i) := by unfold okB; infer_instance
def drange1 (d : D PEnv) : D (List PV) := dbind d fun es => fun env => match es with
  | [a] => match intOf (cont env a) with
    | some i => if okB i then .ok (rangeP 0 i.toNat 1) env else .no
    | none => .no
  | _ => .no
def drange2 (d : D PEnv) : D (List PV) := dbind d fun es => fun env => match es with
  | [a, b] => match intOf (cont env a), intOf (cont env b) with
    | some i, some j => if okB i ∧ okB j then .ok (rangeP i (j - i).toNat 1) env else .no
    | _, _ => .no
  | _ => .no
def rangeN (i j c : Int) : Nat := if 0 < c then ((j - i + (c - 1)) / c).toNat else ((i - j + (-c - 1)) / (-c)).toNat
def drange3 (d : D PEnv) : D (List PV) := dbind d fun es => fun env => match es with
  | [a, b, c] => match intOf (cont env a), intOf (cont env b), intOf (cont env c) with
    | some i, some j, some k => if okB i ∧ okB j ∧ k = -1 then .ok (rangeP i (i - j).toNat (-1)) env else .no
    | _, _, _ => .no
  | _ => .no
def denum (d : D PEnv) : D (List PV) := dbind d fun es => fun env => match frzEs env es with
  | some ([.lst _ xs], env1) => .ok (xs.zipIdx.map fun p => .tup [.int (p.2 : Nat), p.1]) env1
  | _ => .no
def dzip (d : D PEnv) : D (List PV) := dbind d fun es => fun env => match frzEs env es with
  | some ([.lst _ xs, .lst _ ys], env1) => .ok ((xs.zip ys).map fun p => .tup [p.1, p.2]) env1
  | some ([.tup xs, .tup ys], env1) => .ok ((xs.zip ys).map fun p => .tup [p.1, p.2]) env1
  | _ => .no

section
variable {P : Program} {w : World} {K : PySem.W.Frag} {F F' H H' : Hp}
theorem YOk.same {p : PV} {x : V} (h : RepF P w K F p x) : YOk P w K F H p x H := ⟨F, Same.refl F, h, fun _ _ _ _ L R => ⟨L, R⟩⟩
theorem YOk.pair {p q : PV} {x y : V} {T : Addr} (k : Same F H) (h : RepF P w K F p x) (h' : RepF P w K F q y) (hn : H T = none) : YOk P w K F H (.tup [p, q]) (.ref T) (upd H T (.tup [x, y])) := by
  have hF : F T = none := by
    cases e : F T with
    | none => rfl
    | some o => have := k T o e; rw [hn] at this; cases this
  have kk : Same F (upd F T (.tup [x, y])) := fun b o e => by
    rw [upd_ne (ne_of_none e hF)]
    exact e
  have rp : RepF P w K (upd F T (.tup [x, y])) (.tup [p, q]) (.ref T) := by
    rw [RepF]
    refine ⟨T, [x, y], rfl, SqT.of upd_same, ?_⟩
    rw [RepFs]
    refine ⟨x, [y], rfl, RepF.mono kk _ _ h, ?_⟩
    rw [RepFs]
    exact ⟨y, [], rfl, RepF.mono kk _ _ h', by rw [RepFs]⟩
  exact ⟨_, kk, rp, fun env tm σ τ L R => ⟨L, (R.allocF hn rp).1.pop⟩⟩
theorem ItOk.list {xs : List PV} {vs : List V} {a : Addr} (s1 : SqL K F a vs) (r : RepFs P w K F xs vs) : ItOk P w K F xs (Itl K a) := by
  refine ⟨fun i p F1 H k k2 e => ?_, fun i F1 H k k2 e => ⟨vs, SqL.mono (k.trans k2) s1, by rw [← r.length]; exact e⟩⟩
  obtain ⟨v, hv, hr⟩ := r.get e
  refine ⟨⟨vs, v, SqL.mono (k.trans k2) s1, hv⟩, fun x H' ⟨e1, e2⟩ => ?_⟩
  subst e1
  have := e2 vs (SqL.mono (k.trans k2) s1)
  rw [hv] at this
  cases this
  exact YOk.same (RepF.mono k _ _ hr)
theorem ItOk.tup {xs : List PV} {vs : List V} {a : Addr} (s1 : SqT K F a vs) (r : RepFs P w K F xs vs) : ItOk P w K F xs (Itt K a) := by
  refine ⟨fun i p F1 H k k2 e => ?_, fun i F1 H k k2 e => ⟨vs, SqT.mono (k.trans k2) s1, by rw [← r.length]; exact e⟩⟩
  obtain ⟨v, hv, hr⟩ := r.get e
  refine ⟨⟨vs, v, SqT.mono (k.trans k2) s1, hv⟩, fun x H' ⟨e1, e2⟩ => ?_⟩
  subst e1
  have := e2 vs (SqT.mono (k.trans k2) s1)
  rw [hv] at this
  cases this
  exact YOk.same (RepF.mono k _ _ hr)
theorem rangeP_get {lo c : Int} {n i : Nat} {p : PV} (h : (rangeP lo n c)[i]? = some p) : i < n ∧ p = .int (lo + (i : Nat) * c) := by
  unfold rangeP at h
  rw [List.getElem?_map] at h
  cases e : (List.range n)[i]? with
  | none => rw [e] at h; cases h
  | some k =>
    rw [e] at h
    obtain ⟨h1, h2⟩ := List.getElem?_eq_some_iff.mp e
    simp at h1 h2
    subst h2
    exact ⟨h1, (Option.some.inj h).symm⟩
theorem rangeP_len {lo c : Int} {n : Nat} : (rangeP lo n c).length = n := by simp [rangeP]
theorem ItOk.rng {lo : Int} {n : Nat} : ItOk P w K F (rangeP lo n 1) (Itr lo n) := by
  refine ⟨fun i p F1 H k k2 e => ?_, fun i F1 H k k2 e => by rw [rangeP_len] at e; exact e⟩
  obtain ⟨h1, h2⟩ := rangeP_get e
  refine ⟨h1, fun x H' ⟨e1, e2⟩ => ?_⟩
  subst e1 e2 h2
  rw [Int.mul_one]
  exact YOk.same (by rw [RepF])
theorem ItOk.rngC {lo c : Int} {n : Nat} : ItOk P w K F (rangeP lo n c) (Itc lo c n) := by
  refine ⟨fun i p F1 H k k2 e => ?_, fun i F1 H k k2 e => by rw [rangeP_len] at e; exact e⟩
  obtain ⟨h1, h2⟩ := rangeP_get e
  refine ⟨h1, fun x H' ⟨e1, e2⟩ => ?_⟩
  subst e1 e2 h2
  exact YOk.same (by rw [RepF])
theorem ItOk.enum {xs : List PV} {vs : List V} {a : Addr} (s1 : SqL K F a vs) (r : RepFs P w K F xs vs) : ItOk P w K F (xs.zipIdx.map fun p => .tup [.int (p.2 : Nat), p.1]) (Ite K a) := by
  refine ⟨fun i p F1 H k k2 e => ?_, fun i F1 H k k2 e => ⟨vs, SqL.mono (k.trans k2) s1, by rw [← r.length]; simpa using e⟩⟩
  rw [List.getElem?_map, List.getElem?_zipIdx] at e
  cases e1 : xs[i]? with
  | none => rw [e1] at e; cases e
  | some y =>
    rw [e1] at e
    simp at e
    obtain ⟨v, hv, hr⟩ := r.get e1
    refine ⟨⟨vs, v, SqL.mono (k.trans k2) s1, hv⟩, fun x H' ⟨T, x0, e2, hn, e3, e4⟩ => ?_⟩
    subst e2 e3
    have := e4 vs (SqL.mono (k.trans k2) s1)
    rw [hv] at this
    cases this
    rw [← e]
    exact YOk.pair k2 (by rw [RepF]) (RepF.mono k _ _ hr) hn
theorem zip_get {xs ys : List PV} {i : Nat} {p : PV} (e : ((xs.zip ys).map fun p => PV.tup [p.1, p.2])[i]? = some p) : ∃ x y, xs[i]? = some x ∧ ys[i]? = some y ∧ p = .tup [x, y] := by
  rw [List.getElem?_map] at e
  cases e1 : (xs.zip ys)[i]? with
  | none => rw [e1] at e; cases e
  | some q =>
    rw [e1] at e
    obtain ⟨h1, h2⟩ := List.getElem?_zip_eq_some.mp e1
    exact ⟨q.1, q.2, h1, h2, (Option.some.inj e).symm⟩
theorem ItOk.zipL {xs ys : List PV} {vs us : List V} {a b : Addr} (s1 : SqL K F a vs) (r : RepFs P w K F xs vs) (s2 : SqL K F b us) (r2 : RepFs P w K F ys us) : ItOk P w K F ((xs.zip ys).map fun p => .tup [p.1, p.2]) (Itz K a b) := by
  refine ⟨fun i p F1 H k k2 e => ?_, fun i F1 H k k2 e => ⟨vs, us, SqL.mono (k.trans k2) s1, SqL.mono (k.trans k2) s2, by rw [← r.length, ← r2.length]; simp at e; omega⟩⟩
  obtain ⟨x1, y1, e1, e2, rfl⟩ := zip_get e
  obtain ⟨v, hv, hr⟩ := r.get e1
  obtain ⟨u, hu, hr2⟩ := r2.get e2
  refine ⟨⟨vs, us, v, u, SqL.mono (k.trans k2) s1, SqL.mono (k.trans k2) s2, hv, hu⟩, fun x H' ⟨T, x0, y0, e2, hn, e3, e4, e5⟩ => ?_⟩
  subst e2 e3
  have h4 := e4 vs (SqL.mono (k.trans k2) s1)
  have h5 := e5 us (SqL.mono (k.trans k2) s2)
  rw [hv] at h4
  rw [hu] at h5
  cases h4
  cases h5
  exact YOk.pair k2 (RepF.mono k _ _ hr) (RepF.mono k _ _ hr2) hn
theorem ItOk.zipT {xs ys : List PV} {vs us : List V} {a b : Addr} (s1 : SqT K F a vs) (r : RepFs P w K F xs vs) (s2 : SqT K F b us) (r2 : RepFs P w K F ys us) : ItOk P w K F ((xs.zip ys).map fun p => .tup [p.1, p.2]) (RZ.ItzT K a b) := by
  refine ⟨fun i p F1 H k k2 e => ?_, fun i F1 H k k2 e => ⟨vs, us, SqT.mono (k.trans k2) s1, SqT.mono (k.trans k2) s2, by rw [← r.length, ← r2.length]; simp at e; omega⟩⟩
  obtain ⟨x1, y1, e1, e2, rfl⟩ := zip_get e
  obtain ⟨v, hv, hr⟩ := r.get e1
  obtain ⟨u, hu, hr2⟩ := r2.get e2
  refine ⟨⟨vs, us, v, u, SqT.mono (k.trans k2) s1, SqT.mono (k.trans k2) s2, hv, hu⟩, fun x H' ⟨T, x0, y0, e2, hn, e3, e4, e5⟩ => ?_⟩
  subst e2 e3
  have h4 := e4 vs (SqT.mono (k.trans k2) s1)
  have h5 := e5 us (SqT.mono (k.trans k2) s2)
  rw [hv] at h4
  rw [hu] at h5
  cases h4
  cases h5
  exact YOk.pair k2 (RepF.mono k _ _ hr) (RepF.mono k _ _ hr2) hn
end
section
variable {X : Cx} {W : WX} {tg a b c e : Expr} {es : List Expr} {da : D Sl} {ds : D PEnv} {pos : Pos}
theorem frzE_fz {env env1 : PEnv} {e : Sl} {p : PV} (h : frzE env e = some (p, env1)) : p.fz = true := by
  cases e with
  | un => cases h
  | val pv => cases h; exact PV.fz_frz _
  | al j q =>
    have h' : (match look env j q, env[j]? with
      | some x, some (.val pv) => some (x.frz, env.set j (.val pv.frz))
      | _, _ => none) = some (p, env1) := h
    cases e3 : look env j q with
    | none => rw [e3] at h'; cases h'
    | some y =>
      obtain ⟨pv, e4, _, _⟩ := look_some e3
      rw [e3, e4] at h'
      cases h'
      exact PV.fz_frz _
/-- lists and tuples -/
def iLT (K : PySem.W.Frag) (tl : TE) : TI := fun σ H R => tl σ H fun x H1 => ∃ a, x = .ref a ∧ ((∃ xs, SqL K H1 a xs ∧ R (Itl K a) H1) ∨ (∃ xs, SqT K H1 a xs ∧ R (Itt K a) H1))
theorem pi_lt {tl : TE} (hl : PE X a tl) : PI X tg a (iLT X.K tl) := by
  refine ⟨fun pins s σ H R I h => thn (hl.run pins s σ H _ I h) fun v s1 ⟨x, H1, I1, r1, ad, e, q⟩ => ?_⟩
  subst e
  cases r1
  have fr : ∀ b ∈ [s1.heap.objs.size], FpOk X pins H1 b := fun b hb => by
    obtain rfl : b = s1.heap.objs.size := by simpa using hb
    exact I1.fpOk (Nat.le_refl _) (I1.hok.fresh (Nat.le_refl _))
  rcases q with ⟨xs, hq, q⟩ | ⟨xs, hq, q⟩
  · obtain ⟨its, rv, p, hz⟩ := I1.list hq
    exact wpAny_pyIter_list p.isList ⟨s1.heap.objs.size, [s1.heap.objs.size], _, _, H1, rfl, I1.kept (t' := s1.toks) fun _ _ e => Heap.get?_push_of_some _ e, turn_list ad _, ⟨_, Heap.get?_push_size _ rfl, rfl, rfl⟩, fr, q⟩
  · obtain ⟨its, rv, p, hz⟩ := I1.tuple hq
    exact wpAny_pyIter_tuple (show s1.heap.IsTuple ad its.toArray from p) ⟨s1.heap.objs.size, [s1.heap.objs.size], _, _, H1, rfl, I1.kept (t' := s1.toks) fun _ _ e => Heap.get?_push_of_some _ e, turn_tuple ad _, ⟨_, Heap.get?_push_size _ rfl, rfl, rfl⟩, fr, q⟩
theorem tI.expr {d : D Sl} {f : Sl → D (List PV)} {σ : L2.St} {H : Hp} {R : It → Hp → Prop} (h : tI X.prog X.w X.K W (dbind d f) σ H R) :
    tE X.prog X.w X.K W d σ H fun v H1 => ∃ (e : Sl) (env tm : PEnv) (τ : List V) (F : Hp) (L : Lab), Rel X.prog X.w X.K env (tm ++ [e]) σ (τ ++ [v]) F H1 L ∧ (∀ ps env', f e env = .ok ps env' → ∀ F' H' L' J, Same F F' → Rel X.prog X.w X.K env' tm σ τ F' H' L' → ItOk X.prog X.w X.K F' ps J → R J H') ∧ f e env ≠ .no ∧ ∀ c env', f e env = .ex c env' → ∀ F' H' L', Same F F' → Rel X.prog X.w X.K env' tm σ τ F' H' L' → W c none σ H' := by
  obtain ⟨env, tm, τ, F, L, R, h⟩ := h
  refine ⟨env, tm, τ, F, L, rfl, by simpa using R, ?_⟩
  unfold dbind at h
  cases e : d env with
  | no => rw [e] at h; exact h
  | ex c env' => rw [e] at h; exact h
  | ok a env' =>
    rw [e] at h
    intro vs F' H' L' h1 k R' v hv
    subst hv
    dsimp only at h
    refine ⟨a, env', tm, τ, F', L', R', fun ps env2 e2 => ?_, fun e2 => ?_, fun c env2 e2 => ?_⟩
    · rw [e2] at h; exact fun F2 H2 L2 J k2 => h F2 H2 L2 J (k.trans k2)
    · rw [e2] at h; exact h
    · rw [e2] at h; exact fun F2 H2 L2 k2 => h F2 H2 L2 (k.trans k2)
theorem iv_items (ha : EV X W a da) : IV X W tg a (ditems da) := PIimp (pi_lt ha) fun σ H R h => (tI.expr h).mono fun v H1 ⟨e, env, tm, τ, F, L, R', ok, nn, _⟩ => by
  unfold itemsE at ok nn
  cases e1 : frzE env e with
  | none => rw [e1] at nn; exact absurd rfl nn
  | some r =>
    obtain ⟨p, env1⟩ := r
    rw [e1] at ok nn
    obtain ⟨F1, L1, k1, R1⟩ := R'.frzAt (i := tm.length) (v := v) (by simp) (by have := R'.pop.tlen; rw [this]; simp) e1
    have hs : (tm ++ [e]).set tm.length (.val p) = tm ++ [.val p] := by simp
    rw [hs] at R1
    have rp := RepO.toF (frzE_fz e1) R1.top
    cases p with
    | lst o xs =>
      have hz := frzE_fz e1
      cases o with
      | true => simp [PV.fz] at hz
      | false =>
      rw [RepF] at rp
      obtain ⟨_, ad, vs, rfl, s1, r⟩ := rp
      refine ⟨ad, rfl, .inl ⟨vs, SqL.mono R1.fle (SqL.of s1), ok _ _ rfl F1 H1 L1 _ k1 R1.pop (ItOk.list (SqL.of s1) r)⟩⟩
    | tup xs =>
      rw [RepF] at rp
      obtain ⟨ad, vs, rfl, s1, r⟩ := rp
      exact ⟨ad, rfl, .inr ⟨vs, SqT.mono R1.fle s1, ok _ _ rfl F1 H1 L1 _ k1 R1.pop (ItOk.tup s1 r)⟩⟩
    | frl xs =>
      rw [RepF] at rp
      obtain ⟨ad, vs, rfl, s1, r⟩ := rp
      exact ⟨ad, rfl, .inl ⟨vs, SqL.mono R1.fle s1, ok _ _ rfl F1 H1 L1 _ k1 R1.pop (ItOk.list s1 r)⟩⟩
    | _ => exact absurd rfl nn
theorem tI.args {d : D PEnv} {f : PEnv → D (List PV)} {σ : L2.St} {H : Hp} {R : It → Hp → Prop} (h : tI X.prog X.w X.K W (dbind d f) σ H R) :
    tAr X.prog X.w X.K W d σ H fun vs H1 => ∃ (es env tm : PEnv) (τ : List V) (F : Hp) (L : Lab), es.length = vs.length ∧ Rel X.prog X.w X.K env (tm ++ es) σ (τ ++ vs) F H1 L ∧ (∀ ps env', f es env = .ok ps env' → ∀ F' H' L' J, Same F F' → Rel X.prog X.w X.K env' tm σ τ F' H' L' → ItOk X.prog X.w X.K F' ps J → R J H') ∧ f es env ≠ .no := by
  obtain ⟨env, tm, τ, F, L, R, h⟩ := h
  refine ⟨env, tm, τ, F, L, rfl, by simpa using R, ?_⟩
  unfold dbind at h
  cases e : d env with
  | no => rw [e] at h; exact h
  | ex c env' => rw [e] at h; exact h
  | ok a env' =>
    rw [e] at h
    intro vs F' H' L' h1 k R'
    dsimp only at h
    refine ⟨a, env', tm, τ, F', L', h1, R', fun ps env2 e2 => ?_, fun e2 => ?_⟩
    · rw [e2] at h; exact fun F2 H2 L2 J k2 => h F2 H2 L2 J (k.trans k2)
    · rw [e2] at h; exact h
theorem int_of {P : Program} {w : World} {K : PySem.W.Frag} {F H : Hp} {L : Lab} {env : PEnv} {r i : Nat} {a : Sl} {v : V} {j : Int} (h : Ent P w K env F H L r a v) (e : intOf (cont env a) = some j) : v = .int j := by
  cases e1 : cont env a with
  | none => rw [e1] at e; cases e
  | some p =>
    rw [e1] at e
    obtain ⟨q, rp⟩ := h.rep e1
    cases p with
    | int k =>
      have : k = j := by simpa [intOf] using e
      subst this
      rw [RepO] at rp
      exact rp
    | _ => simp [intOf] at e
theorem iv_range1 {p : Pos} (hg : Gl X "range") (hm : X.mg "range" = none) (ha : AV X W [a] ds) (hs : starEach [a] X.env = [(false, eval a X.env)] := by rfl) : IV X W tg (.Call (.Name "range" p) [a] [] pos) (drange1 ds) :=
  PIimp (pi_range1 hg hm ha hs) fun σ H R h => (tI.args h).mono fun vs H1 ⟨es, env, tm, τ, F, L, hl, R', ok, nn⟩ => by
    match es, vs, hl with
    | [], _, _ => exact absurd rfl nn
    | _ :: _ :: _, _, _ => exact absurd rfl nn
    | [x], [v], _ =>
      dsimp only at ok nn
      cases e1 : intOf (cont env x) with
      | none => rw [e1] at nn; exact absurd rfl nn
      | some i =>
        rw [e1] at ok nn
        dsimp only at ok nn
        by_cases hb : okB i
        · rw [if_pos hb] at ok
          have := int_of (i := 0) R'.top e1
          subst this
          exact ⟨i, rfl, hb.1, hb.2, ok _ _ rfl F H1 L _ (Same.refl F) R'.pop ItOk.rng⟩
        · rw [if_neg hb] at nn; exact absurd rfl nn
theorem tm_get {P : Program} {w : World} {K : PySem.W.Frag} {F H : Hp} {L : Lab} {env tm es : PEnv} {σ : L2.St} {τ vs : List V} {n : Nat} {e : Sl} {v : V} (R : Rel P w K env (tm ++ es) σ (τ ++ vs) F H L) (hl : es.length = vs.length) (he : es[n]? = some e) (hv : vs[n]? = some v) :
    Ent P w K env F H L (2 * (tm.length + n) + 1) e v := by
  have h1 := (R.popN hl).tlen
  refine R.tmp (tm.length + n) e v ?_ ?_
  · rw [List.getElem?_append_right (by omega)]
    simpa using he
  · rw [List.getElem?_append_right (by omega)]
    simpa [h1] using hv
theorem iv_range2 {p : Pos} (hg : Gl X "range") (hm : X.mg "range" = none) (ha : AV X W [a, b] ds) (hs : starEach [a, b] X.env = [(false, eval a X.env), (false, eval b X.env)] := by rfl) (hs2 : starEach [b] X.env = [(false, eval b X.env)] := by rfl) : IV X W tg (.Call (.Name "range" p) [a, b] [] pos) (drange2 ds) :=
  PIimp (pi_range2 hg hm ha hs hs2) fun σ H R h => (tI.args h).mono fun vs H1 ⟨es, env, tm, τ, F, L, hl, R', ok, nn⟩ => by
    match es, vs, hl with
    | [], _, _ => exact absurd rfl nn
    | [_], _, _ => exact absurd rfl nn
    | _ :: _ :: _ :: _, _, _ => exact absurd rfl nn
    | [x, y], [v, u], hl =>
      dsimp only at ok nn
      cases e1 : intOf (cont env x) with
      | none => rw [e1] at nn; exact absurd rfl nn
      | some i =>
        cases e2 : intOf (cont env y) with
        | none => rw [e1, e2] at nn; exact absurd rfl nn
        | some j =>
          rw [e1, e2] at ok nn
          dsimp only at ok nn
          by_cases hb : okB i ∧ okB j
          · rw [if_pos hb] at ok
            have t1 := int_of (i := 0) (tm_get (n := 0) R' hl rfl rfl) e1
            have t2 := int_of (i := 0) (tm_get (n := 1) R' hl rfl rfl) e2
            subst t1 t2
            exact ⟨i, j, rfl, ⟨hb.1.1, hb.1.2, hb.2.1, hb.2.2⟩, ok _ _ rfl F H1 L _ (Same.refl F) (R'.popN hl) ItOk.rng⟩
          · rw [if_neg hb] at nn; exact absurd rfl nn
theorem iv_range3 {p : Pos} (hg : Gl X "range") (hm : X.mg "range" = none) (ha : AV X W [a, b, c] ds)
    (hs : starEach [a, b, c] X.env = (false, eval a X.env) :: starEach [b, c] X.env := by rfl) (hpl : (backTo pos (starEach [b, c] X.env)).any (·.1) = false := by rfl) : IV X W tg (.Call (.Name "range" p) [a, b, c] [] pos) (drange3 ds) :=
  PIimp (pi_range3 hg hm ha hs hpl) fun σ H R h => (tI.args h).mono fun vs H1 ⟨es, env, tm, τ, F, L, hl, R', ok, nn⟩ => by
    match es, vs, hl with
    | [], _, _ => exact absurd rfl nn
    | [_], _, _ => exact absurd rfl nn
    | [_, _], _, _ => exact absurd rfl nn
    | _ :: _ :: _ :: _ :: _, _, _ => exact absurd rfl nn
    | [x, y, z], [v, u, t], hl =>
      dsimp only at ok nn
      cases e1 : intOf (cont env x) with
      | none => rw [e1] at nn; exact absurd rfl nn
      | some i =>
        cases e2 : intOf (cont env y) with
        | none => rw [e1, e2] at nn; exact absurd rfl nn
        | some j =>
          cases e3 : intOf (cont env z) with
          | none => rw [e1, e2, e3] at nn; exact absurd rfl nn
          | some k =>
            rw [e1, e2, e3] at ok nn
            dsimp only at ok nn
            by_cases hb : okB i ∧ okB j ∧ k = -1
            · rw [if_pos hb] at ok
              have t1 := int_of (i := 0) (tm_get (n := 0) R' hl rfl rfl) e1
              have t2 := int_of (i := 0) (tm_get (n := 1) R' hl rfl rfl) e2
              have t3 := int_of (i := 0) (tm_get (n := 2) R' hl rfl rfl) e3
              subst t1 t2 t3
              obtain ⟨⟨b1, b2⟩, ⟨b3, b4⟩, rfl⟩ := hb
              exact ⟨i, j, -1, (i - j).toNat, rfl, RgC.neg b1 b2 b3 b4, ok _ _ rfl F H1 L _ (Same.refl F) (R'.popN hl) ItOk.rngC⟩
            · rw [if_neg hb] at nn; exact absurd rfl nn
theorem frzEs_fz {env env1 : PEnv} : ∀ {es : PEnv} {env : PEnv} {ps : List PV}, frzEs env es = some (ps, env1) → PV.fzs ps = true ∧ ps.length = es.length := by
  intro es
  induction es with
  | nil => intro env ps h; cases h; exact ⟨rfl, rfl⟩
  | cons e es ih =>
    intro env ps h
    rw [frzEs] at h
    cases e1 : frzE env e with
    | none => rw [e1] at h; cases h
    | some r =>
      obtain ⟨p, env2⟩ := r
      rw [e1] at h
      dsimp only at h
      cases e2 : frzEs env2 es with
      | none => rw [e2] at h; cases h
      | some r2 =>
        obtain ⟨ps', env3⟩ := r2
        rw [e2] at h
        cases h
        obtain ⟨h1, h2⟩ := ih e2
        exact ⟨by rw [PV.fzs, frzE_fz e1, h1]; rfl, by simp [h2]⟩
theorem enum_cases {ps : List PV} {env1 : PEnv} (nn : (match some (ps, env1) with
  | some ([.lst _ xs], env1) => Out.ok (xs.zipIdx.map fun p => PV.tup [.int (p.2 : Nat), p.1]) env1
  | _ => Out.no) ≠ Out.no) : ∃ o xs, ps = [.lst o xs] := by
  split at nn
  · rename_i h; cases h; exact ⟨_, _, rfl⟩
  · exact absurd rfl nn
theorem iv_enum {elts : List Expr} {kk : Nat} {tpos p : Pos} (hg : Gl X "enumerate") (hm : X.mg "enumerate" = none) (ha : AV X W [e] ds) (hs : starEach [e] X.env = [(false, eval e X.env)] := by rfl) :
    IV X W (.Tuple elts kk tpos) (.Call (.Name "enumerate" p) [e] [] pos) (denum ds) :=
  PIimp (pi_enum hg hm ha hs) fun σ H R h => (tI.args h).mono fun vs H1 ⟨es, env, tm, τ, F, L, hl, R', ok, nn⟩ => by
    cases e1 : frzEs env es with
    | none => rw [e1] at nn; exact absurd rfl nn
    | some r =>
      obtain ⟨ps, env1⟩ := r
      rw [e1] at ok nn
      have hz := frzEs_fz (env := env) e1
      obtain ⟨F1, L1, k1, R1, RF⟩ := R'.frzAll (R'.popN hl).tlen e1
      obtain ⟨o, xs, rfl⟩ := enum_cases nn
      rw [RepFs] at RF
      obtain ⟨v, r, rfl, rp, r2⟩ := RF
      rw [RepFs] at r2
      subst r2
      rw [RepF] at rp
      obtain ⟨_, ad, vs, rfl, s1, r⟩ := rp
      exact ⟨ad, vs, rfl, SqL.mono R1.fle (SqL.of s1), ok _ _ rfl F1 H1 L1 _ k1 (R1.popN (by simp)) (ItOk.enum (SqL.of s1) r)⟩
theorem zip_cases {ps : List PV} {env1 : PEnv} (nn : (match some (ps, env1) with
  | some ([.lst _ xs, .lst _ ys], env1) => Out.ok ((xs.zip ys).map fun p => PV.tup [p.1, p.2]) env1
  | some ([.tup xs, .tup ys], env1) => Out.ok ((xs.zip ys).map fun p => PV.tup [p.1, p.2]) env1
  | _ => Out.no) ≠ Out.no) : (∃ o o' xs ys, ps = [.lst o xs, .lst o' ys]) ∨ ∃ xs ys, ps = [.tup xs, .tup ys] := by
  split at nn
  · rename_i h; cases h; exact .inl ⟨_, _, _, _, rfl⟩
  · rename_i h; cases h; exact .inr ⟨_, _, rfl⟩
  · exact absurd rfl nn
theorem iv_zip {elts : List Expr} {kk : Nat} {tpos p : Pos} {e2 : Expr} (hg : Gl X "zip") (hm : X.mg "zip" = none) (ha : AV X W [e, e2] ds)
    (hs : starEach [e, e2] X.env = (false, eval e X.env) :: starEach [e2] X.env := by rfl) (hpl : (backTo pos (starEach [e2] X.env)).any (·.1) = false := by rfl) :
    IV X W (.Tuple elts kk tpos) (.Call (.Name "zip" p) [e, e2] [] pos) (dzip ds) :=
  PIimp (RZ.pi_zipA hg hm ha hs hpl) fun σ H R h => (tI.args h).mono fun vs H1 ⟨es, env, tm, τ, F, L, hl, R', ok, nn⟩ => by
    cases e1 : frzEs env es with
    | none => rw [e1] at nn; exact absurd rfl nn
    | some r =>
      obtain ⟨ps, env1⟩ := r
      rw [e1] at ok nn
      have hz := frzEs_fz (env := env) e1
      obtain ⟨F1, L1, k1, R1, RF⟩ := R'.frzAll (R'.popN hl).tlen e1
      have go : ∀ {p q : PV}, ps = [p, q] → ∃ v u, vs = [v, u] ∧ RepF X.prog X.w X.K F1 p v ∧ RepF X.prog X.w X.K F1 q u := fun {p q} e => by
        rw [e, RepFs] at RF
        obtain ⟨v, r, rfl, rp, r2⟩ := RF
        rw [RepFs] at r2
        obtain ⟨u, r, rfl, rq, r3⟩ := r2
        rw [RepFs] at r3
        exact ⟨v, u, by rw [r3], rp, rq⟩
      rcases zip_cases nn with ⟨o, o', xs, ys, rfl⟩ | ⟨xs, ys, rfl⟩
      · obtain ⟨v, u, rfl, r1, r2⟩ := go rfl
        rw [RepF] at r1 r2
        obtain ⟨_, ad, vs, rfl, s1, r1⟩ := r1
        obtain ⟨_, bd, us, rfl, s2, r2⟩ := r2
        exact ⟨ad, bd, vs, us, rfl, .inl ⟨SqL.mono R1.fle (SqL.of s1), SqL.mono R1.fle (SqL.of s2), ok _ _ rfl F1 H1 L1 _ k1 (R1.popN (by simp)) (ItOk.zipL (SqL.of s1) r1 (SqL.of s2) r2)⟩⟩
      · obtain ⟨v, u, rfl, r1, r2⟩ := go rfl
        rw [RepF] at r1 r2
        obtain ⟨ad, vs, rfl, s1, r1⟩ := r1
        obtain ⟨bd, us, rfl, s2, r2⟩ := r2
        exact ⟨ad, bd, vs, us, rfl, .inr ⟨SqT.mono R1.fle s1, SqT.mono R1.fle s2, ok _ _ rfl F1 H1 L1 _ k1 (R1.popN (by simp)) (ItOk.zipT s1 r1 s2 r2)⟩⟩
end

/-! ### for, while -/
/-- how a loop goes on behind its body -/
def turnK (k : PEnv → Out Fl) : Out Fl → Out Fl
  | .ok .nx e => k e
  | .ok .ct e => k e
  | .ok .bk e => .ok .nx e
  | .ok (.rt r) e => .ok (.rt r) e
  | .ex c e => .ex c e
  | .no => .no
def forP (t : PV → PEnv → Option PEnv) (body : D Fl) : List PV → D Fl
  | [], env => .ok .nx env
  | p :: ps, env => match t p env with
    | none => .no
    | some env1 => turnK (forP t body ps) (body env1)
def dfor (t : Tg) (di : D (List PV)) (body : D Fl) : D Fl := dbind di fun ps => forP (setT t) body ps
def whN (c : D Bool) (body : D Fl) : Nat → D Fl
  | 0, _ => .no
  | n + 1, env => match c env with
    | .ok true env1 => turnK (whN c body n) (body env1)
    | .ok false env1 => .ok .nx env1
    | .ex c e => .ex c e
    | .no => .no
theorem whN_mono {c : D Bool} {body : D Fl} : ∀ {n m : Nat} {env : PEnv}, n ≤ m → whN c body n env ≠ .no → whN c body m env = whN c body n env
  | 0, _, _, _, h => absurd rfl h
  | n + 1, 0, _, h, _ => by omega
  | n + 1, m + 1, env, h, hn => by
    unfold whN at hn ⊢
    cases e : c env with
    | no => rfl
    | ex _ _ => rfl
    | ok b env1 =>
      cases b with
      | false => rfl
      | true =>
        rw [e] at hn
        dsimp only at hn ⊢
        cases e2 : body env1 with
        | no => rfl
        | ex _ _ => rfl
        | ok f env2 =>
          rw [e2] at hn
          cases f with
          | nx => exact whN_mono (by omega) hn
          | ct => exact whN_mono (by omega) hn
          | bk => rfl
          | rt _ => rfl
open Classical in
noncomputable def dwhile (c : D Bool) (body : D Fl) : D Fl := fun env => if h : ∃ n, whN c body n env ≠ .no then whN c body h.choose env else .no
theorem dwhile_of {c : D Bool} {body : D Fl} {n : Nat} {env : PEnv} {o : Out Fl} (h : whN c body n env = o) (hn : o ≠ .no) : dwhile c body env = o := by
  subst h
  have hx : ∃ n, whN c body n env ≠ .no := ⟨n, hn⟩
  unfold dwhile
  rw [dif_pos hx]
  have hc := hx.choose_spec
  rcases Nat.le_total n hx.choose with h | h
  · exact whN_mono h hn
  · exact (whN_mono h hc).symm
theorem dwhile_some {c : D Bool} {body : D Fl} {env : PEnv} (h : dwhile c body env ≠ .no) : ∃ n, dwhile c body env = whN c body n env := by
  unfold dwhile at h ⊢
  by_cases hx : ∃ n, whN c body n env ≠ .no
  · rw [dif_pos hx]; exact ⟨_, rfl⟩
  · rw [dif_neg hx] at h; exact absurd rfl h
/-- one turn -/
theorem dwhile_eq {c : D Bool} {body : D Fl} {env : PEnv} : dwhile c body env = match c env with
    | .ok true env1 => (turnK (dwhile c body) (body env1))
    | .ok false env1 => .ok .nx env1
    | .ex c e => .ex c e
    | .no => .no := by
  have step : ∀ n, whN c body (n + 1) env = match c env with
    | .ok true env1 => (turnK (whN c body n) (body env1))
    | .ok false env1 => .ok .nx env1
    | .ex c e => .ex c e
    | .no => .no := fun n => by rw [whN] <;> rfl
  have s1 := step 1
  cases e : c env with
  | no =>
    dsimp only
    by_cases hn : dwhile c body env = .no
    · exact hn
    · obtain ⟨n, hw⟩ := dwhile_some hn
      rw [hw] at hn ⊢
      cases n with
      | zero => rfl
      | succ n => rw [step, e]
  | ex _ _ => rw [e] at s1; exact dwhile_of s1 (by simp)
  | ok b env1 =>
    cases b with
    | false => rw [e] at s1; exact dwhile_of s1 (by simp)
    | true =>
      rw [e] at s1
      dsimp only at s1 ⊢
      cases e2 : body env1 with
      | no =>
        show dwhile c body env = .no
        by_cases hn : dwhile c body env = .no
        · exact hn
        · obtain ⟨n, hw⟩ := dwhile_some hn
          rw [hw] at hn ⊢
          cases n with
          | zero => rfl
          | succ n => rw [step, e]; dsimp only; rw [e2]; rfl
      | ex _ _ => rw [e2] at s1; exact dwhile_of s1 (by simp [turnK])
      | ok f env2 =>
        have again : (∀ n, whN c body (n + 1) env = whN c body n env2) → dwhile c body env = dwhile c body env2 := fun hs => by
          by_cases hn : dwhile c body env2 = .no
          · rw [hn]
            by_cases hm : dwhile c body env = .no
            · exact hm
            · obtain ⟨n, hw⟩ := dwhile_some hm
              rw [hw] at hm
              cases n with
              | zero => exact absurd rfl hm
              | succ n =>
                rw [hs n] at hm
                have := dwhile_of rfl hm
                rw [this] at hn
                exact absurd hn hm
          · obtain ⟨n, hw⟩ := dwhile_some hn
            rw [hw] at hn ⊢
            exact dwhile_of (hs n) hn
        rw [e2] at s1
        cases f with
        | nx => exact again fun n => by rw [step, e]; dsimp only; rw [e2]; rfl
        | ct => exact again fun n => by rw [step, e]; dsimp only; rw [e2]; rfl
        | bk => exact dwhile_of s1 (by simp [turnK])
        | rt _ => exact dwhile_of s1 (by simp [turnK])

section
variable {X : Cx} {W : WX} {fi : List Nat} {σ0 : L2.St} {a b c iter tg : Expr} {di : D (List PV)} {sa : D Fl} {ta : D Bool} {body : List Stmt} {pos : Pos} {t : Tg}
theorem out_turn {Dn D' : Ends} {tm : List PV} {τ : List V} {F F1 : Hp} {o : Out Fl} {k : PEnv → Out Fl} (hk : Same F F1) (hb : D'.bk = Dn.nx) (hr : D'.rt = Dn.rt)
    (hn : ∀ e, (o = .ok .nx e ∨ o = .ok .ct e) → ∀ σ' F' H' L', Same F1 F' → Rel X.prog X.w X.K e (tm.map .val) σ' τ F' H' L' → FxOk fi σ0 σ' → outQ X.prog X.w X.K W fi σ0 Dn tm τ F (k e) → D'.nx σ' H' ∧ D'.ct σ' H')
    (h : outQ X.prog X.w X.K W fi σ0 Dn tm τ F (turnK (k) (o))) : outQ X.prog X.w X.K W fi σ0 D' tm τ F1 o := by
  cases o with
  | no => exact h
  | ex c e => exact fun σ' F' H' L' k' => h σ' F' H' L' (hk.trans k')
  | ok f e =>
    cases f with
    | nx => exact fun σ' F' H' L' k' R' fx' => (hn e (.inl rfl) σ' F' H' L' k' R' fx' h).1
    | ct => exact fun σ' F' H' L' k' R' fx' => (hn e (.inr rfl) σ' F' H' L' k' R' fx' h).2
    | bk => exact fun σ' F' H' L' k' R' fx' => by rw [hb]; exact h σ' F' H' L' (hk.trans k') R' fx'
    | rt r => exact fun ex xs σ' v F' H' L' hl k' R' fx' => by rw [hr]; exact h ex xs σ' v F' H' L' hl (hk.trans k') R' fx'
theorem sv_for (G : Good X) (hp : PassesOwn (model X.prog X.w) X.A X.env X.xe) (hi : IV X W tg iter di) (hg : GV X fi σ0 tg t) (hb : BV X W fi σ0 body sa) (hs : ∀ x, foldedSetIterable iter X.env x = pure x := by intro _; rfl) : SV X W fi σ0 (.For tg iter body [] pos) (dfor t di sa) :=
  PSimp (ps_for hp G.calm hi hg hb hs) fun Dn σ H ⟨env, tm, τ, F, L, R, fx, h⟩ => by
    refine ⟨env, tm.map .val, τ, F, L, R, ?_⟩
    unfold dfor dbind at h
    cases e : di env with
    | no => rw [e] at h; exact h
    | ex c env' => rw [e] at h; exact fun F' H' L' k R' => h σ F' H' L' k R' fx
    | ok ps env' =>
      rw [e] at h
      intro F1 H1 L1 J k1 R1 it
      refine ⟨fun i m σ' H' => m = ps.length - i ∧ i ≤ ps.length ∧ ∃ env F' L', Same F1 F' ∧ Rel X.prog X.w X.K env (tm.map .val) σ' τ F' H' L' ∧ FxOk fi σ0 σ' ∧ outQ X.prog X.w X.K W fi σ0 Dn tm τ F' (forP (setT t) sa (ps.drop i) env), ⟨ps.length, rfl, Nat.zero_le _, env', F1, L1, Same.refl _, R1, fx, outQ.mono h k1⟩, ?_⟩
      rintro i m σ2 H2 ⟨rfl, hil, env2, F2, L2, k2, R2, fx2, q⟩
      by_cases hlt : i < ps.length
      · refine .inr ?_
        obtain ⟨g1, g2⟩ := it.go i ps[i] F2 H2 k2 R2.fle (by simp [hlt])
        refine ⟨g1, fun σ' H' => i + 1 ≤ ps.length ∧ ∃ env F' L', Same F1 F' ∧ Rel X.prog X.w X.K env (tm.map .val) σ' τ F' H' L' ∧ FxOk fi σ0 σ' ∧ outQ X.prog X.w X.K W fi σ0 Dn tm τ F' (forP (setT t) sa (ps.drop (i + 1)) env), fun σ' H' hh => ⟨ps.length - (i + 1), by omega, rfl, hh⟩, fun x H3 y => ?_⟩
        obtain ⟨F3, k3, rp, tr⟩ := g2 x H3 y
        obtain ⟨L3, R3⟩ := tr _ _ _ _ _ R2
        rw [List.drop_eq_getElem_cons hlt, forP] at q
        cases e3 : setT t ps[i] env2 with
        | none => rw [e3] at q; exact q.elim
        | some env3 =>
          rw [e3] at q
          refine ⟨env2, tm.map .val, τ, F3, L3, ps[i], env3, R3, fx2, rp, e3, fun σ4 F4 H4 L4 k4 R4 fx4 => ⟨env3, tm, τ, F4, L4, R4, fx4, ?_⟩⟩
          exact out_turn (k3.trans k4) rfl rfl (fun e he σ' F' H' L' k' R' fx' q' => have z := ⟨hlt, e, F', L', ((k2.trans k3).trans k4).trans k', R', fx', outQ.mono q' ((k3.trans k4).trans k')⟩; ⟨z, z⟩) q
      · have e3 : ps.drop i = [] := List.drop_eq_nil_of_le (by omega)
        rw [e3] at q
        exact .inl ⟨it.stop i F2 H2 k2 R2.fle (by omega), q σ2 F2 H2 L2 (Same.refl _) R2 fx2⟩
theorem sv_while (hp : PassesOwn (model X.prog X.w) X.A X.env X.xe) (hc : TV X W c ta) (hb : BV X W fi σ0 body sa) : SV X W fi σ0 (.While c body [] pos) (dwhile ta sa) :=
  PSimp (ps_while hp hc hb) fun Dn σ H ⟨env, tm, τ, F, L, R, fx, h⟩ => by
    have hn : dwhile ta sa env ≠ .no := fun e => by rw [e] at h; exact h
    obtain ⟨n, hw⟩ := dwhile_some hn
    rw [hw] at h
    refine ⟨fun m σ' H' => ∃ env F' L', Same F F' ∧ Rel X.prog X.w X.K env (tm.map .val) σ' τ F' H' L' ∧ FxOk fi σ0 σ' ∧ outQ X.prog X.w X.K W fi σ0 Dn tm τ F' (whN ta sa m env), ⟨n, env, F, L, Same.refl F, R, fx, h⟩, ?_⟩
    rintro m σ2 H2 ⟨env2, F2, L2, k2, R2, fx2, q⟩
    refine ⟨env2, tm.map .val, τ, F2, L2, rfl, by simpa using R2, ?_⟩
    cases m with
    | zero => exact q.elim
    | succ m =>
      rw [whN] at q
      cases e : ta env2 with
      | no => rw [e] at q; exact q
      | ex c env' => rw [e] at q; exact fun F' H' L' k R' => q σ2 F' H' L' k R' fx2
      | ok b env3 =>
        rw [e] at q
        intro vs F3 H3 L3 h1 k3 R3
        have hv : vs = [] := List.length_eq_zero_iff.mp h1.symm
        subst hv
        have R4 : Rel X.prog X.w X.K env3 (tm.map .val) σ2 τ F3 H3 L3 := by rw [List.append_nil, List.append_nil] at R3; exact R3
        cases b with
        | false =>
          dsimp only; rw [if_neg Bool.false_ne_true]
          exact q σ2 F3 H3 L3 k3 R4 fx2
        | true =>
          dsimp only; rw [if_pos rfl]
          refine ⟨fun σ' H' => ∃ env F' L', Same F F' ∧ Rel X.prog X.w X.K env (tm.map .val) σ' τ F' H' L' ∧ FxOk fi σ0 σ' ∧ outQ X.prog X.w X.K W fi σ0 Dn tm τ F' (whN ta sa m env), fun σ' H' hh => ⟨m, Nat.lt_succ_self m, hh⟩, env3, tm, τ, F3, L3, R4, fx2, ?_⟩
          exact out_turn k3 rfl rfl (fun e he σ' F' H' L' k' R' fx' q' => have z := ⟨e, F', L', (k2.trans k3).trans k', R', fx', outQ.mono q' (k3.trans k')⟩; ⟨z, z⟩) q
end
end Pv
namespace Pv
open PySem PySem.Spec PyProof.Rows L2

/-! ### a comprehension's own slots -/
def wipeE (env : PEnv) : List Nat → PEnv
  | [] => env
  | v :: vs => (wipeE env vs).set v .un
/-- what comes back: another name does not -/
def backS : Sl → Sl
  | .al _ _ => .un
  | e => e
def backE (env0 env : PEnv) : List Nat → PEnv
  | [] => env
  | v :: vs => match env0[v]? with
    | some e => (backE env0 env vs).set v (backS e)
    | none => backE env0 env vs
/-- nothing, or a kept value, or another name -/
def plainS : Sl → Bool
  | .un => true
  | .val pv => pv.fz
  | .al _ _ => true
def plainE (env : PEnv) (vs : List Nat) : Bool := vs.all fun v => match env[v]? with
  | some e => plainS e
  | none => true
theorem wipeE_len {env : PEnv} : ∀ {vs : List Nat}, (wipeE env vs).length = env.length
  | [] => rfl
  | v :: vs => by rw [wipeE, List.length_set, wipeE_len]
theorem backE_len {env0 env : PEnv} : ∀ {vs : List Nat}, (backE env0 env vs).length = env.length
  | [] => rfl
  | v :: vs => by
    rw [backE]
    split
    · rw [List.length_set, backE_len]
    · exact backE_len
theorem wipeE_get {env : PEnv} {k : Nat} : ∀ {vs : List Nat} {e : Sl}, (wipeE env vs)[k]? = some e → (k ∈ vs ∧ e = .un) ∨ (k ∉ vs ∧ env[k]? = some e)
  | [], e, h => .inr ⟨by simp, h⟩
  | v :: vs, e, h => by
    rw [wipeE] at h
    rcases getElem?_set_cases h with ⟨h1, h2, _⟩ | ⟨h1, h2⟩
    · exact .inl ⟨by simp [h1], h2⟩
    · rcases wipeE_get h2 with ⟨h3, h4⟩ | ⟨h3, h4⟩
      · exact .inl ⟨by simp [h3], h4⟩
      · exact .inr ⟨by simp only [List.mem_cons, not_or]; exact ⟨fun e => h1 e.symm, h3⟩, h4⟩
theorem backE_get {env0 env : PEnv} {k : Nat} : ∀ {vs : List Nat} {e : Sl}, (backE env0 env vs)[k]? = some e → (k ∈ vs ∧ ∃ e0, env0[k]? = some e0 ∧ e = backS e0) ∨ ((k ∉ vs ∨ env0[k]? = none) ∧ env[k]? = some e)
  | [], e, h => .inr ⟨.inl (by simp), h⟩
  | v :: vs, e, h => by
    rw [backE] at h
    have rest : k ≠ v ∨ env0[k]? = none → (backE env0 env vs)[k]? = some e → (k ∈ v :: vs ∧ ∃ e0, env0[k]? = some e0 ∧ e = backS e0) ∨ ((k ∉ v :: vs ∨ env0[k]? = none) ∧ env[k]? = some e) := fun h1 h2 => by
      rcases backE_get h2 with ⟨h3, h4⟩ | ⟨h3, h4⟩
      · exact .inl ⟨by simp [h3], h4⟩
      · refine .inr ⟨?_, h4⟩
        rcases h3 with h3 | h3
        · rcases h1 with h1 | h1
          · exact .inl (by simp only [List.mem_cons, not_or]; exact ⟨h1, h3⟩)
          · exact .inr h1
        · exact .inr h3
    cases e0 : env0[v]? with
    | none =>
      rw [e0] at h
      by_cases hk : k = v
      · exact rest (.inr (by rw [hk]; exact e0)) h
      · exact rest (.inl hk) h
    | some x =>
      rw [e0] at h
      rcases getElem?_set_cases h with ⟨h1, h2, _⟩ | ⟨h1, h2⟩
      · exact .inl ⟨by simp [h1], x, by rw [← h1, e0], h2⟩
      · exact rest (.inl (Ne.symm h1)) h2
theorem plainE_get {env : PEnv} {vs : List Nat} {k : Nat} {e : Sl} (h : plainE env vs = true) (hk : k ∈ vs) (he : env[k]? = some e) : plainS e = true := by
  unfold plainE at h
  have := List.all_eq_true.mp h k hk
  rw [he] at this
  exact this
theorem wipe_in {σ : L2.St} {k : Nat} {v : V} {vs : List Nat} (h : (wipe σ vs)[k]? = some (some v)) : σ[k]? = some (some v) ∧ k ∉ vs := wipe_some h
section
variable {P : Program} {w : World} {K : PySem.W.Frag} {F F' F0 H H' H0 : Hp} {L L' L0 : Lab} {env env' env0 tm tm' tm0 : PEnv} {σ σ' : L2.St} {τ τ' τ0 : List V}
theorem Rel.wipe {vs : List Nat} (R : Rel P w K env tm σ τ F H L) : Rel P w K (wipeE env vs) tm (L2.wipe σ vs) τ F H L := by
  have go : ∀ {r : Nat} {e : Sl} {u : V}, Ent P w K env F H L r e u → Ent P w K (wipeE env vs) F H L r e u := fun {r e u} h => by
    cases e with
    | un => trivial
    | val q => exact h
    | al j p =>
      intro q hq
      obtain ⟨y, e1, e2, e3⟩ := look_some hq
      rcases wipeE_get e1 with ⟨_, z⟩ | ⟨_, z⟩
      · cases z
      · exact h q (look_of z e2 e3)
  refine ⟨R.fle, R.lf, R.lh, by rw [wipeE_len, wipe_length]; exact R.len, fun k e he hu => ?_, R.tlen, fun k e u he hu => go (R.tmp k e u he hu), R.inj, fun k u j q he hu hq => ?_⟩
  rotate_right
  · obtain ⟨y, e1, e2, e3⟩ := look_some hq
    rcases wipeE_get e1 with ⟨_, z⟩ | ⟨hj, z⟩
    · cases z
    · rw [wipe_out hj]
      exact R.ali k u j q he hu (look_of z e2 e3)
  rcases wipeE_get he with ⟨_, rfl⟩ | ⟨h1, h2⟩
  · exact absurd rfl hu
  · obtain ⟨v, hv, he⟩ := R.slot k e h2 hu
    exact ⟨v, by rw [wipe_out h1]; exact hv, go he⟩
theorem Rel.back {vs : List Nat} (R : Rel P w K env tm (L2.wipe σ vs) τ F H L) (R0 : Rel P w K env0 tm0 σ τ0 F0 H0 L0) (k : Same F0 F) (hp : plainE env0 vs = true) : Rel P w K (backE env0 env vs) tm σ τ F H L := by
  have hlen : env.length = env0.length := by rw [R.len, wipe_length, R0.len]
  have go : ∀ {r : Nat} {e : Sl} {u : V}, Ent P w K env F H L r e u → Ent P w K (backE env0 env vs) F H L r e u := fun {r e u} h => by
    cases e with
    | un => trivial
    | val q => exact h
    | al j p =>
      intro q hq
      obtain ⟨y, e1, e2, e3⟩ := look_some hq
      rcases backE_get e1 with ⟨h1, e0, z, hb⟩ | ⟨_, z⟩
      · cases e0 with
        | un => cases hb
        | al _ _ => cases hb
        | val pv =>
          cases hb
          have := plainE_get hp h1 z
          rw [at_fz _ _ _ this e2] at e3
          cases e3
      · exact h q (look_of z e2 e3)
  refine ⟨R.fle, R.lf, R.lh, by rw [backE_len]; exact hlen.trans R0.len, fun j e he hu => ?_, R.tlen, fun k e u he hu => go (R.tmp k e u he hu), R.inj, fun k u j q he hu hq => ?_⟩
  rotate_right
  · obtain ⟨y, e1, e2, e3⟩ := look_some hq
    rcases backE_get e1 with ⟨h1, e0, z, hb⟩ | ⟨_, z⟩
    · cases e0 with
      | un => cases hb
      | al _ _ => cases hb
      | val pv =>
        cases hb
        have := plainE_get hp h1 z
        rw [at_fz _ _ _ this e2] at e3
        cases e3
    · have h1 := R.ali k u j q he hu (look_of z e2 e3)
      exact (wipe_in h1).1
  rcases backE_get he with ⟨h1, e0, h2, hb⟩ | ⟨h1, h2⟩
  · cases e0 with
    | un => exact absurd hb hu
    | al _ _ => exact absurd hb hu
    | val pv =>
      cases hb
      obtain ⟨v, hv, he⟩ := R0.slot j _ h2 hu
      have hz := plainE_get hp h1 h2
      exact ⟨v, hv, RepO.ofF (RepF.mono k _ _ (RepO.toF hz he))⟩
  · rcases h1 with h1 | h1
    · obtain ⟨v, hv, he⟩ := R.slot j e h2 hu
      exact ⟨v, by rw [← wipe_out h1]; exact hv, go he⟩
    · have := (List.getElem?_eq_some_iff.mp h2).1
      rw [List.getElem?_eq_none_iff] at h1
      omega
theorem RepOs.snoc {p : Path} : ∀ {xs : List PV} {i : Nat} {vs : List V} {y : PV} {u : V}, RepOs P w K F H L p i xs vs → RepO P w K F H L (p ++ [i + xs.length]) y u → RepOs P w K F H L p i (xs ++ [y]) (vs ++ [u])
  | [], i, vs, y, u, h, h2 => by
    rw [RepOs] at h
    subst h
    rw [List.nil_append, RepOs]
    exact ⟨u, [], rfl, h2, by rw [RepOs]⟩
  | x :: xs, i, vs, y, u, h, h2 => by
    rw [RepOs] at h
    obtain ⟨v, r, rfl, h3, h4⟩ := h
    rw [List.cons_append, RepOs]
    refine ⟨v, r ++ [u], rfl, h3, RepOs.snoc h4 ?_⟩
    have e : i + 1 + xs.length = i + (x :: xs).length := by simp; omega
    rw [e]
    exact h2
/-- labels moved from a root to a place -/
def mvP (r : Nat) (p : Path) (L : Lab) : Lab := fun a => match L a with
  | some (x :: s) => if x = r then some (p ++ s) else if p <+: (x :: s) then none else some (x :: s)
  | o => o
theorem mvP_src {r : Nat} {p : Path} {L : Lab} {a : Addr} {s : Path} (h : L a = some (r :: s)) : mvP r p L a = some (p ++ s) := by simp [mvP, h]
theorem mvP_off {r x : Nat} {p : Path} {L : Lab} {a : Addr} {s : Path} (h : L a = some (x :: s)) (h1 : x ≠ r) (h2 : ¬ p <+: (x :: s)) : mvP r p L a = some (x :: s) := by
  unfold mvP
  rw [h]
  show (if x = r then _ else _) = _
  rw [if_neg h1, if_neg h2]
theorem mvP_inv {r : Nat} {p q : Path} {L : Lab} {a : Addr} (hp : p ≠ []) (h : mvP r p L a = some q) : (∃ s, L a = some (r :: s) ∧ q = p ++ s) ∨ (L a = some q ∧ ¬ p <+: q) := by
  unfold mvP at h
  cases e : L a with
  | none => rw [e] at h; cases h
  | some z =>
    rw [e] at h
    cases z with
    | nil => cases h; exact .inr ⟨rfl, fun z => hp (List.prefix_nil.mp z)⟩
    | cons x s =>
      dsimp only at h
      by_cases h1 : x = r
      · rw [if_pos h1] at h
        cases h
        exact .inl ⟨s, by rw [h1], rfl⟩
      · rw [if_neg h1] at h
        by_cases h2 : p <+: (x :: s)
        · rw [if_pos h2] at h; cases h
        · rw [if_neg h2] at h
          cases h
          exact .inr ⟨rfl, h2⟩
theorem mvP_inj {r : Nat} {p : Path} {L : Lab} (hp : p ≠ []) (inj : ∀ a b q, L a = some q → L b = some q → a = b) : ∀ a b q, mvP r p L a = some q → mvP r p L b = some q → a = b := fun a b q h1 h2 => by
  rcases mvP_inv hp h1 with ⟨s, e1, e2⟩ | ⟨e1, e2⟩
  · rcases mvP_inv hp h2 with ⟨s', e3, e4⟩ | ⟨e3, e4⟩
    · rw [e2] at e4
      have := List.append_cancel_left e4
      subst this
      exact inj _ _ _ e1 e3
    · exact absurd ⟨s, e2.symm⟩ e4
  · rcases mvP_inv hp h2 with ⟨s', e3, e4⟩ | ⟨e3, e4⟩
    · exact absurd ⟨s', e4.symm⟩ e2
    · exact inj _ _ _ e1 e3
theorem mvP_some {r : Nat} {p q : Path} {L : Lab} {a : Addr} (h : mvP r p L a = some q) : ∃ q, L a = some q := by
  unfold mvP at h
  cases e : L a with
  | none => rw [e] at h; cases h
  | some q => exact ⟨q, rfl⟩
/-- the value at the top goes behind the list beneath it -/
theorem Rel.app {acc : List PV} {pv : PV} {d y : V} (R : Rel P w K env (tm ++ [.val (.lst true acc), .val pv]) σ (τ ++ [d, y]) F H L) (hl : tm.length = τ.length) :
    ∃ D vs, d = .ref D ∧ H D = some (.lst vs) ∧ acc.length = vs.length ∧ ∃ L', Rel P w K env (tm ++ [.val (.lst true (acc ++ [pv]))]) σ (τ ++ [.ref D]) F (upd H D (.lst (vs ++ [y]))) L' := by
  have t1 : Ent P w K env F H L (2 * tm.length + 1) (.val (.lst true acc)) d := R.tmp tm.length _ d (by simp) (by simp [hl])
  have t2 : Ent P w K env F H L (2 * (tm.length + 1) + 1) (.val pv) y := R.tmp (tm.length + 1) _ y (by simp) (by simp [hl])
  have R0 : Rel P w K env tm σ τ F H L := R.popN (es := [_, _]) (vs := [_, _]) rfl
  rw [Ent, RepO] at t1
  obtain ⟨D, vs, rfl, hL, hD, ks⟩ := t1
  refine ⟨D, vs, rfl, hD, ks.length, mvP (2 * (tm.length + 1) + 1) [2 * tm.length + 1, acc.length] L, ?_⟩
  have fD : F D = none := R.lf D _ hL
  have go : ∀ {r : Nat} {e : Sl} {u : V}, r ≠ 2 * tm.length + 1 → r ≠ 2 * (tm.length + 1) + 1 → Ent P w K env F H L r e u → Ent P w K env F (upd H D (.lst (vs ++ [y]))) (mvP (2 * (tm.length + 1) + 1) [2 * tm.length + 1, acc.length] L) r e u := fun {r e u} h1 h2 h => by
    have ne : ∀ {a : Addr} {x : Nat} {s : Path}, L a = some (x :: s) → x ≠ 2 * tm.length + 1 → a ≠ D := fun {a x s} ha hx z => by
      rw [z, hL] at ha
      cases ha
      exact hx rfl
    cases e with
    | un => trivial
    | val q => exact RepO.tr (Same.refl F) q [r] [r] u (fun a s l => ⟨mvP_off l h2 (fun z => h1 (List.cons_prefix_cons.mp z).1.symm), upd_ne (ne l h1)⟩) h
    | al j p =>
      intro q hq
      exact RepO.tr (Same.refl F) q (2 * j :: p) (2 * j :: p) u (fun a s l => ⟨mvP_off (s := p ++ s) l (by omega) (fun z => by have := (List.cons_prefix_cons.mp z).1; omega), upd_ne (ne (s := p ++ s) l (by omega))⟩) (h q hq)
  refine ⟨fun b o e => ?_, fun a p e => ?_, fun a p e => ?_, R0.len, fun k e he hu => ?_, by simp [hl], fun k e u he hu => ?_, mvP_inj (by simp) R.inj, fun k u j q he hu hq => ?_⟩
  rotate_right
  · by_cases hk : k < tm.length
    · rw [List.getElem?_append_left hk] at he
      rw [List.getElem?_append_left (by omega)] at hu
      exact R0.ali k u j q he hu hq
    · rw [List.getElem?_append_right (by omega)] at he
      cases hx : k - tm.length with
      | zero => rw [hx] at he; cases he
      | succ n => rw [hx] at he; cases he
  · rw [upd_ne (ne_of_none e fD)]
    exact R.fle b o e
  · obtain ⟨q, hq⟩ := mvP_some e; exact R.lf a q hq
  · obtain ⟨q, hq⟩ := mvP_some e
    by_cases ha : a = D
    · subst ha; exact ⟨_, upd_same⟩
    · rw [upd_ne ha]; exact R.lh a q hq
  · obtain ⟨u, h1, h2⟩ := R0.slot k e he hu
    exact ⟨u, h1, go (by omega) (by omega) h2⟩
  · by_cases hk : k < tm.length
    · rw [List.getElem?_append_left hk] at he
      rw [List.getElem?_append_left (by omega)] at hu
      exact go (by omega) (by omega) (R0.tmp k e u he hu)
    · have hk' : k = tm.length := by
        have := (List.getElem?_eq_some_iff.mp he).1
        simp at this
        omega
      subst hk'
      have e1 : e = .val (.lst true (acc ++ [pv])) := by simpa using he.symm
      have e2 : u = .ref D := by
        rw [hl] at hu
        simpa using hu.symm
      subst e1 e2
      rw [Ent, RepO]
      have kids : RepOs P w K F (upd H D (.lst (vs ++ [y]))) (mvP (2 * (tm.length + 1) + 1) [2 * tm.length + 1, acc.length] L) [2 * tm.length + 1] 0 acc vs := by
        refine RepOs.of ks.length fun i x v hx hv => ?_
        obtain ⟨v', hv', rx⟩ := ks.get hx
        rw [hv] at hv'
        cases hv'
        refine RepO.tr (Same.refl F) x _ _ v (fun a s l => ?_) rx
        have hi := (List.getElem?_eq_some_iff.mp hx).1
        refine ⟨mvP_off (s := (0 + i) :: s) l (by omega) (fun z => by have := (List.cons_prefix_cons.mp (List.cons_prefix_cons.mp z).2).1; omega), upd_ne fun z => ?_⟩
        subst z
        rw [hL] at l
        simp at l
      refine ⟨D, vs ++ [y], rfl, mvP_off hL (by omega) (fun z => by simp at z), upd_same, kids.snoc ?_⟩
      refine RepO.tr (Same.refl F) pv [2 * (tm.length + 1) + 1] _ y (fun a s l => ⟨by rw [mvP_src l]; simp, upd_ne fun z => ?_⟩) t2
      subst z
      rw [hL] at l
      simp at l
      omega
end
def unalV (env : PEnv) : Sl → Option (PV × PEnv)
  | .val pv => some (pv, env)
  | e => frzE env e
theorem Rel.unal {P : Program} {w : World} {K : PySem.W.Frag} {F H : Hp} {L : Lab} {env env1 tm : PEnv} {σ : L2.St} {τ : List V} {e : Sl} {v : V} {pv : PV} (R : Rel P w K env (tm ++ [e]) σ (τ ++ [v]) F H L) (h : unalV env e = some (pv, env1)) :
    ∃ F' L', Same F F' ∧ Rel P w K env1 (tm ++ [.val pv]) σ (τ ++ [v]) F' H L' := by
  have fz : frzE env e = some (pv, env1) → ∃ F' L', Same F F' ∧ Rel P w K env1 (tm ++ [.val pv]) σ (τ ++ [v]) F' H L' := fun h => by
    obtain ⟨F1, L1, k1, R1⟩ := R.frzAt (i := tm.length) (v := v) (by simp) (by have := R.pop.tlen; rw [this]; simp) h
    have hs : (tm ++ [e]).set tm.length (.val pv) = tm ++ [.val pv] := by simp
    rw [hs] at R1
    exact ⟨F1, L1, k1, R1⟩
  cases e with
  | val p => cases h; exact ⟨F, L, Same.refl F, R⟩
  | un => cases h
  | al j q => exact fz h

/-! ### the comprehension -/
def lcP (t : PV → PEnv → Option PEnv) (vs : List Nat) (tt : D Bool) (te : D Sl) : List PV → List PV → D (List PV)
  | [], acc, env => .ok acc env
  | p :: ps, acc, env => match t p env with
    | none => .no
    | some env1 => match tt env1 with
      | .ok true env2 => match te env2 with
        | .ok e env3 => match unalV env3 e with
          | some (pv, env4) => lcP t vs tt te ps (acc ++ [pv]) (wipeE env4 vs)
          | none => .no
        | _ => .no
      | .ok false env2 => lcP t vs tt te ps acc (wipeE env2 vs)
      | _ => .no
def lcE (t : Tg) (vs : List Nat) (tt : D Bool) (te : D Sl) (ps : List PV) : D Sl := fun env =>
  if plainE env vs = true ∧ ps.length ≤ 1000000 then match lcP (setT t) vs tt te ps [] (wipeE env vs) with
    | .ok acc env' => .ok (.val (.lst true acc)) (backE env env' vs)
    | _ => .no
  else .no
def dlc (di : D (List PV)) (t : Tg) (vs : List Nat) (tt : D Bool) (te : D Sl) : D Sl := dbind di (lcE t vs tt te)
mutual
/-- names alone -/
def Tg.names : Tg → Bool
  | .nm _ => true
  | .tp ts => Tg.namesL ts
  | .ix _ _ => false
def Tg.namesL : List Tg → Bool
  | [] => true
  | t :: ts => t.names && Tg.namesL ts
end
theorem setT_len : (∀ (t : Tg), t.names = true → ∀ p env env', setT t p env = some env' → env'.length = env.length) := by
  intro t
  refine Tg.rec (motive_1 := fun t => t.names = true → ∀ p env env', setT t p env = some env' → env'.length = env.length) (motive_2 := fun ts => Tg.namesL ts = true → ∀ ps env env', setTs ts ps env = some env' → env'.length = env.length) ?_ ?_ ?_ ?_ ?_ t
  · intro i _ p env env' h
    rw [setT] at h
    cases h
    exact setE_len
  · intro ts ih hn p env env' h
    rw [Tg.names] at hn
    have ih := ih hn
    cases p with
    | tup ps => rw [setT] at h; exact ih _ _ _ h
    | _ => simp [setT] at h
  · intro a b hn
    cases hn
  · intro _ ps env env' h
    cases ps with
    | nil => rw [setTs] at h; cases h; rfl
    | cons p ps => simp [setTs] at h
  · intro t ts ih1 ih2 hn ps env env' h
    rw [Tg.namesL, Bool.and_eq_true] at hn
    have ih1 := ih1 hn.1
    have ih2 := ih2 hn.2
    cases ps with
    | nil => simp [setTs] at h
    | cons p ps =>
      rw [setTs] at h
      cases e1 : setT t p env with
      | none => rw [e1] at h; cases h
      | some env1 =>
        rw [e1] at h
        exact (ih2 _ _ _ h).trans (ih1 _ _ _ e1)
/-- nothing is thrown -/
def noW : WX := fun _ _ _ _ => False
abbrev PtsV (X : Cx) (ifs : List Expr) (d : D Bool) : Prop := PTs X ifs (tT X.prog X.w X.K noW d)
section
variable {X : Cx} {W : WX} {fi : List Nat} {σ0 : L2.St} {a b c iter tg elt : Expr} {di : D (List PV)} {tt : D Bool} {te : D Sl} {ifs : List Expr} {pos : Pos} {t : Tg} {scope : Scope} {own : List (Str × Nat)}
theorem ptsv_nil : PtsV X [] (dpure true) := ⟨fun pins s σ H Q I h => pts_nil.run pins s σ H Q I (tT.pure (W := noW) h)⟩
theorem ptsv_one (h : TV X noW c tt) : PtsV X [c] tt := pts_one h
theorem wipe_same {σ σ2 : L2.St} {vs fi : List Nat} {n : Nat} (hn : σ.length = n) (h2 : σ2.length = n) (hfi : ∀ i, i < n → i ∉ vs → i ∈ fi) (fx : FxOk fi (wipe σ vs) σ2) : wipe σ2 vs = wipe σ vs := by
  refine List.ext_getElem? fun i => ?_
  by_cases hi : i < n
  · by_cases hv : i ∈ vs
    · have none : ∀ {s : L2.St}, s.length = n → (wipe s vs)[i]? = some Option.none := fun {s} hs => by
        have hl : i < (wipe s vs).length := by rw [wipe_length, hs]; exact hi
        rw [List.getElem?_eq_getElem hl]
        cases e : (wipe s vs)[i] with
        | none => rfl
        | some x => exact absurd hv (wipe_some (by rw [List.getElem?_eq_getElem hl, e])).2
      rw [none h2, none hn]
    · rw [wipe_out hv, fx i (hfi i hi hv)]
  · rw [List.getElem?_eq_none (by rw [wipe_length, h2]; omega), List.getElem?_eq_none (by rw [wipe_length, hn]; omega)]
theorem lc_imp {vs : List Nat} {σ : L2.St} {H : Hp} {Q : VK} (hlen : σ.length = X.N.length) (hfi : ∀ i, i < X.N.length → i ∉ vs → i ∈ fi) (hnm : t.names = true) (h : tE X.prog X.w X.K W (dlc di t vs tt te) σ H Q) :
    tLc (tI X.prog X.w X.K W di) (gT X.prog X.w X.K fi (wipe σ vs) t) (tT X.prog X.w X.K noW tt) (tE X.prog X.w X.K noW te) vs σ H Q := by
  obtain ⟨env, tm, τ, F, L, _, R, h⟩ := h
  refine ⟨env, tm, τ, F, L, by simpa using R, ?_⟩
  unfold dlc dbind at h
  cases e : di env with
  | no => rw [e] at h; exact h
  | ex c env' => rw [e] at h; exact h
  | ok ps env0 =>
    rw [e] at h
    intro F0 H0 L0 J k0 R0 it D hD
    dsimp only at h
    unfold lcE at h
    by_cases hpl : plainE env0 vs = true ∧ ps.length ≤ 1000000
    · rw [if_pos hpl] at h
      cases e2 : lcP (setT t) vs tt te ps [] (wipeE env0 vs) with
      | no => rw [e2] at h; exact h.elim
      | ex c env' => rw [e2] at h; exact h.elim
      | ok accf envf =>
        rw [e2] at h
        have R1 : Rel X.prog X.w X.K (wipeE env0 vs) (tm ++ [.val (.lst true [])]) (wipe σ vs) (τ ++ [.ref D]) F0 (upd H0 D (.lst [])) (upL L0 D [2 * tm.length + 1]) := (R0.wipe (vs := vs)).newL hD (by rw [RepFs])
        have htl : tm.length = τ.length := R0.tlen
        have hz : (16777216 : Nat) = sizeLine := sl24
        refine ⟨fun i m H' => m = ps.length - i ∧ i ≤ ps.length ∧ ∃ env' F' L' acc, Same F0 F' ∧ Rel X.prog X.w X.K env' (tm ++ [.val (.lst true acc)]) (wipe σ vs) (τ ++ [.ref D]) F' H' L' ∧ acc.length ≤ i ∧ lcP (setT t) vs tt te (ps.drop i) acc env' = .ok accf envf,
          ⟨ps.length, rfl, Nat.zero_le _, _, F0, _, [], Same.refl _, R1, Nat.le_refl _, e2⟩, ?_⟩
        rintro i m H2 ⟨rfl, hil, env2, F2, L2, acc, k2, R2, hacc, q⟩
        by_cases hlt : i < ps.length
        · refine .inr ?_
          obtain ⟨g1, g2⟩ := it.go i ps[i] F2 H2 k2 R2.fle (by simp [hlt])
          refine ⟨g1, fun H' => i + 1 ≤ ps.length ∧ ∃ env' F' L' acc, Same F0 F' ∧ Rel X.prog X.w X.K env' (tm ++ [.val (.lst true acc)]) (wipe σ vs) (τ ++ [.ref D]) F' H' L' ∧ acc.length ≤ i + 1 ∧ lcP (setT t) vs tt te (ps.drop (i + 1)) acc env' = .ok accf envf, fun H' hh => ⟨ps.length - (i + 1), by omega, rfl, hh⟩, fun x H3 y => ?_⟩
          obtain ⟨F3, k3, rp, tr⟩ := g2 x H3 y
          obtain ⟨L3, R3⟩ := tr _ _ _ _ _ R2
          rw [List.drop_eq_getElem_cons hlt, lcP] at q
          cases e3 : setT t ps[i] env2 with
          | none => rw [e3] at q; cases q
          | some env3 =>
            rw [e3] at q
            refine ⟨env2, _, _, F3, L3, ps[i], env3, R3, fun _ _ => rfl, rp, e3, fun σ4 F4 H4 L4 k4 R4 fx4 => ?_⟩
            have hl4 : σ4.length = X.N.length := by
              rw [← R4.len, setT_len _ hnm _ _ _ e3, R3.len, wipe_length]
              exact hlen
            have hw : wipe σ4 vs = wipe σ vs := wipe_same hlen hl4 hfi fx4
            refine ⟨hw, ?_⟩
            refine ⟨env3, _, _, F4, L4, rfl, by rw [List.append_nil, List.append_nil]; exact R4, ?_⟩
            dsimp only at q
            cases e4 : tt env3 with
            | no => rw [e4] at q; cases q
            | ex c env' => rw [e4] at q; cases q
            | ok bb env4 =>
              rw [e4] at q
              intro vv F5 H5 L5 h1 k5 R5
              have hv : vv = [] := List.length_eq_zero_iff.mp h1.symm
              subst hv
              have R6 : Rel X.prog X.w X.K env4 (tm ++ [.val (.lst true acc)]) σ4 (τ ++ [.ref D]) F5 H5 L5 := by rw [List.append_nil, List.append_nil] at R5; exact R5
              cases bb with
              | false =>
                dsimp only at q ⊢
                rw [if_neg Bool.false_ne_true]
                exact ⟨hlt, _, F5, L5, acc, ((k2.trans k3).trans k4).trans k5, by have := R6.wipe (vs := vs); rw [hw] at this; exact this, by omega, q⟩
              | true =>
                dsimp only at q ⊢
                rw [if_pos rfl]
                refine ⟨env4, _, _, F5, L5, rfl, by rw [List.append_nil, List.append_nil]; exact R6, ?_⟩
                cases e5 : te env4 with
                | no => rw [e5] at q; cases q
                | ex c env' => rw [e5] at q; cases q
                | ok en env5 =>
                  rw [e5] at q
                  intro vv F7 H7 L7 h7 k7 R7 v hv
                  subst hv
                  dsimp only at q
                  cases e6 : unalV env5 en with
                  | none => rw [e6] at q; cases q
                  | some r =>
                    obtain ⟨pv, env6⟩ := r
                    rw [e6] at q
                    obtain ⟨F8, L8, k8, R8⟩ := R7.unal e6
                    have R8' : Rel X.prog X.w X.K env6 (tm ++ [.val (.lst true acc), .val pv]) σ4 (τ ++ [.ref D, v]) F8 H7 L8 := by simpa using R8
                    obtain ⟨D', av, eD, hD', hal, L9, R9⟩ := R8'.app htl
                    cases eD
                    refine ⟨av, hD', by rw [← hal, ← hz]; omega, hlt, _, F8, L9, acc ++ [pv], ((((k2.trans k3).trans k4).trans k5).trans k7).trans k8, by have := R9.wipe (vs := vs); rw [hw] at this; exact this, by simp; omega, q⟩
        · have e3 : ps.drop i = [] := List.drop_eq_nil_of_le (by omega)
          rw [e3] at q
          cases q
          refine .inl ⟨it.stop i F2 H2 k2 R2.fle (by omega), ?_⟩
          exact h [.ref D] F2 H2 L2 rfl (k0.trans k2) (by have := R2.back R0 k2 hpl.1; simpa using this) _ rfl
    · rw [if_neg hpl] at h; exact h.elim
theorem ev_lc (G : Good X) (hi : IV X W tg iter di) (ok : BlkOk X.N X.env.scope scope own) (hfi : ∀ i, i < X.N.length → i ∉ own.map (·.2) → i ∈ fi)
    (hg : ∀ (s : Shared) (H : Hp) (C : Addr) (cl : List (Str × Addr)) (fp : List Addr) (σ0 : L2.St), GV (X.blk s H scope (compEnvC scope cl C X.env) fp) fi σ0 tg t)
    (ht : ∀ (s : Shared) (H : Hp) (C : Addr) (cl : List (Str × Addr)) (fp : List Addr), PtsV (X.blk s H scope (compEnvC scope cl C X.env) fp) ifs tt)
    (he : ∀ (s : Shared) (H : Hp) (C : Addr) (cl : List (Str × Addr)) (fp : List Addr), EV (X.blk s H scope (compEnvC scope cl C X.env) fp) noW elt te) (hs : ∀ x, foldedSetIterable iter X.env x = pure x := by intro _; rfl) (hnm : t.names = true := by rfl) :
    EV X W (.ListComp elt [⟨tg, iter, ifs, 0⟩] scope pos) (dlc di t (own.map (·.2)) tt te) := by
  refine ⟨fun pins s σ H Q I h => (pe_lc (g := gT X.prog X.w X.K fi (wipe σ (own.map (·.2))) t) (tt := tT X.prog X.w X.K noW tt) (te := tE X.prog X.w X.K noW te) G.calm G.nd hi ok (fun s H C cl fp => hg s H C cl fp _) ht he hs).run pins s σ H Q I (lc_imp I.len hfi hnm h)⟩
end
theorem Good.blk {X : Cx} (G : Good X) {s : Shared} {H : Hp} {scope : Scope} {cenv : Env} {fp : List Addr} : Good (X.blk s H scope cenv fp) := ⟨G.calm, G.un, G.gd, G.nd⟩
end Pv
namespace Pv
open PySem PySem.Spec PyProof.Rows L2

/-! ### a def's promise, where nothing is being shown -/
structure FnG (P : Program) (w : World) (K : PySem.W.Frag) (mg : Str → Option Value) (base : Heap) (CX : CXT) (k : Nat) (f : Addr) (fd : FuncData) (ps : List Str) (sp : Sp) : Prop where
  len : ∀ vs H Q E, sp vs H Q E → vs.length = ps.length
  run : ∀ (A : Around) (outer : List Env) (s : Shared) (H : Hp) (args : Args) (us : List Value) (vs : List V) (Q : VK) (E : XK), Room k A → A.guards = some [] → Env0 P w K mg base A outer s H →
    BindsTo s fd args (ps.zip us) → Vals vs us → sp vs H Q E → codeAny (model P w) A (.call (.ref f) args) (CR CX outer P w H s Q E) s
/-- a thing held fast: what it is is not told -/
def lkO (a : Addr) (o : Obj) : HO := .frz o (.ext fun h => h.get? a = some o)
def Msk (F F' : Hp) : Prop := ∀ a o, F a = some o → (∃ ob, o = lkO a ob) ∨ F' a = some o
section
variable {P : Program} {w : World} {K : PySem.W.Frag} {F F' H H' : Hp} {L L' : Lab}
theorem Msk.rd {a : Addr} {u : HO} (k : Msk F F') (hu : ∀ o, u ≠ lkO a o) (hx : ∀ φ, u ≠ .ext φ) (h : Rd F a u) : Rd F' a u := by
  rcases h with h | ⟨o, h⟩
  · rcases k a _ h with ⟨ob, e⟩ | e
    · exact absurd e (hu ob)
    · exact .inl e
  · rcases k a _ h with ⟨ob, e⟩ | e
    · unfold lkO at e
      cases e
      exact absurd rfl (hx _)
    · exact .inr ⟨o, e⟩
theorem Msk.sqL {a : Addr} {xs : List V} (k : Msk F F') (h : SqL K F a xs) : SqL K F' a xs := by
  rcases h with h | h
  · exact .inl (k.rd (fun o e => by unfold lkO at e; cases e) (fun φ e => by cases e) h)
  · exact .inr h
theorem Msk.sqT {a : Addr} {xs : List V} (k : Msk F F') (h : SqT K F a xs) : SqT K F' a xs := by
  rcases h with h | h
  · exact .inl (k.rd (fun o e => by unfold lkO at e; cases e) (fun φ e => by cases e) h)
  · exact .inr h
theorem Msk.some {a : Addr} {u : HO} (k : Msk F F') (hu : ∀ o, u ≠ lkO a o) (h : F a = Option.some u) : F' a = Option.some u := by
  rcases k a _ h with ⟨ob, e⟩ | e
  · exact absurd e (hu ob)
  · exact e
mutual
theorem RepF.mask (k : Msk F F') : ∀ (x : PV) (v : V), RepF P w K F x v → RepF P w K F' x v
  | .tup xs, v, h => by
    rw [RepF] at h ⊢
    obtain ⟨a, vs, e, s, r⟩ := h
    exact ⟨a, vs, e, k.sqT s, RepFs.mask k xs vs r⟩
  | .frl xs, v, h => by
    rw [RepF] at h ⊢
    obtain ⟨a, vs, e, s, r⟩ := h
    exact ⟨a, vs, e, k.sqL s, RepFs.mask k xs vs r⟩
  | .lst o xs, v, h => by
    rw [RepF] at h ⊢
    obtain ⟨eo, a, vs, e, s, r⟩ := h
    exact ⟨eo, a, vs, e, k.some (fun o e => by unfold lkO at e; cases e) s, RepFs.mask k xs vs r⟩
  | .dct o ks xs, v, h => by
    rw [RepF] at h ⊢
    obtain ⟨eo, a, kes, ves, e, s, r, r2⟩ := h
    refine ⟨eo, a, kes, ves, e, ?_, RepFs.mask k ks kes r, RepFs.mask k xs ves r2⟩
    rcases s with ⟨kvs, e, r⟩ | ⟨ys, e, r⟩
    · exact .inl ⟨kvs, k.some (fun o e => by unfold lkO at e; cases e) e, r⟩
    · exact .inr ⟨ys, k.some (fun o e => by unfold lkO DTO at e; cases e) e, r⟩
  | .non, v, h => h
  | .bl _, v, h => h
  | .int _, v, h => h
  | .str _, v, h => h
  | .ref _, v, h => h
  | .ty _, v, h => h
theorem RepFs.mask (k : Msk F F') : ∀ (xs : List PV) (vs : List V), RepFs P w K F xs vs → RepFs P w K F' xs vs
  | [], vs, h => h
  | x :: xs, vs, h => by
    rw [RepFs] at h ⊢
    obtain ⟨v, r, e, h1, h2⟩ := h
    exact ⟨v, r, e, RepF.mask k x v h1, RepFs.mask k xs r h2⟩
end
/-- what may be written -/
def okH : Option HO → Bool
  | some (.lst _) => true
  | some (.dK _) => true
  | some (.ext _) => true
  | _ => false
theorem DctR.okH {a : Addr} {ks : List PV} {kes ves : List V} (h : DctR P w H a ks kes ves) : Pv.okH (H a) = true := by
  rcases h with ⟨kvs, e, _⟩ | ⟨ys, e, _⟩ <;> (rw [e]; rfl)
mutual
theorem RepO.trM (k : Msk F F') : ∀ (x : PV) (p p' : Path) (v : V), (∀ a s, L a = some (p ++ s) → okH (H a) = true → L' a = some (p' ++ s) ∧ H' a = H a) → RepO P w K F H L p x v → RepO P w K F' H' L' p' x v
  | .lst true xs, p, p', v, m, h => by
    rw [RepO] at h ⊢
    obtain ⟨a, vs, e, l, e2, r⟩ := h
    have z := m a [] (by simpa using l) (by rw [e2]; rfl)
    exact ⟨a, vs, e, by simpa using z.1, by rw [z.2]; exact e2, RepOs.trM k xs p p' 0 vs m r⟩
  | .dct true ks xs, p, p', v, m, h => by
    rw [RepO] at h ⊢
    obtain ⟨a, kes, ves, e, l, e2, r, r2⟩ := h
    have z := m a [] (by simpa using l) e2.okH
    exact ⟨a, kes, ves, e, by simpa using z.1, DctR.mono P w e2 fun o e => by rw [z.2]; exact e, RepFs.mask k _ _ r, RepOs.trM k xs p p' 0 ves m r2⟩
  | .lst false xs, p, p', v, m, h => by
    rw [RepO] at h ⊢
    exact RepF.mask k _ _ h
  | .dct false ks xs, p, p', v, m, h => by
    rw [RepO] at h ⊢
    exact RepF.mask k _ _ h
  | .tup xs, p, p', v, m, h => by
    rw [RepO] at h ⊢
    exact RepF.mask k _ _ h
  | .frl xs, p, p', v, m, h => by
    rw [RepO] at h ⊢
    exact RepF.mask k _ _ h
  | .non, p, p', v, m, h => h
  | .bl _, p, p', v, m, h => h
  | .int _, p, p', v, m, h => h
  | .str _, p, p', v, m, h => h
  | .ref _, p, p', v, m, h => h
  | .ty _, p, p', v, m, h => h
theorem RepOs.trM (k : Msk F F') : ∀ (xs : List PV) (p p' : Path) (i : Nat) (vs : List V), (∀ a s, L a = some (p ++ s) → okH (H a) = true → L' a = some (p' ++ s) ∧ H' a = H a) → RepOs P w K F H L p i xs vs → RepOs P w K F' H' L' p' i xs vs
  | [], p, p', i, vs, m, h => h
  | x :: xs, p, p', i, vs, m, h => by
    rw [RepOs] at h ⊢
    obtain ⟨v, r, e, h1, h2⟩ := h
    refine ⟨v, r, e, RepO.trM k x (p ++ [i]) (p' ++ [i]) v (fun a s l => ?_) h1, RepOs.trM k xs p p' (i + 1) r m h2⟩
    rw [List.append_assoc] at l ⊢
    exact m a ([i] ++ s) l
end
end

/-! ### things held fast through a call -/
def lockZ (Z : Addr → Bool) (h : Heap) (H : Hp) : Hp := fun a => if Z a = true then (match h.get? a with | some o => some (lkO a o) | none => H a) else H a
def unlZ (Z : Addr → Bool) (H H' : Hp) : Hp := fun a => if Z a = true then H a else H' a
section
variable {X : Cx} {k : Nat} {f : Addr} {fd : FuncData} {ps : List Str} {sp : Sp} {ds : List Value} {E : XK} {x : Str} {p pos : Pos} {e : Expr} {es : List Expr} {t : TA} {Z : Addr → Bool}
theorem okH_not {H : Hp} {a : Addr} {o : HO} (h : okH (H a) = true) (e : H a = some o) : (∀ c, o ≠ .own c) ∧ (∀ xs, o ≠ .tup xs) ∧ (∀ ob u, o ≠ .frz ob u) ∧ ∀ ps, o ≠ .tbl ps := by
  rw [e] at h
  cases o <;> simp [okH] at h ⊢
theorem run_fnZ {pins : List (Addr × Obj)} {σ : L2.St} {H : Hp} {s : Shared} {Q : VK} {us : List Value} {vs : List V} (F : FnG X.prog X.w X.K X.mg X.base C8.CX0 k f fd ps sp) (hr : Room k X.A) (hgd : X.A.guards = some []) (hb : Binds X.K fd ps [])
    (I : Inv X pins σ H s) (r : Vals vs us) (hZ : ∀ a, Z a = true → okH (H a) = true)
    (h : sp vs (lockZ Z s.heap H) (fun v H' => (∀ a, Z a = true → H' a = lockZ Z s.heap H a) → Q v (unlZ Z H H')) E) : wpAny (model X.prog X.w) X.A (call (.ref f) us) (EP X pins σ Q) X.xe s := by
  have hl : (us ++ []).length = ps.length := by rw [List.append_nil, ← r.length]; exact F.len _ _ _ _ h
  have e0 := I.env0
  have at_ : ∀ a, Z a = true → ∃ o u, s.heap.get? a = some o ∧ H a = some u ∧ lockZ Z s.heap H a = some (lkO a o) := fun a ha => by
    have h1 := hZ a ha
    cases e : H a with
    | none => rw [e] at h1; cases h1
    | some u =>
      have hg : ∃ o, s.heap.get? a = some o := by
        have x0 := I.hok a u e
        rw [e] at h1
        cases u with
        | lst xs => obtain ⟨_, _, _, _, q⟩ := x0; exact ⟨_, q⟩
        | dK kvs => obtain ⟨_, _, _, _, o, _, _, q, _⟩ := x0; exact ⟨o, q⟩
        | ext φ => obtain ⟨_, q, _⟩ := x0; exact q
        | _ => simp [okH] at h1
      obtain ⟨o, hg⟩ := hg
      refine ⟨o, u, hg, rfl, ?_⟩
      unfold lockZ
      rw [if_pos ha, hg]
  have off : ∀ a, Z a = false → lockZ Z s.heap H a = H a := fun a ha => by
    unfold lockZ
    rw [if_neg (by rw [ha]; exact Bool.false_ne_true)]
  have nn : ∀ a, lockZ Z s.heap H a = none ↔ H a = none := fun a => by
    cases ha : Z a with
    | false => rw [off a ha]
    | true =>
      obtain ⟨o, u, h1, h2, h3⟩ := at_ a ha
      rw [h3, h2]
      simp
  have hokL : HOk X.prog X.w (lockZ Z s.heap H) s.heap := fun a o ea => by
    cases ha : Z a with
    | true =>
      obtain ⟨ob, u, h1, h2, h3⟩ := at_ a ha
      rw [h3] at ea
      cases ea
      exact ⟨h1, h1, ⟨ob, h1⟩, fun h1' h2' q1 q2 => q2 _ q1⟩
    | false =>
      rw [off a ha] at ea
      refine (I.hok a o ea).stay (fun b v _ q => q) (fun b q => ?_) fun b xs q => ?_
      · rw [off b (by cases hb : Z b with | false => rfl | true => exact absurd rfl ((okH_not (hZ b hb) q).1 a))]; exact q
      · rw [off b (by cases hb : Z b with | false => rfl | true => exact absurd rfl ((okH_not (hZ b hb) q).2.1 xs))]; exact q
  have eL : Env0 X.prog X.w X.K X.mg X.base X.A X.stack s (lockZ Z s.heap H) :=
    ⟨e0.frames, e0.mod, fun b o q => ⟨(e0.bs b o q).1, (nn b).mpr (e0.bs b o q).2⟩, e0.bsz, e0.funs, fun b hb => (nn b).mpr (e0.frf b hb), hokL, e0.bare⟩
  refine wpAny_call (codeAny_mono (F.run X.A X.stack s _ ⟨us, []⟩ us vs _ E hr hgd eL (by have := hb s us I.kIn hl; rwa [List.append_nil] at this) r h) fun rr s' hq => ?_)
  cases rr with
  | error e => exact hq.elim
  | ok fl =>
    cases fl with
    | next => exact hq.elim
    | brk => exact hq.elim
    | cont => exact hq.elim
    | ret u =>
      obtain ⟨v, H', os, bare, un, hok, rv, q⟩ := hq
      have keepZ : ∀ a, Z a = true → H' a = lockZ Z s.heap H a := fun a ha => by
        obtain ⟨o, u, h1, h2, h3⟩ := at_ a ha
        rw [h3]
        exact un.frzs _ _ _ h3
      have uoff : ∀ a, Z a = false → unlZ Z H H' a = H' a := fun a ha => by
        unfold unlZ
        rw [if_neg (by rw [ha]; exact Bool.false_ne_true)]
      have uon : ∀ a, Z a = true → unlZ Z H H' a = H a := fun a ha => by
        unfold unlZ
        rw [if_pos ha]
      have un2 : Un (frs X.stack) [] H (unlZ Z H H') s.heap s'.heap := by
        refine ⟨fun b o q n => un.keep b o q ((nn b).mpr n), fun b o q n => un.slot b o q ((nn b).mpr n), fun b o q n hx => ?_, un.there, fun b xs q => ?_, fun b o w q => ?_, fun b pz q => ?_⟩
        · have : Z b = false := by
            cases hb : Z b with
            | false => rfl
            | true => have := hZ b hb; rw [n] at this; cases this
          rw [uoff b this]
          exact un.free b o q ((nn b).mpr n) hx
        · cases hb : Z b with
          | true => rw [uon b hb]; exact q
          | false => rw [uoff b hb]; exact un.tups b xs (by rw [off b hb]; exact q)
        · cases hb : Z b with
          | true => rw [uon b hb]; exact q
          | false => rw [uoff b hb]; exact un.frzs b o w (by rw [off b hb]; exact q)
        · cases hb : Z b with
          | true => exact ⟨#[], by rw [uon b hb, q]; simp⟩
          | false =>
            obtain ⟨m, e⟩ := un.tbls b pz (by rw [off b hb]; exact q)
            exact ⟨m, by rw [uoff b hb]; exact e⟩
      have hok2 : HOk X.prog X.w (unlZ Z H H') s'.heap := fun a o ea => by
        have own : ∀ b c, H' b = some (.own c) → unlZ Z H H' b = some (.own c) := fun b c q => by
          cases hb : Z b with
          | false => rw [uoff b hb]; exact q
          | true =>
            obtain ⟨o, u, h1, h2, h3⟩ := at_ b hb
            rw [keepZ b hb, h3] at q
            cases q
        have tup : ∀ b xs, H' b = some (.tup xs) → unlZ Z H H' b = some (.tup xs) := fun b c q => by
          cases hb : Z b with
          | false => rw [uoff b hb]; exact q
          | true =>
            obtain ⟨o, u, h1, h2, h3⟩ := at_ b hb
            rw [keepZ b hb, h3] at q
            cases q
        cases ha : Z a with
        | false =>
          rw [uoff a ha] at ea
          exact (hok a o ea).stay (fun b v _ q => q) (fun b q => own b a q) fun b xs q => tup b xs q
        | true =>
          rw [uon a ha] at ea
          obtain ⟨ob, u, h1, h2, h3⟩ := at_ a ha
          have h4 := keepZ a ha
          rw [h3] at h4
          obtain ⟨h5, _⟩ := hok a _ h4
          have x0 := I.hok a o ea
          have hz := hZ a ha
          rw [ea] at hz
          have kp : ∀ v, s.heap.get? a = some v → s'.heap.get? a = some v := fun v q => by rw [h1] at q; cases q; exact h5
          cases o with
          | lst xs =>
            obtain ⟨z, its, n, r, e⟩ := x0
            exact ⟨z, its, n, r, kp _ e⟩
          | dK kvs =>
            obtain ⟨z, y, vs, r, oo, es, ep, e, c⟩ := x0
            exact ⟨z, y, vs, r, oo, es, ep, kp _ e, c⟩
          | ext φ =>
            obtain ⟨z, ⟨oo, e⟩, st⟩ := x0
            exact ⟨st _ _ z fun o q => kp _ q, ⟨oo, kp _ e⟩, st⟩
          | _ => simp [okH] at hz
      exact I.after ⟨v, unlZ Z H H', os, bare, un2, hok2, rv, q keepZ⟩
end
end Pv
namespace Pv
open PySem PySem.Spec PyProof.Rows L2

/-! ### what a def does to trees: its result, and what its parameters hold then -/
abbrev FnD := List PV → Option (PV × List PV)
def spI (P : Program) (w : World) (K : PySem.W.Frag) (n : Nat) (d : FnD) : Sp := fun vs H Q _ => vs.length = n ∧ ∃ args F L, Rel P w K (args.map .val) [] (vs.map some) [] F H L ∧ ∃ r as, d args = some (r, as) ∧
  ∀ v F' H' L', Same F F' → Rel P w K (as.map .val) [.val r] (vs.map some) [v] F' H' L' → Q v H'
/-- a def that may be called by its name -/
structure CalG (P : Program) (w : World) (K : PySem.W.Frag) (mg : Str → Option Value) (base : Heap) (k : Nat) (x : Str) (n : Nat) (d : FnD) : Prop where
  ex : ∃ (f : Addr) (fd : FuncData) (ps : List Str), FnG P w K mg base C8.CX0 k f fd ps (spI P w K n d) ∧ mg x = some (.ref f) ∧ PySem.W.keepIn K (.ref f) = true ∧ Binds K fd ps [] ∧ ∀ args r, d args = some r → args.length = n
def tCallZ (sp : Sp) (t : TA) : TE := fun σ H Q => t σ H fun vs H1 => ∃ Z : Addr → Bool, (∀ a, Z a = true → okH (H1 a) = true) ∧ ∀ Hl : Hp, (∀ a, Z a = true → ∃ o, Hl a = some (lkO a o)) → (∀ a, Z a = false → Hl a = H1 a) →
  sp vs Hl (fun v H' => (∀ a, Z a = true → H' a = Hl a) → Q v (unlZ Z H1 H')) C8.E0
section
variable {X : Cx} {k : Nat} {f : Addr} {fd : FuncData} {ps : List Str} {sp : Sp} {x : Str} {p pos : Pos} {e : Expr} {es : List Expr} {t : TA}
theorem pe_callZ (F : FnG X.prog X.w X.K X.mg X.base C8.CX0 k f fd ps sp) (hr : Room k X.A) (hgd : X.A.guards = some []) (hg : Gl X x) (hm : X.mg x = some (.ref f)) (hk : PySem.W.keepIn X.K (.ref f) = true) (hb : Binds X.K fd ps [])
    (ha : PA X (e :: es) t) (hdb : (x == ("__debug__" : Str)) = false := by decide) (he : starEach (e :: es) X.env = (false, eval e X.env) :: starEach es X.env := by rfl) (hpl : (backTo pos (starEach es X.env)).any (·.1) = false := by rfl) :
    PE X (.Call (.Name x p) (e :: es) [] pos) (tCallZ sp t) := by
  refine ⟨fun pins s σ H Q I h => wpAny_Call_Name_kw (ld_glob I hg hm ?_ hdb)⟩
  refine PySem.W.callWith_K (h₀ := X.base) I.ok.mod.kin hk (thn (ha.run pos pins s σ H _ I h) fun us s1 ⟨vs, H1, I1, r, Z, hZ, q⟩ => ⟨I1.kIn, ?_⟩) he hpl
  refine run_fnZ F hr hgd hb I1 r hZ (q (lockZ Z s1.heap H1) (fun a ha => ?_) fun a ha => ?_)
  · have h1 := hZ a ha
    unfold lockZ
    rw [if_pos ha]
    cases e0 : H1 a with
    | none => rw [e0] at h1; cases h1
    | some u =>
      have x0 := I1.hok a u e0
      rw [e0] at h1
      have hg : ∃ o, s1.heap.get? a = some o := by
        cases u with
        | lst xs => obtain ⟨_, _, _, _, q⟩ := x0; exact ⟨_, q⟩
        | dK kvs => obtain ⟨_, _, _, _, o, _, _, q, _⟩ := x0; exact ⟨o, q⟩
        | ext φ => obtain ⟨_, q, _⟩ := x0; exact q
        | _ => simp [okH] at h1
      obtain ⟨o, hg⟩ := hg
      rw [hg]
      exact ⟨o, rfl⟩
  · unfold lockZ
    rw [if_neg (by rw [ha]; exact Bool.false_ne_true)]
end

/-! ### arguments as a def takes them -/
/-- another name stays for a whole slot; a part's is frozen -/
def argE (env : PEnv) : Sl → Option (Sl × PEnv)
  | .val pv => some (.val pv, env)
  | .al j [] => some (.al j [], env)
  | .al j (k :: p) => match frzE env (.al j (k :: p)) with
    | some (q, env1) => some (.val q, env1)
    | none => none
  | .un => none
def argEs : PEnv → PEnv → Option (PEnv × PEnv)
  | env, [] => some ([], env)
  | env, e :: es => match argE env e with
    | some (e', env1) => match argEs env1 es with
      | some (es', env2) => some (e' :: es', env2)
      | none => none
    | none => none
/-- each slot once, whole -/
def dBor : PEnv → Bool
  | [] => true
  | .al j (_ :: _) :: es => false
  | .al j [] :: es => es.all (fun e => match e with
      | .al i _ => i != j
      | _ => true) && dBor es
  | _ :: es => dBor es
def bpos : PEnv → List PV → Nat → Option PV
  | .al j _ :: es, a :: as, i => if j = i then some a else bpos es as i
  | _ :: es, _ :: as, i => bpos es as i
  | _, _, _ => none
def wbS (es : PEnv) (as : List PV) (i : Nat) (e : Sl) : Sl := match bpos es as i with
  | some a => .val a
  | none => match e with
    | .al j p => match bpos es as j with
      | some _ => .un
      | none => .al j p
    | e => e
def wbG (es : PEnv) (as : List PV) : Nat → PEnv → PEnv
  | _, [] => []
  | i, e :: env => wbS es as i e :: wbG es as (i + 1) env
def flatP : PV → Bool
  | .lst _ xs => PV.fzs xs
  | .dct _ _ xs => PV.fzs xs
  | _ => true
def okW : PEnv → List PV → Bool
  | [], [] => true
  | .al _ _ :: es, a :: as => flatP a && okW es as
  | _ :: es, _ :: as => okW es as
  | _, _ => false
def dcallE (f : FnD) (es : PEnv) : D Sl := fun env => match argEs env es with
  | some (es1, env1) => if dBor es1 = true then match conts env1 es1 with
    | some args => match f args with
      | some (r, as) => if okW es1 as = true then .ok (.val r) (wbG es1 as 0 env1) else .no
      | none => .no
    | none => .no
    else .no
  | none => .no
def dcallF (f : FnD) (d : D PEnv) : D Sl := dbind d (dcallE f)

theorem wbG_get {es : PEnv} {as : List PV} : ∀ {env : PEnv} {n i : Nat}, (wbG es as n env)[i]? = (env[i]?).map (wbS es as (n + i))
  | [], n, i => by simp [wbG]
  | e :: env, n, 0 => by simp [wbG]
  | e :: env, n, i + 1 => by
    rw [wbG, List.getElem?_cons_succ, List.getElem?_cons_succ, wbG_get]
    have : n + 1 + i = n + (i + 1) := by omega
    rw [this]
theorem wbG_len {es : PEnv} {as : List PV} : ∀ {env : PEnv} {n : Nat}, (wbG es as n env).length = env.length
  | [], n => rfl
  | e :: env, n => by rw [wbG, List.length_cons, List.length_cons, wbG_len]
theorem bpos_some : ∀ {es : PEnv} {as : List PV} {i : Nat} {a : PV}, dBor es = true → bpos es as i = some a → ∃ k : Nat, es[k]? = some (Sl.al i []) ∧ as[k]? = some a
  | [], as, i, a, hd, h => by cases as <;> simp [bpos] at h
  | e :: es, [], i, a, hd, h => by cases e <;> simp [bpos] at h
  | .val pv :: es, b :: as, i, a, hd, h => by
    rw [bpos] at h
    · obtain ⟨k, h1, h2⟩ := bpos_some (by rw [dBor] at hd; exact hd; all_goals (intros; simp_all)) h
      exact ⟨k + 1, h1, h2⟩
    · intros; simp_all
  | .un :: es, b :: as, i, a, hd, h => by
    rw [bpos] at h
    · obtain ⟨k, h1, h2⟩ := bpos_some (by rw [dBor] at hd; exact hd; all_goals (intros; simp_all)) h
      exact ⟨k + 1, h1, h2⟩
    · intros; simp_all
  | .al j p :: es, b :: as, i, a, hd, h => by
    cases p with
    | cons _ _ => simp [dBor] at hd
    | nil =>
      rw [bpos] at h
      rw [dBor, Bool.and_eq_true] at hd
      by_cases hj : j = i
      · rw [if_pos hj] at h
        cases h
        exact ⟨0, by rw [hj]; rfl, rfl⟩
      · rw [if_neg hj] at h
        obtain ⟨k, h1, h2⟩ := bpos_some hd.2 h
        exact ⟨k + 1, h1, h2⟩
theorem dBor_nil : ∀ {es : PEnv} {k j : Nat} {p : Path}, dBor es = true → es[k]? = some (.al j p) → p = []
  | [], k, j, p, hd, h => by simp at h
  | e :: es, 0, j, p, hd, h => by
    cases Option.some.inj h
    cases p with
    | nil => rfl
    | cons _ _ => simp [dBor] at hd
  | e :: es, k + 1, j, p, hd, h => by
    refine dBor_nil (es := es) (k := k) ?_ (by simpa using h)
    cases e with
    | val _ => simpa [dBor] using hd
    | un => simpa [dBor] using hd
    | al i q =>
      cases q with
      | nil => rw [dBor, Bool.and_eq_true] at hd; exact hd.2
      | cons _ _ => simp [dBor] at hd
theorem dBor_inj : ∀ {es : PEnv} {k k' j : Nat} {p p' : Path}, dBor es = true → es[k]? = some (.al j p) → es[k']? = some (.al j p') → k = k'
  | [], k, k', j, p, p', hd, h, h' => by simp at h
  | e :: es, 0, 0, j, p, p', hd, h, h' => rfl
  | e :: es, k + 1, k' + 1, j, p, p', hd, h, h' => by
    refine congrArg (· + 1) (dBor_inj (es := es) ?_ (by simpa using h) (by simpa using h'))
    cases e with
    | val _ => simpa [dBor] using hd
    | un => simpa [dBor] using hd
    | al i q =>
      cases q with
      | nil => rw [dBor, Bool.and_eq_true] at hd; exact hd.2
      | cons _ _ => simp [dBor] at hd
  | e :: es, 0, k' + 1, j, p, p', hd, h, h' => by
    cases Option.some.inj h
    cases p with
    | cons _ _ => simp [dBor] at hd
    | nil =>
      rw [dBor, Bool.and_eq_true, List.all_eq_true] at hd
      have := hd.1 _ (List.mem_of_getElem? (show es[k']? = some (.al j p') by simpa using h'))
      simp at this
  | e :: es, k + 1, 0, j, p, p', hd, h, h' => by
    cases Option.some.inj h'
    cases p' with
    | cons _ _ => simp [dBor] at hd
    | nil =>
      rw [dBor, Bool.and_eq_true, List.all_eq_true] at hd
      have := hd.1 _ (List.mem_of_getElem? (show es[k]? = some (.al j p) by simpa using h))
      simp at this
theorem okW_len : ∀ {es : PEnv} {as : List PV}, okW es as = true → es.length = as.length
  | [], [], h => rfl
  | [], _ :: _, h => by simp [okW] at h
  | e :: es, [], h => by cases e <;> simp [okW] at h
  | .al _ _ :: es, a :: as, h => by rw [okW, Bool.and_eq_true] at h; simp [okW_len h.2]
  | .val _ :: es, a :: as, h => by rw [okW] at h; simp [okW_len h]; all_goals (intros; simp_all)
  | .un :: es, a :: as, h => by rw [okW] at h; simp [okW_len h]; all_goals (intros; simp_all)
theorem okW_flat : ∀ {es : PEnv} {as : List PV} {k j : Nat} {p : Path} {a : PV}, okW es as = true → es[k]? = some (.al j p) → as[k]? = some a → flatP a = true
  | [], as, k, j, p, a, h, h1, h2 => by simp at h1
  | e :: es, [], k, j, p, a, h, h1, h2 => by simp at h2
  | .al _ _ :: es, b :: as, 0, j, p, a, h, h1, h2 => by
    rw [okW, Bool.and_eq_true] at h
    cases Option.some.inj h2
    exact h.1
  | .al _ _ :: es, b :: as, k + 1, j, p, a, h, h1, h2 => by
    rw [okW, Bool.and_eq_true] at h
    exact okW_flat h.2 (by simpa using h1) (by simpa using h2)
  | .val _ :: es, b :: as, 0, j, p, a, h, h1, h2 => by cases Option.some.inj h1
  | .un :: es, b :: as, 0, j, p, a, h, h1, h2 => by cases Option.some.inj h1
  | .val _ :: es, b :: as, k + 1, j, p, a, h, h1, h2 => by
    rw [okW] at h
    · exact okW_flat h (by simpa using h1) (by simpa using h2)
    · intros; simp_all
  | .un :: es, b :: as, k + 1, j, p, a, h, h1, h2 => by
    rw [okW] at h
    · exact okW_flat h (by simpa using h1) (by simpa using h2)
    · intros; simp_all
theorem bpos_of : ∀ {es : PEnv} {as : List PV} {k j : Nat} {p : Path}, es.length = as.length → es[k]? = some (.al j p) → ∃ a, bpos es as j = some a
  | [], as, k, j, p, hl, h => by simp at h
  | e :: es, [], k, j, p, hl, h => by simp at hl
  | e :: es, b :: as, 0, j, p, hl, h => by
    cases Option.some.inj h
    exact ⟨b, by rw [bpos, if_pos rfl]⟩
  | e :: es, b :: as, k + 1, j, p, hl, h => by
    obtain ⟨a, ha⟩ := bpos_of (es := es) (as := as) (k := k) (j := j) (p := p) (by simpa using hl) (by simpa using h)
    cases e with
    | al i q =>
      rw [bpos]
      by_cases hj : i = j
      · rw [if_pos hj]; exact ⟨b, rfl⟩
      · rw [if_neg hj]; exact ⟨a, ha⟩
    | val _ => exact ⟨a, by rw [bpos]; exact ha; all_goals (intros; simp_all)⟩
    | un => exact ⟨a, by rw [bpos]; exact ha; all_goals (intros; simp_all)⟩
theorem flat_at {a x : PV} {k : Nat} {p : Path} (h : flatP a = true) (e : a.at (k :: p) = some x) : x.fz = true := by
  cases a with
  | lst o xs =>
    rw [at_lst] at e
    cases e1 : xs[k]? with
    | none => rw [e1] at e; cases e
    | some y => rw [e1] at e; exact at_fz p y x (PV.fzs_mem h (List.mem_of_getElem? e1)) e
  | dct o ks xs =>
    rw [at_dct] at e
    cases e1 : xs[k]? with
    | none => rw [e1] at e; cases e
    | some y => rw [e1] at e; exact at_fz p y x (PV.fzs_mem h (List.mem_of_getElem? e1)) e
  | _ => simp [PV.at] at e
end Pv
namespace Pv
open PySem PySem.Spec PyProof.Rows L2

/-- the root of an argument among the caller's -/
def rtE (n0 k : Nat) : Sl → Nat
  | .al j _ => 2 * j
  | _ => 2 * (n0 + k) + 1
open Classical in
noncomputable def lcR (es : PEnv) (n0 : Nat) (L : Lab) : Lab := fun a => match L a with
  | some (r :: s) => if h : ∃ (k : Nat) (e : Sl), es[k]? = some e ∧ rtE n0 k e = r then some (2 * h.choose :: s) else none
  | _ => none
/-- a root of the caller's in use -/
def rtOk (n0 : Nat) : Option Path → Bool
  | some (x :: _) => x % 2 == 0 || decide (x < 2 * n0)
  | some [] => true
  | none => false
noncomputable def zR (es : PEnv) (n0 : Nat) (L : Lab) (H : Hp) : Addr → Bool := fun a => rtOk n0 (L a) && (lcR es n0 L a).isNone && okH (H a)
open Classical in
noncomputable def lbR (es : PEnv) (n0 : Nat) (L L' : Lab) (Z : Addr → Bool) : Lab := fun a => if Z a = true then L a else match L' a with
  | some (x :: s) => if x = 1 then some ((2 * n0 + 1) :: s) else if h : ∃ j k p, x = 2 * k ∧ es[k]? = some (.al j p) then some (2 * h.choose :: s) else none
  | _ => none
def drF (Z : Addr → Bool) (F : Hp) : Hp := fun a => if Z a = true then none else F a
theorem rtE_inj {es : PEnv} {n0 k k' : Nat} {e e' : Sl} (hd : dBor es = true) (h : es[k]? = some e) (h' : es[k']? = some e') (hr : rtE n0 k e = rtE n0 k' e') : k = k' := by
  cases e with
  | al j p =>
    cases e' with
    | al j' p' =>
      have : j = j' := by simp only [rtE] at hr; omega
      subst this
      exact dBor_inj hd h h'
    | _ => simp only [rtE] at hr; omega
  | _ => cases e' <;> (simp only [rtE] at hr; omega)
theorem lcR_of {es : PEnv} {n0 k : Nat} {e : Sl} {L : Lab} {a : Addr} {s : Path} (hd : dBor es = true) (h : es[k]? = some e) (l : L a = some (rtE n0 k e :: s)) : lcR es n0 L a = some (2 * k :: s) := by
  have hx : ∃ (k' : Nat) (e' : Sl), es[k']? = some e' ∧ rtE n0 k' e' = rtE n0 k e := ⟨k, e, h, rfl⟩
  unfold lcR
  rw [l]
  dsimp only
  rw [dif_pos hx]
  obtain ⟨e', h1, h2⟩ := hx.choose_spec
  rw [rtE_inj hd h1 h h2]
theorem lcR_some {es : PEnv} {n0 : Nat} {L : Lab} {a : Addr} {q : Path} (h : lcR es n0 L a = some q) : ∃ q', L a = some q' := by
  unfold lcR at h
  cases e : L a with
  | none => rw [e] at h; cases h
  | some q => exact ⟨q, rfl⟩
theorem lcR_inv {es : PEnv} {n0 : Nat} {L : Lab} {a : Addr} {q : Path} (h : lcR es n0 L a = some q) : ∃ k e s, es[k]? = some e ∧ L a = some (rtE n0 k e :: s) ∧ q = 2 * k :: s := by
  unfold lcR at h
  cases e : L a with
  | none => rw [e] at h; cases h
  | some z =>
    rw [e] at h
    cases z with
    | nil => cases h
    | cons r s =>
      dsimp only at h
      by_cases hx : ∃ (k' : Nat) (e' : Sl), es[k']? = some e' ∧ rtE n0 k' e' = r
      · rw [dif_pos hx] at h
        cases h
        obtain ⟨e', h1, h2⟩ := hx.choose_spec
        exact ⟨_, e', s, h1, by rw [h2], rfl⟩
      · rw [dif_neg hx] at h; cases h
theorem lcR_inj {es : PEnv} {n0 : Nat} {L : Lab} (inj : ∀ a b q, L a = some q → L b = some q → a = b) : ∀ a b q, lcR es n0 L a = some q → lcR es n0 L b = some q → a = b := fun a b q h1 h2 => by
  obtain ⟨k, e, s, e1, e2, rfl⟩ := lcR_inv h1
  obtain ⟨k', e', s', e3, e4, e5⟩ := lcR_inv h2
  injection e5 with e6 e7
  have : k = k' := by omega
  subst this e7
  rw [e1] at e3
  cases e3
  exact inj _ _ _ e2 e4
theorem lbR_inv {es : PEnv} {n0 : Nat} {L L' : Lab} {Z : Addr → Bool} {a : Addr} {q : Path} (h : lbR es n0 L L' Z a = some q) :
    (Z a = true ∧ L a = some q) ∨ (Z a = false ∧ ∃ x s, L' a = some (x :: s) ∧ ((x = 1 ∧ q = (2 * n0 + 1) :: s) ∨ ∃ j k p, x = 2 * k ∧ es[k]? = some (.al j p) ∧ q = 2 * j :: s)) := by
  unfold lbR at h
  cases hz : Z a with
  | true => rw [hz, if_pos rfl] at h; exact .inl ⟨rfl, h⟩
  | false =>
    rw [hz, if_neg Bool.false_ne_true] at h
    refine .inr ⟨rfl, ?_⟩
    cases e : L' a with
    | none => rw [e] at h; cases h
    | some z =>
      rw [e] at h
      cases z with
      | nil => cases h
      | cons x s =>
        dsimp only at h
        refine ⟨x, s, rfl, ?_⟩
        by_cases h1 : x = 1
        · rw [if_pos h1] at h; cases h; exact .inl ⟨h1, rfl⟩
        · rw [if_neg h1] at h
          by_cases hx : ∃ j k p, x = 2 * k ∧ es[k]? = some (Sl.al j p)
          · rw [dif_pos hx] at h
            cases h
            obtain ⟨k, p, e1, e2⟩ := hx.choose_spec
            exact .inr ⟨_, k, p, e1, e2, rfl⟩
          · rw [dif_neg hx] at h; cases h
theorem lcR_none {es : PEnv} {n0 r : Nat} {L : Lab} {a : Addr} {s : Path} (l : L a = some (r :: s)) (h : ∀ (k : Nat) e, es[k]? = some e → rtE n0 k e ≠ r) : lcR es n0 L a = none := by
  unfold lcR
  rw [l]
  dsimp only
  rw [dif_neg]
  rintro ⟨k, e, h1, h2⟩
  exact h k e h1 h2
theorem argE_rel {P : Program} {w : World} {K : PySem.W.Frag} : ∀ {es pre : PEnv} {xs px : List V} {env env' : PEnv} {F H : Hp} {L : Lab} {σ : L2.St} {es' : PEnv}, Rel P w K env (pre ++ es) σ (px ++ xs) F H L → pre.length = px.length → argEs env es = some (es', env') →
    ∃ F' L', Same F F' ∧ Rel P w K env' (pre ++ es') σ (px ++ xs) F' H L' ∧ es'.length = es.length
  | [], pre, xs, px, env, env', F, H, L, σ, es', R, hl, h => by
    cases h
    exact ⟨F, L, Same.refl F, R, rfl⟩
  | e :: es, pre, [], px, env, env', F, H, L, σ, es', R, hl, h => by
    have := R.tlen
    simp at this
    omega
  | e :: es, pre, x :: xs, px, env, env', F, H, L, σ, es', R, hl, h => by
    have step : ∀ {e' : Sl} {env1 : PEnv} {F1 : Hp} {L1 : Lab}, Same F F1 → Rel P w K env1 (pre ++ e' :: es) σ (px ++ x :: xs) F1 H L1 → argE env e = some (e', env1) → ∃ F' L', Same F F' ∧ Rel P w K env' (pre ++ es') σ (px ++ x :: xs) F' H L' ∧ es'.length = (e :: es).length := fun {e' env1 F1 L1} k1 R1 e1 => by
      rw [argEs, e1] at h
      dsimp only at h
      cases e2 : argEs env1 es with
      | none => rw [e2] at h; cases h
      | some r2 =>
        obtain ⟨es2, env2⟩ := r2
        rw [e2] at h
        cases h
        have R1' : Rel P w K env1 ((pre ++ [e']) ++ es) σ ((px ++ [x]) ++ xs) F1 H L1 := by simpa using R1
        obtain ⟨F2, L2, k2, R2, h2⟩ := argE_rel R1' (by simp [hl]) e2
        exact ⟨F2, L2, k1.trans k2, by simpa using R2, by simp [h2]⟩
    cases e with
    | val pv => exact step (Same.refl F) R rfl
    | un => rw [argEs] at h; cases h
    | al j q =>
      cases q with
      | nil => exact step (Same.refl F) R rfl
      | cons k q =>
        cases e1 : frzE env (.al j (k :: q)) with
        | none => rw [argEs, argE, e1] at h; cases h
        | some r =>
          obtain ⟨p, env1⟩ := r
          obtain ⟨F1, L1, k1, R1⟩ := R.frzAt (i := pre.length) (v := x) (by simp) (by rw [hl]; simp) e1
          have hs : (pre ++ Sl.al j (k :: q) :: es).set pre.length (.val p) = pre ++ .val p :: es := by simp
          rw [hs] at R1
          exact step k1 R1 (by rw [argE, e1])
theorem conts_get {env : PEnv} : ∀ {es : PEnv} {ps : List PV}, conts env es = some ps → es.length = ps.length ∧ ∀ (k : Nat) e, es[k]? = some e → ∃ p, ps[k]? = some p ∧ cont env e = some p
  | [], ps, h => by cases h; exact ⟨rfl, fun k e h => by simp at h⟩
  | e :: es, ps, h => by
    rw [conts] at h
    cases e1 : cont env e with
    | none => rw [e1] at h; cases h
    | some p =>
      cases e2 : conts env es with
      | none => rw [e1, e2] at h; cases h
      | some ps' =>
        rw [e1, e2] at h
        cases h
        obtain ⟨h1, h2⟩ := conts_get e2
        refine ⟨by simp [h1], fun k e' h => ?_⟩
        cases k with
        | zero => cases Option.some.inj h; exact ⟨p, rfl, e1⟩
        | succ k => obtain ⟨p', h3, h4⟩ := h2 k e' (by simpa using h); exact ⟨p', by simpa using h3, h4⟩
section
variable {P : Program} {w : World} {K : PySem.W.Frag} {F F' H H' Hl : Hp} {L L' : Lab} {env env' tm tm' es : PEnv} {σ σ' : L2.St} {τ τ' vs : List V} {args as : List PV} {r : PV} {v : V}
/-- into the def -/
theorem Rel.enter (R : Rel P w K env (tm ++ es) σ (τ ++ vs) F H L) (hl : tm.length = τ.length) (hd : dBor es = true) (hc : conts env es = some args)
    (off : ∀ a, zR es tm.length L H a = false → Hl a = H a) : Rel P w K (args.map .val) [] (vs.map some) [] F Hl (lcR es tm.length L) := by
  obtain ⟨hlen, hget⟩ := conts_get hc
  have hlv : es.length = vs.length := by have := R.tlen; simp at this; omega
  have zF : ∀ a, L a = none → zR es tm.length L H a = false := fun a e => by unfold zR; rw [e]; rfl
  have zC : ∀ a q, lcR es tm.length L a = some q → zR es tm.length L H a = false := fun a q e => by unfold zR; rw [e]; simp
  refine ⟨fun a o e => ?_, fun a p e => ?_, fun a p e => ?_, by simp [← hlen, hlv], fun i e he hu => ?_, rfl, fun i e v he _ => by simp at he, lcR_inj R.inj, fun i v j q he _ _ => by simp at he⟩
  · have : L a = none := by
      cases e1 : L a with
      | none => rfl
      | some q => have := R.lf a q e1; rw [e] at this; cases this
    rw [off a (zF a this)]
    exact R.fle a o e
  · obtain ⟨q, hq⟩ := lcR_some e
    exact R.lf a q hq
  · obtain ⟨q, hq⟩ := lcR_some e
    rw [off a (zC a p e)]
    exact R.lh a q hq
  · rw [List.getElem?_map] at he
    cases e1 : args[i]? with
    | none => rw [e1] at he; cases he
    | some pv =>
      rw [e1] at he
      cases he
      have hi : i < args.length := (List.getElem?_eq_some_iff.mp e1).1
      obtain ⟨en, hen⟩ : ∃ en, es[i]? = some en := ⟨_, List.getElem?_eq_getElem (by omega)⟩
      obtain ⟨u, hu⟩ : ∃ u, vs[i]? = some u := ⟨_, List.getElem?_eq_getElem (by omega)⟩
      obtain ⟨pv', h1, h2⟩ := hget i en hen
      rw [e1] at h1
      cases h1
      refine ⟨u, by rw [List.getElem?_map, hu]; rfl, ?_⟩
      have tr : RepO P w K F H L [rtE tm.length i en] pv u → RepO P w K F Hl (lcR es tm.length L) [2 * i] pv u := fun h =>
        RepO.tr (Same.refl F) pv _ _ u (fun a s l => ⟨lcR_of hd hen l, off a (zC a _ (lcR_of hd hen l))⟩) h
      have he2 := tm_get R hlv hen hu
      cases en with
      | un => cases h2
      | val q => cases h2; exact tr he2
      | al j p =>
        obtain rfl := dBor_nil hd hen
        exact tr (he2 pv h2)
/-- and back -/
theorem Rel.leave {Z : Addr → Bool} (R : Rel P w K env (tm ++ es) σ (τ ++ vs) F H L) (hl : tm.length = τ.length) (hd : dBor es = true) (hc : conts env es = some args) (hZ : Z = zR es tm.length L H) (hlk : ∀ a, Z a = true → ∃ o, Hl a = some (lkO a o))
    (R' : Rel P w K (as.map .val) [.val r] (vs.map some) [v] F' H' L') (k : Same F F') (hk : ∀ a, Z a = true → H' a = Hl a) (hw : okW es as = true) :
    ∃ F2 L2, Same F F2 ∧ Rel P w K (wbG es as 0 env) (tm ++ [.val r]) σ (τ ++ [v]) F2 (unlZ Z H H') L2 := by
  obtain ⟨hlen, hget⟩ := conts_get hc
  have hlv : es.length = vs.length := by have := R.tlen; simp at this; omega
  have zL : ∀ a, Z a = true → (∃ q, L a = some q) ∧ lcR es tm.length L a = none ∧ okH (H a) = true := fun a h => by
    rw [hZ] at h
    unfold zR at h
    rw [Bool.and_eq_true, Bool.and_eq_true] at h
    refine ⟨?_, by simpa using h.1.2, h.2⟩
    cases e : L a with
    | none => rw [e] at h; cases h.1.1
    | some q => exact ⟨q, rfl⟩
  have zRt : ∀ a, Z a = true → rtOk tm.length (L a) = true := fun a h => by
    rw [hZ] at h
    unfold zR at h
    rw [Bool.and_eq_true, Bool.and_eq_true] at h
    exact h.1.1
  have zOn : ∀ a x s, L a = some (x :: s) → (x % 2 = 0 ∨ x < 2 * tm.length) → lcR es tm.length L a = none → okH (H a) = true → Z a = true := fun a x s h1 hx h2 h3 => by
    rw [hZ]
    unfold zR
    rw [h1, h2, h3]
    have : rtOk tm.length (some (x :: s)) = true := by
      rcases hx with hx | hx <;> simp [rtOk, hx]
    rw [this]
    rfl
  have on : ∀ a, Z a = true → unlZ Z H H' a = H a := fun a h => by unfold unlZ; rw [if_pos h]
  have off : ∀ a, Z a = false → unlZ Z H H' a = H' a := fun a h => by unfold unlZ; rw [if_neg (by rw [h]; exact Bool.false_ne_true)]
  have zf : ∀ a o, F a = some o → Z a = false := fun a o e => by
    cases h : Z a with
    | false => rfl
    | true =>
      obtain ⟨⟨q, hq⟩, _⟩ := zL a h
      rw [R.lf a q hq] at e
      cases e
  have zk : ∀ a, okH (H' a) = true → Z a = false := fun a h => by
    cases hz : Z a with
    | false => rfl
    | true =>
      obtain ⟨o, e⟩ := hlk a hz
      rw [hk a hz, e] at h
      cases h
  have msk : Msk F' (drF Z F') := fun a o e => by
    cases hz : Z a with
    | false => exact .inr (by unfold drF; rw [if_neg (by rw [hz]; exact Bool.false_ne_true)]; exact e)
    | true =>
      obtain ⟨ob, e2⟩ := hlk a hz
      have := R'.fle a o e
      rw [hk a hz, e2] at this
      exact .inl ⟨ob, (Option.some.inj this).symm⟩
  have mskF : Msk F (drF Z F') := fun a o e => .inr (by unfold drF; rw [if_neg (by rw [zf a o e]; exact Bool.false_ne_true)]; exact k a o e)
  -- what is carried over from the caller's side
  have old : ∀ {x : Nat} {q : PV} {p : Path} {u : V}, (x % 2 = 0 ∨ x < 2 * tm.length) → (∀ (k : Nat) e, es[k]? = some e → rtE tm.length k e ≠ x) → RepO P w K F H L (x :: p) q u →
      RepO P w K (drF Z F') (unlZ Z H H') (lbR es tm.length L L' Z) (x :: p) q u := fun {x q p u} hr hx h =>
    RepO.trM mskF q (x :: p) (x :: p) u (fun a s l ok => by
      have hz := zOn a x (p ++ s) l hr (lcR_none (r := x) (s := p ++ s) l hx) ok
      exact ⟨by unfold lbR; rw [if_pos hz]; exact l, on a hz⟩) h
  -- what comes back in a parameter
  have prm : ∀ {i j : Nat} {p : Path} {q : PV} {u : V}, es[i]? = some (.al j p) → RepO P w K F' H' L' [2 * i] q u → RepO P w K (drF Z F') (unlZ Z H H') (lbR es tm.length L L' Z) [2 * j] q u := fun {i j p q u} hi h =>
    RepO.trM msk q [2 * i] [2 * j] u (fun a s l ok => by
      have hz := zk a ok
      have hx : ∃ j' k p, 2 * i = 2 * k ∧ es[k]? = some (Sl.al j' p) := ⟨j, i, p, rfl, hi⟩
      refine ⟨?_, off a hz⟩
      unfold lbR
      rw [if_neg (by rw [hz]; exact Bool.false_ne_true), l]
      have hne : ¬ 2 * i = 1 := by omega
      show (if 2 * i = 1 then _ else _) = _
      rw [if_neg hne, dif_pos hx]
      obtain ⟨k', p', h1, h2⟩ := hx.choose_spec
      have : k' = i := by omega
      subst this
      rw [hi] at h2
      have h3 := Option.some.inj h2
      injection h3 with h4 h5
      rw [← h4]
      rfl) h
  have slotOf : ∀ {i j : Nat} {p : Path}, es[i]? = some (.al j p) → ∃ u q, vs[i]? = some u ∧ σ[j]? = some (some u) ∧ look env j [] = some q := fun {i j p} hi => by
    obtain rfl := dBor_nil hd hi
    have hil := (List.getElem?_eq_some_iff.mp hi).1
    obtain ⟨u, hu⟩ : ∃ u, vs[i]? = some u := ⟨_, List.getElem?_eq_getElem (by omega)⟩
    obtain ⟨q, _, h2⟩ := hget i _ hi
    refine ⟨u, q, hu, R.ali (tm.length + i) u j q ?_ ?_ h2, h2⟩
    · rw [List.getElem?_append_right (by omega)]; simpa using hi
    · rw [List.getElem?_append_right (by omega)]; simpa [hl] using hu
  have prmV : ∀ {i j : Nat} {p : Path} {a : PV} {u : V}, es[i]? = some (.al j p) → as[i]? = some a → vs[i]? = some u → RepO P w K (drF Z F') (unlZ Z H H') (lbR es tm.length L L' Z) [2 * j] a u := fun {i j p a u} h1 h2 h3 => by
    obtain ⟨u', h4, h5⟩ := R'.slot i (.val a) (by rw [List.getElem?_map, h2]; rfl) (by simp)
    rw [List.getElem?_map, h3] at h4
    cases h4
    exact prm h1 h5
  have nbS : ∀ {i : Nat}, bpos es as i = none → ∀ (k : Nat) e, es[k]? = some e → rtE tm.length k e ≠ 2 * i := fun {i} hb k e he hr => by
    cases e with
    | al j p =>
      obtain ⟨a, ha⟩ := bpos_of (as := as) (okW_len hw) he
      have : j = i := by simp only [rtE] at hr; omega
      rw [this, hb] at ha
      cases ha
    | _ => simp only [rtE] at hr; omega
  have nbT : ∀ {m : Nat}, m < tm.length → ∀ (k : Nat) e, es[k]? = some e → rtE tm.length k e ≠ 2 * m + 1 := fun {m} hm k e he hr => by
    cases e <;> (simp only [rtE] at hr; omega)
  -- other names
  have alOk : ∀ {i : Nat} {p : Path} {u : V}, (∀ q, look env i p = some q → RepO P w K F H L (2 * i :: p) q u) → (p = [] → ∀ q, look env i [] = some q → σ[i]? = some (some u)) →
      ∀ q, look (wbG es as 0 env) i p = some q → RepO P w K (drF Z F') (unlZ Z H H') (lbR es tm.length L L' Z) (2 * i :: p) q u := fun {i p u} h hs q hq => by
    obtain ⟨y, e1, e2, e3⟩ := look_some hq
    rw [wbG_get, Nat.zero_add] at e1
    cases e4 : env[i]? with
    | none => rw [e4] at e1; cases e1
    | some s0 =>
      rw [e4, Option.map_some] at e1
      have e1 := Option.some.inj e1
      unfold wbS at e1
      cases hb : bpos es as i with
      | none =>
        rw [hb] at e1
        have hy : s0 = .val y := by
          cases s0 with
          | un => cases e1
          | val _ => exact e1
          | al j' p' =>
            dsimp only at e1
            split at e1 <;> cases e1
        subst hy
        exact old (.inl (by omega)) (nbS hb) (h q (look_of e4 e2 e3))
      | some a =>
        rw [hb] at e1
        cases e1
        obtain ⟨k', h1, h2⟩ := bpos_some hd hb
        cases p with
        | cons c p => rw [flat_at (okW_flat hw h1 h2) e2] at e3; cases e3
        | nil =>
          rw [PV.at] at e2
          cases e2
          obtain ⟨u', q', h3, h4, h5⟩ := slotOf h1
          have := hs rfl q' h5
          rw [h4] at this
          cases this
          exact prmV h1 h2 h3
  refine ⟨drF Z F', lbR es tm.length L L' Z, fun a o e => ?_, fun a o e => ?_, fun a p e => ?_, fun a p e => ?_, by rw [wbG_len]; exact R.len, fun i e he hu => ?_, by simp [hl], fun m e u he hu => ?_, fun a b q ha hb => ?_, fun m u j q he hu hq => ?_⟩
  · unfold drF
    rw [if_neg (by rw [zf a o e]; exact Bool.false_ne_true)]
    exact k a o e
  · unfold drF at e
    by_cases hz : Z a = true
    · rw [if_pos hz] at e; cases e
    · rw [if_neg hz] at e
      rw [off a (by simpa using hz)]
      exact R'.fle a o e
  · unfold drF
    by_cases hz : Z a = true
    · rw [if_pos hz]
    · rw [if_neg hz]
      unfold lbR at e
      rw [if_neg hz] at e
      cases e1 : L' a with
      | none => rw [e1] at e; cases e
      | some q => exact R'.lf a q e1
  · by_cases hz : Z a = true
    · rw [on a hz]
      have h3 := (zL a hz).2.2
      cases e1 : H a with
      | none => rw [e1] at h3; cases h3
      | some o => exact ⟨o, rfl⟩
    · rw [off a (by simpa using hz)]
      unfold lbR at e
      rw [if_neg hz] at e
      cases e1 : L' a with
      | none => rw [e1] at e; cases e
      | some q => exact R'.lh a q e1
  · rw [wbG_get, Nat.zero_add] at he
    cases e4 : env[i]? with
    | none => rw [e4] at he; cases he
    | some s0 =>
      rw [e4, Option.map_some] at he
      have he := Option.some.inj he
      unfold wbS at he
      cases hb : bpos es as i with
      | some a =>
        rw [hb] at he
        cases he
        obtain ⟨k', h1, h2⟩ := bpos_some hd hb
        obtain ⟨u, q, h3, h4, _⟩ := slotOf h1
        exact ⟨u, h4, prmV h1 h2 h3⟩
      | none =>
        rw [hb] at he
        cases s0 with
        | un => exact absurd he.symm hu
        | val y =>
          cases he
          obtain ⟨u, h1, h2⟩ := R.slot i _ e4 (by simp)
          exact ⟨u, h1, old (.inl (by omega)) (nbS hb) h2⟩
        | al j p =>
          dsimp only at he
          cases hbj : bpos es as j with
          | some a => rw [hbj] at he; exact absurd he.symm hu
          | none =>
            rw [hbj] at he
            cases he
            obtain ⟨u, h1, h2⟩ := R.slot i _ e4 (by simp)
            refine ⟨u, h1, ?_⟩
            intro q hq
            obtain ⟨y, f1, f2, f3⟩ := look_some hq
            rw [wbG_get, Nat.zero_add] at f1
            cases f4 : env[j]? with
            | none => rw [f4] at f1; cases f1
            | some s1 =>
              rw [f4, Option.map_some] at f1
              have f1 := Option.some.inj f1
              unfold wbS at f1
              rw [hbj] at f1
              have hy : s1 = .val y := by
                cases s1 with
                | un => cases f1
                | val _ => exact f1
                | al j' p' =>
                  dsimp only at f1
                  split at f1 <;> cases f1
              subst hy
              exact old (.inl (by omega)) (nbS hbj) (h2 q (look_of f4 f2 f3))
  · by_cases hm : m < tm.length
    · rw [List.getElem?_append_left hm] at he
      rw [List.getElem?_append_left (by omega)] at hu
      have he' : (tm ++ es)[m]? = some e := by rw [List.getElem?_append_left hm]; exact he
      have hu' : (τ ++ vs)[m]? = some u := by rw [List.getElem?_append_left (by omega)]; exact hu
      have h := R.tmp m e u he' hu'
      cases e with
      | un => trivial
      | val y => exact old (.inr (by omega)) (nbT hm) h
      | al i p => exact alOk h fun hp q hq => by subst hp; exact R.ali m u i q he' hu' hq
    · have hm' : m = tm.length := by
        have := (List.getElem?_eq_some_iff.mp he).1
        simp at this
        omega
      subst hm'
      have e1 : e = .val r := by simpa using he.symm
      have e2 : u = v := by
        rw [hl] at hu
        simpa using hu.symm
      subst e1 e2
      refine RepO.trM msk r [1] _ u (fun a s l ok => ?_) (R'.tmp 0 (.val r) u rfl rfl)
      have hz := zk a ok
      refine ⟨?_, off a hz⟩
      unfold lbR
      rw [if_neg (by rw [hz]; exact Bool.false_ne_true), l]
      rfl
  · have cross : ∀ {a b : Addr} {q : Path}, Z a = true → L a = some q → (∃ x s, L' b = some (x :: s) ∧ ((x = 1 ∧ q = (2 * tm.length + 1) :: s) ∨ ∃ j k p, x = 2 * k ∧ es[k]? = some (.al j p) ∧ q = 2 * j :: s)) → False := fun {a b q} hz hq h => by
      obtain ⟨x, s, _, ⟨_, rfl⟩ | ⟨j, k', p, _, e2, rfl⟩⟩ := h
      · have := zRt a hz
        rw [hq] at this
        unfold rtOk at this
        rw [Bool.or_eq_true, beq_iff_eq, decide_eq_true_eq] at this
        omega
      · have h1 := lcR_of (n0 := tm.length) hd e2 hq
        rw [(zL a hz).2.1] at h1
        cases h1
    rcases lbR_inv ha with ⟨h1, h2⟩ | ⟨h1, h2⟩
    · rcases lbR_inv hb with ⟨h3, h4⟩ | ⟨h3, h4⟩
      · exact R.inj a b q h2 h4
      · exact (cross h1 h2 h4).elim
    · rcases lbR_inv hb with ⟨h3, h4⟩ | ⟨h3, h4⟩
      · exact (cross h3 h4 h2).elim
      · obtain ⟨x, s, e1, e2⟩ := h2
        obtain ⟨x', s', e3, e4⟩ := h4
        rcases e2 with ⟨rfl, rfl⟩ | ⟨j, k1, p, rfl, e5, rfl⟩
        · rcases e4 with ⟨rfl, e6⟩ | ⟨j', k2, p', rfl, e7, e6⟩
          · injection e6 with _ e6
            subst e6
            exact R'.inj a b _ e1 e3
          · injection e6 with e6 _
            omega
        · rcases e4 with ⟨rfl, e6⟩ | ⟨j', k2, p', rfl, e7, e6⟩
          · injection e6 with e6 _
            omega
          · injection e6 with e6 e8
            have : j = j' := by omega
            subst this e8
            have := dBor_inj hd e5 e7
            subst this
            exact R'.inj a b _ e1 e3
  · by_cases hm : m < tm.length
    · rw [List.getElem?_append_left hm] at he
      rw [List.getElem?_append_left (by omega)] at hu
      have he' : (tm ++ es)[m]? = some (.al j []) := by rw [List.getElem?_append_left hm]; exact he
      have hu' : (τ ++ vs)[m]? = some u := by rw [List.getElem?_append_left (by omega)]; exact hu
      obtain ⟨y, f1, f2, f3⟩ := look_some hq
      rw [wbG_get, Nat.zero_add] at f1
      cases f4 : env[j]? with
      | none => rw [f4] at f1; cases f1
      | some s1 =>
        rw [f4, Option.map_some] at f1
        have f1 := Option.some.inj f1
        unfold wbS at f1
        cases hb : bpos es as j with
        | some a =>
          obtain ⟨k', h1, h2⟩ := bpos_some hd hb
          obtain ⟨u', q', h3, h4, h5⟩ := slotOf h1
          exact R.ali m u j q' he' hu' h5
        | none =>
          rw [hb] at f1
          have hy : s1 = .val y := by
            cases s1 with
            | un => cases f1
            | val _ => exact f1
            | al j' p' =>
              dsimp only at f1
              split at f1 <;> cases f1
          subst hy
          exact R.ali m u j q he' hu' (look_of f4 f2 f3)
    · rw [List.getElem?_append_right (by omega)] at he
      cases hx : m - tm.length with
      | zero => rw [hx] at he; cases he
      | succ n => rw [hx] at he; cases he
end
section
variable {X : Cx} {W : WX} {k j n : Nat} {x : Str} {f : FnD} {p pos : Pos} {e : Expr} {es : List Expr} {ds : D PEnv}
theorem ev_call (c : CalG X.prog X.w X.K X.mg X.base k x n f) (hr : Room j X.A) (hk : k ≤ j) (G : Good X) (hg : Gl X x) (ha : AV X W (e :: es) ds)
    (hdb : (x == ("__debug__" : Str)) = false := by decide) (he : starEach (e :: es) X.env = (false, eval e X.env) :: starEach es X.env := by rfl) (hpl : (backTo pos (starEach es X.env)).any (·.1) = false := by rfl) :
    EV X W (.Call (.Name x p) (e :: es) [] pos) (dcallF f ds) := by
  obtain ⟨fa, fd, ps, F, hm, kp, b, hfn⟩ := c.ex
  refine ⟨fun pins s σ H Q I h => ?_⟩
  refine (pe_callZ F (hr.mono hk) G.gd hg hm kp b (ha := ha) hdb he hpl).run pins s σ H Q I ?_
  refine (tAr.bind (es := []) (xs := []) h).mono fun vs H1 ⟨en, q⟩ => ?_
  obtain ⟨env, tm, τ, F1, L, hl, R, q⟩ := q
  rw [List.nil_append, List.nil_append] at R
  rw [List.nil_append, List.nil_append] at hl
  have htl : tm.length = τ.length := (R.popN hl).tlen
  unfold dcallE at q
  cases e1 : argEs env en with
  | none => rw [e1] at q; exact q.elim
  | some r1 =>
    obtain ⟨es1, env1⟩ := r1
    rw [e1] at q
    dsimp only at q
    by_cases hd : dBor es1 = true
    · rw [if_pos hd] at q
      cases e2 : conts env1 es1 with
      | none => rw [e2] at q; exact q.elim
      | some args =>
        rw [e2] at q
        dsimp only at q
        cases e3 : f args with
        | none => rw [e3] at q; exact q.elim
        | some r3 =>
          obtain ⟨r, as⟩ := r3
          rw [e3] at q
          dsimp only at q
          by_cases hw : okW es1 as = true
          · rw [if_pos hw] at q
            obtain ⟨F2, L2, k2, R2, hl2⟩ := argE_rel R htl e1
            refine ⟨zR es1 tm.length L2 H1, fun a ha => ?_, fun Hl h1 h2 => ?_⟩
            · unfold zR at ha
              rw [Bool.and_eq_true] at ha
              exact ha.2
            · have RE := R2.enter htl hd e2 h2
              have hlv : vs.length = n := by
                obtain ⟨c1, _⟩ := conts_get e2
                have := RE.len
                rw [← hl, ← hl2, c1]
                exact hfn _ _ e3
              refine ⟨hlv, args, F2, _, RE, r, as, e3, fun v F' H' L' k' R' hz => ?_⟩
              obtain ⟨F3, L3, k3, R3⟩ := R2.leave htl hd e2 rfl h1 R' k' hz hw
              exact q [v] F3 _ L3 rfl (k2.trans k3) R3 v rfl
          · rw [if_neg hw] at q; exact q.elim
    · rw [if_neg hd] at q; exact q.elim
end
end Pv
namespace Pv
open PySem PySem.Spec PyProof.Rows L2

/-! ### a def of trees from its body -/
/-- parameters that the body stores anew begin as kept values -/
def inE (fi : List Nat) : Nat → List PV → PEnv
  | _, [] => []
  | i, a :: as => (if i ∈ fi then .val a else .val a.frz) :: inE fi (i + 1) as
def outP (fi : List Nat) (env : PEnv) : Nat → List PV → Option (List PV)
  | _, [] => some []
  | i, a :: as => match (if i ∈ fi then (match env[i]? with | some (.val b) => some b | _ => none) else some a.frz) with
    | some b => (outP fi env (i + 1) as).map (b :: ·)
    | none => none
/-- what is returned: a list of the def's own is given away -/
def exitE (fi : List Nat) (env : PEnv) : Sl → Option (PV × PEnv)
  | .val pv => some (pv, env)
  | .al k [] => if k ∈ fi then frzE env (.al k []) else match look env k [] with
    | some pv => some (pv, env.set k .un)
    | none => none
  | e => frzE env e
def mkfn (n np : Nat) (fi : List Nat) (body : D Fl) : FnD := fun args => if args.length = np then match body (inE fi 0 args ++ List.replicate (n - np) .un) with
    | .ok (.rt e) env => match exitE fi env e with
      | some (r, env1) => match outP fi env1 0 args with
        | some as => some (r, as)
        | none => none
      | none => none
    | .ok .nx env => match outP fi env 0 args with
      | some as => some (.non, as)
      | none => none
    | _ => none
  else none
theorem mkfn_len {n np : Nat} {fi : List Nat} {body : D Fl} {args : List PV} {r : PV × List PV} (h : mkfn n np fi body args = some r) : args.length = np := by
  unfold mkfn at h
  by_cases hl : args.length = np
  · exact hl
  · rw [if_neg hl] at h; cases h
theorem inE_len {fi : List Nat} : ∀ {as : List PV} {i : Nat}, (inE fi i as).length = as.length
  | [], i => rfl
  | a :: as, i => by rw [inE, List.length_cons, inE_len, List.length_cons]
theorem inE_get {fi : List Nat} : ∀ {as : List PV} {n i : Nat}, (inE fi n as)[i]? = (as[i]?).map fun a => if n + i ∈ fi then Sl.val a else .val a.frz
  | [], n, i => by simp [inE]
  | a :: as, n, 0 => by simp [inE]
  | a :: as, n, i + 1 => by
    rw [inE, List.getElem?_cons_succ, List.getElem?_cons_succ, inE_get]
    have : n + 1 + i = n + (i + 1) := by omega
    rw [this]
theorem outP_get {fi : List Nat} {env : PEnv} : ∀ {as bs : List PV} {n : Nat}, outP fi env n as = some bs → bs.length = as.length ∧ ∀ (i : Nat) b, bs[i]? = some b → (n + i ∈ fi ∧ env[n + i]? = some (.val b)) ∨ (n + i ∉ fi ∧ ∃ a, as[i]? = some a ∧ b = a.frz)
  | [], bs, n, h => by cases h; exact ⟨rfl, fun i b h => by simp at h⟩
  | a :: as, bs, n, h => by
    rw [outP] at h
    cases e1 : (if n ∈ fi then (match env[n]? with | some (.val b) => some b | _ => none) else some a.frz : Option PV) with
    | none => rw [e1] at h; cases h
    | some b =>
      rw [e1] at h
      dsimp only at h
      cases e2 : outP fi env (n + 1) as with
      | none => rw [e2] at h; cases h
      | some bs' =>
        rw [e2] at h
        cases h
        obtain ⟨h1, h2⟩ := outP_get e2
        refine ⟨by simp [h1], fun i c hc => ?_⟩
        cases i with
        | zero =>
          cases Option.some.inj hc
          by_cases hn : n ∈ fi
          · rw [if_pos hn] at e1
            refine .inl ⟨hn, ?_⟩
            show env[n]? = _
            cases e3 : env[n]? with
            | none => rw [e3] at e1; cases e1
            | some s =>
              rw [e3] at e1
              cases s with
              | val y => cases e1; rfl
              | un => cases e1
              | al _ _ => cases e1
          · rw [if_neg hn] at e1
            exact .inr ⟨hn, a, rfl, (Option.some.inj e1).symm⟩
        | succ i =>
          have e4 : n + (i + 1) = n + 1 + i := by omega
          rw [e4]
          rcases h2 i c (by simpa using hc) with h3 | ⟨h3, a', h4, h5⟩
          · exact .inl h3
          · exact .inr ⟨h3, a', by simpa using h4, h5⟩
section
variable {P : Program} {w : World} {K : PySem.W.Frag} {F F' F0 H H' H0 : Hp} {L L' L0 : Lab} {env env' env0 : PEnv} {σ σ' : L2.St} {τ τ' τ0 vs xs : List V} {args as : List PV} {ex : List PV} {r : PV} {v : V} {fi : List Nat}
/-- more slots, empty -/
theorem Rel.ext {tm : PEnv} {n : Nat} (R : Rel P w K env tm σ τ F H L) : Rel P w K (env ++ List.replicate n .un) tm (σ ++ List.replicate n none) τ F H L := by
  have lk : ∀ {i : Nat} {p : Path} {q : PV}, look (env ++ List.replicate n .un) i p = some q → look env i p = some q := fun {i p q} h => by
    obtain ⟨y, e1, e2, e3⟩ := look_some h
    by_cases hi : i < env.length
    · rw [List.getElem?_append_left hi] at e1
      exact look_of e1 e2 e3
    · rw [List.getElem?_append_right (by omega), List.getElem?_replicate] at e1
      split at e1 <;> cases e1
  have go : ∀ {r : Nat} {e : Sl} {u : V}, Ent P w K env F H L r e u → Ent P w K (env ++ List.replicate n .un) F H L r e u := fun {r e u} h => by
    cases e with
    | un => trivial
    | val q => exact h
    | al j p => exact fun q hq => h q (lk hq)
  refine ⟨R.fle, R.lf, R.lh, by simp [R.len], fun i e he hu => ?_, R.tlen, fun i e u he hu => go (R.tmp i e u he hu), R.inj, fun i u j q he hu hq => ?_⟩
  · by_cases hi : i < env.length
    · rw [List.getElem?_append_left hi] at he
      obtain ⟨u, h1, h2⟩ := R.slot i e he hu
      exact ⟨u, by rw [List.getElem?_append_left (by rw [← R.len]; exact hi)]; exact h1, go h2⟩
    · rw [List.getElem?_append_right (by omega), List.getElem?_replicate] at he
      split at he
      · cases he; exact absurd rfl hu
      · cases he
  · have h1 := R.ali i u j q he hu (lk hq)
    rw [List.getElem?_append_left (List.getElem?_eq_some_iff.mp h1).1]
    exact h1
/-- the parameters that are stored anew are frozen -/
theorem Rel.frzIn {tm : PEnv} : ∀ {as : List PV} {pre post : PEnv} {n : Nat} {F : Hp} {L : Lab}, Rel P w K (pre ++ as.map .val ++ post) tm σ τ F H L → pre.length = n →
    ∃ F' L', Same F F' ∧ Rel P w K (pre ++ inE fi n as ++ post) tm σ τ F' H L'
  | [], pre, post, n, F, L, R, hl => ⟨F, L, Same.refl F, R⟩
  | a :: as, pre, post, n, F, L, R, hl => by
    have step : ∀ {e : Sl} {F1 : Hp} {L1 : Lab}, Same F F1 → Rel P w K (pre ++ e :: (as.map .val ++ post)) tm σ τ F1 H L1 → inE fi n (a :: as) = e :: inE fi (n + 1) as → ∃ F' L', Same F F' ∧ Rel P w K (pre ++ inE fi n (a :: as) ++ post) tm σ τ F' H L' := fun {e F1 L1} k1 R1 he => by
      have R1' : Rel P w K ((pre ++ [e]) ++ as.map .val ++ post) tm σ τ F1 H L1 := by simpa using R1
      obtain ⟨F2, L2, k2, R2⟩ := Rel.frzIn R1' (n := n + 1) (by simp [hl])
      exact ⟨F2, L2, k1.trans k2, by rw [he]; simpa using R2⟩
    have R0 : Rel P w K (pre ++ .val a :: (as.map .val ++ post)) tm σ τ F H L := by simpa using R
    by_cases hn : n ∈ fi
    · exact step (Same.refl F) R0 (by rw [inE, if_pos hn])
    · have R1 := R0.frzSlot (j := n) (pv := a) (by rw [← hl]; simp)
      have hs : (pre ++ Sl.val a :: (as.map .val ++ post)).set n (.val a.frz) = pre ++ .val a.frz :: (as.map .val ++ post) := by rw [← hl]; simp
      rw [hs] at R1
      exact step (fF_same R0.lf) R1 (by rw [inE, if_neg hn])
/-- a slot's list is given away -/
theorem Rel.moveOut {k : Nat} {pv : PV} (R : Rel P w K env (ex.map .val ++ [.al k []]) σ (xs ++ [v]) F H L) (h : look env k [] = some pv) :
    ∃ L', Rel P w K (env.set k .un) (ex.map .val ++ [.val pv]) σ (xs ++ [v]) F H L' := by
  have ht : RepO P w K F H L [2 * k] pv v := R.top pv h
  have R' := R.pop
  refine ⟨mvL (2 * k) (2 * (ex.map Sl.val).length + 1) L, ?_⟩
  have go : ∀ {r : Nat} {e : Sl} {u : V}, r ≠ 2 * k → r ≠ 2 * (ex.map Sl.val).length + 1 → Ent P w K env F H L r e u → Ent P w K (env.set k .un) F H (mvL (2 * k) (2 * (ex.map Sl.val).length + 1) L) r e u := fun {r e u} h1 h2 h => by
    cases e with
    | un => trivial
    | val q => exact RepO.tr (Same.refl F) q [r] [r] u (fun a s l => ⟨mvL_off l h1 h2, rfl⟩) h
    | al j p =>
      intro q hq
      obtain ⟨y, e1, e2, e3⟩ := look_some hq
      rcases getElem?_set_cases e1 with ⟨_, z, _⟩ | ⟨hj, e1⟩
      · cases z
      · exact RepO.tr (Same.refl F) q (2 * j :: p) (2 * j :: p) u (fun a s l => ⟨mvL_off (s := p ++ s) l (by omega) (by omega), rfl⟩) (h q (look_of e1 e2 e3))
  have base : Rel P w K (env.set k .un) (ex.map .val) σ xs F H (mvL (2 * k) (2 * (ex.map Sl.val).length + 1) L) := by
    refine ⟨R.fle, fun a p e => ?_, fun a p e => ?_, by rw [List.length_set]; exact R.len, fun i e he hu => ?_, R'.tlen, fun i e u he hu => ?_, mvL_inj R.inj, fun i u j q he hu hq => (no_al (List.mem_of_getElem? he)).elim⟩
    · obtain ⟨q, hq⟩ := mvL_some e; exact R.lf a q hq
    · obtain ⟨q, hq⟩ := mvL_some e; exact R.lh a q hq
    · rcases getElem?_set_cases he with ⟨_, z, _⟩ | ⟨hne, he⟩
      · exact absurd z hu
      · obtain ⟨u, h1, h2⟩ := R.slot i e he hu
        exact ⟨u, h1, go (by omega) (by omega) h2⟩
    · have := (List.getElem?_eq_some_iff.mp he).1
      exact go (by omega) (by omega) (R'.tmp i e u he hu)
  exact base.push (RepO.tr (Same.refl F) pv [2 * k] _ v (fun a s l => ⟨mvL_src l, rfl⟩) ht)
theorem Rel.exit {e : Sl} (R : Rel P w K env (ex.map .val ++ [e]) σ (xs ++ [v]) F H L) (h : exitE fi env e = some (r, env')) : ∃ F' L', Same F F' ∧ Rel P w K env' (ex.map .val ++ [.val r]) σ (xs ++ [v]) F' H L' := by
  have fz : frzE env e = some (r, env') → ∃ F' L', Same F F' ∧ Rel P w K env' (ex.map .val ++ [.val r]) σ (xs ++ [v]) F' H L' := fun h => by
    obtain ⟨F1, L1, k1, R1⟩ := R.frzAt (i := (ex.map Sl.val).length) (v := v) (by simp) (by have := R.pop.tlen; rw [this]; simp) h
    have hs : (ex.map Sl.val ++ [e]).set (ex.map Sl.val).length (.val r) = ex.map Sl.val ++ [.val r] := by simp
    rw [hs] at R1
    exact ⟨F1, L1, k1, R1⟩
  cases e with
  | un => exact fz h
  | val pv => cases h; exact ⟨F, L, Same.refl F, R⟩
  | al k p =>
    cases p with
    | cons _ _ => exact fz h
    | nil =>
      rw [exitE] at h
      by_cases hk : k ∈ fi
      · rw [if_pos hk] at h; exact fz h
      · rw [if_neg hk] at h
        cases e1 : look env k [] with
        | none => rw [e1] at h; cases h
        | some pv =>
          rw [e1] at h
          cases h
          obtain ⟨L1, R1⟩ := R.moveOut e1
          exact ⟨F, L1, Same.refl F, R1⟩
theorem Rel.finish (R : Rel P w K env (ex.map .val ++ [.val r]) σ (xs ++ [v]) F H L) (hl : as.length = vs.length) (h : ∀ (i : Nat) a, as[i]? = some a → ∃ u, vs[i]? = some u ∧ (RepF P w K F a u ∨ (env[i]? = some (.val a) ∧ σ[i]? = some (some u)))) :
    ∃ L', Rel P w K (as.map .val) [.val r] (vs.map some) [v] F H L' := by
  refine ⟨mvL (2 * (ex.map Sl.val).length + 1) 1 L, R.fle, fun a p e => ?_, fun a p e => ?_, by simp [hl], fun i e he hu => ?_, rfl, fun i e u he hu => ?_, mvL_inj R.inj, fun i u j q he hu hq => ?_⟩
  · obtain ⟨q, hq⟩ := mvL_some e; exact R.lf a q hq
  · obtain ⟨q, hq⟩ := mvL_some e; exact R.lh a q hq
  · rw [List.getElem?_map] at he
    cases e1 : as[i]? with
    | none => rw [e1] at he; cases he
    | some a =>
      rw [e1] at he
      cases he
      obtain ⟨u, h1, h2⟩ := h i a e1
      refine ⟨u, by rw [List.getElem?_map, h1]; rfl, ?_⟩
      rcases h2 with h2 | ⟨h2, h3⟩
      · exact RepO.ofF h2
      · obtain ⟨u', h4, h5⟩ := R.slot i _ h2 (by simp)
        rw [h3] at h4
        cases h4
        exact RepO.tr (Same.refl F) a [2 * i] [2 * i] u (fun a s l => ⟨mvL_off l (by omega) (by omega), rfl⟩) h5
  · cases i with
    | zero =>
      cases Option.some.inj he
      cases Option.some.inj hu
      exact RepO.tr (Same.refl F) r [2 * (ex.map Sl.val).length + 1] [1] v (fun a s l => ⟨mvL_src l, rfl⟩) R.top
    | succ i => simp at he
  · cases i with
    | zero => cases Option.some.inj he
    | succ i => simp at he
end

/-! ### the rule of a def -/
section
variable {P : Program} {w : World} {K : PySem.W.Frag} {mg : Str → Option Value} {base : Heap}
/-- the context of a def's body -/
abbrev fnX (P : Program) (w : World) (K : PySem.W.Frag) (mg : Str → Option Value) (base : Heap) (N : List Str) (x : Str) (st : Stmt) (f : Addr) (cdv : Value) (A : Around) (outs : List Env) (s : Shared) (H : Hp) (E : XK) : Cx :=
  (cxOf C8.CX0 P w K mg base N x (defScope st) f cdv A outs s H E).nox
theorem body_run {X : Cx} {n np : Nat} {fi : List Nat} {d : D Fl} {st : List Stmt} {N : List Str} {vs : List V} {H : Hp} {Q : VK} (hN : N.length = n) (hnp : np ≤ n) (hb : BV X noW fi (L2.start N vs) st d)
    (h : spI X.prog X.w X.K np (mkfn n np fi d) vs H Q C8.E0) : tS X.prog X.w X.K noW fi (L2.start N vs) d { nx := fun _ H' => Q .non H', rt := Q } (L2.start N vs) H := by
  obtain ⟨hlv, args, F, L, R, r, as, hd, q⟩ := h
  have hal : args.length = np := mkfn_len hd
  have R1 : Rel X.prog X.w X.K ([] ++ args.map .val ++ List.replicate (n - np) .un) [] (L2.start N vs) [] F H L := by
    have := R.ext (n := n - np)
    unfold L2.start
    rw [hN, hlv]
    simpa using this
  obtain ⟨F1, L1, k1, R2⟩ := R1.frzIn (fi := fi) (n := 0) rfl
  rw [List.nil_append] at R2
  have R2' := R2
  refine ⟨_, [], [], F1, L1, R2, fun _ _ => rfl, ?_⟩
  unfold mkfn at hd
  rw [if_pos hal] at hd
  -- what a parameter holds at the end
  have fin : ∀ {env1 : PEnv} {F2 H2 : Hp} {σ2 : L2.St} {bs : List PV}, Same F1 F2 → FxOk fi (L2.start N vs) σ2 → outP fi env1 0 args = some bs → bs.length = vs.length ∧ ∀ (i : Nat) a, bs[i]? = some a → ∃ u, vs[i]? = some u ∧ (RepF X.prog X.w X.K F2 a u ∨ (env1[i]? = some (.val a) ∧ σ2[i]? = some (some u))) := fun {env1 F2 H2 σ2 bs} k2 fx e => by
    obtain ⟨h1, h2⟩ := outP_get e
    refine ⟨by rw [h1, hal, hlv], fun i a ha => ?_⟩
    have hi : i < vs.length := by
      have := (List.getElem?_eq_some_iff.mp ha).1
      omega
    have hst : (L2.start N vs)[i]? = some (some vs[i]) := by
      unfold L2.start
      rw [List.getElem?_append_left (by simpa using hi), List.getElem?_map, List.getElem?_eq_getElem hi]
      rfl
    refine ⟨vs[i], List.getElem?_eq_getElem hi, ?_⟩
    rcases h2 i a ha with ⟨h3, h4⟩ | ⟨h3, a', h4, rfl⟩
    · rw [Nat.zero_add] at h3 h4
      exact .inr ⟨h4, by rw [fx i h3]; exact hst⟩
    · rw [Nat.zero_add] at h3
      have hin : (inE fi 0 args ++ List.replicate (n - np) Sl.un)[i]? = some (.val a'.frz) := by
        rw [List.getElem?_append_left (by rw [inE_len]; omega), inE_get, h4, Nat.zero_add]
        simp [h3]
      obtain ⟨u, h5, h6⟩ := R2'.slot i _ hin (by simp)
      rw [hst] at h5
      cases h5
      exact .inl (RepF.mono k2 _ _ (RepO.toF (PV.fz_frz _) h6))
  cases e1 : d (inE fi 0 args ++ List.replicate (n - np) Sl.un) with
  | no => rw [e1] at hd; cases hd
  | ex c env' => rw [e1] at hd; cases hd
  | ok fl env' =>
    rw [e1] at hd
    cases fl with
    | bk => cases hd
    | ct => cases hd
    | nx =>
      dsimp only at hd
      cases e2 : outP fi env' 0 args with
      | none => rw [e2] at hd; cases hd
      | some bs =>
        rw [e2] at hd
        cases hd
        intro σ2 F2 H2 L2 k2 R3 fx
        obtain ⟨h1, h2⟩ := fin (H2 := H2) k2 fx e2
        have R4 : Rel X.prog X.w X.K env' (([] : List PV).map .val ++ [.val .non]) σ2 ([] ++ [.non]) F2 H2 L2 := R3.pushF (pv := .non) (v := .non) rfl
        obtain ⟨L3, R5⟩ := R4.finish h1 h2
        exact q .non F2 H2 L3 (k1.trans k2) R5
    | rt e =>
      dsimp only at hd
      cases e2 : exitE fi env' e with
      | none => rw [e2] at hd; cases hd
      | some r1 =>
        obtain ⟨r', env1⟩ := r1
        rw [e2] at hd
        dsimp only at hd
        cases e3 : outP fi env1 0 args with
        | none => rw [e3] at hd; cases hd
        | some bs =>
          rw [e3] at hd
          cases hd
          intro ex xs σ2 v F2 H2 L2 hl k2 R3 fx
          obtain ⟨F3, L3, k3, R4⟩ := Rel.exit (ex := [] ++ ex) (xs := [] ++ xs) R3 e2
          obtain ⟨h1, h2⟩ := fin (H2 := H2) (k2.trans k3) fx e3
          obtain ⟨L4, R5⟩ := R4.finish h1 h2
          exact q v F3 H2 L4 (k1.trans (k2.trans k3)) R5
/-- a def of the text, by what its body does to trees -/
theorem fnG_of {x : Str} {st : Stmt} {f : Addr} {fd : FuncData} {N ps : List Str} {k n np : Nat} {fi : List Nat} {d : D Fl} (Fn : L2.Fun K x x st f fd) (S : FnScope N ps (defScope st)) (hn : N.length = n) (hp : ps.length = np)
    (hbody : ∀ (cdv : Value) (A : Around) (outs : List Env) (s : Shared) (H : Hp) (E : XK) (vs : List V), Room k (A.deeper (envOfC x (defScope st) s.heap.objs.size f cdv)) → A.guards = some [] →
      BV (fnX P w K mg base N x st f cdv A outs s H E) noW fi (L2.start N vs) (defBody st) d) :
    FnG P w K mg base C8.CX0 (k + 1) f fd ps (spI P w K np (mkfn n np fi d)) := by
  obtain ⟨oc, od, kV, doc, pm, an, cdv, ct, osl, rfl, lk, hcd⟩ := Fn.ex
  have hnp : np ≤ n := by rw [← hp, ← hn]; have := congrArg List.length S.pre; rw [List.length_take] at this; omega
  refine ⟨fun vs H Q E h => h.1.trans hp.symm, fun A outs s H args us vs Q E hr hg e0 hb rv hsp => ?_⟩
  have hl : vs.length = ps.length := hsp.1.trans hp.symm
  have KX : K.In s.heap := e0.mod.kin.keeps fun b o q => (e0.bs b o q).1
  have lim : s.heap.NoLimit := e0.mod.nolimit.keeps fun b o q => (e0.bs b o q).1
  have hkind : ∀ y ∈ ps.zip us, (defScope st).names.lookup y.1 = some .local ∨ ((defScope st).names.lookup y.1 = some .cell ∧ ((cellsFrom (s.heap.objs.size + 1) (defScope st).names []).lookup y.1).isSome = true) := by
    rintro ⟨m, v⟩ hy
    rcases S.par m (List.of_mem_zip hy).1 with q | q
    · exact .inl q
    · exact .inr ⟨q, PySem.W.cellsFrom_some _ _ _ (.inl q)⟩
  refine codeAny_call_function hr.depth (KX _ _ lk) rfl S.co S.gen rfl (PySem.W.codeRec_of KX hcd) (hb _ _ _ _ (wpAny_newFunctionEnv_cells S.kind hkind fun env he s1 cl => ?_))
  subst he
  refine ⟨lim.keeps cl.toInCall.keep, codeAny_func ?_⟩
  have bb : PSs (cxOf C8.CX0 P w K mg base N x (defScope st) f cdv A outs s H E) (defBody st) (tS P w K noW fi (L2.start N vs) d) := PSs.nox (hbody cdv A outs s H E vs (hr.deeper _) hg)
  have I0 : Inv (cxOf C8.CX0 P w K mg base N x (defScope st) f cdv A outs s H E) [] (L2.start N vs) H s1 := inv_start S hr.hd e0 hl rv cl
  have run := body_run (X := fnX P w K mg base N x st f cdv A outs s H E) (Q := Q) hn hnp (hbody cdv A outs s H E vs (hr.deeper _) hg) hsp
  refine wpAny_mono (bb.run [] s1 (L2.start N vs) H _ I0 run) (fun fl s2 hs => ?_) fun e s2 hs => hs
  have fin : ∀ {σ2 : L2.St} {H2 : Hp} {v : V} {u : Value}, Inv (cxOf C8.CX0 P w K mg base N x (defScope st) f cdv A outs s H E) [] σ2 H2 s2 → RelV v u → Q v H2 → CE outs P w H s Q u s2 :=
    fun {σ2 H2 v u} J r2 q => ⟨v, H2, J.os, J.bare, J.base, J.hok, r2, q⟩
  match fl, hs with
  | .ret u, ⟨v, σ2, H2, J, r2, q⟩ => exact fin J r2 q
  | .next, ⟨σ2, H2, J, q⟩ => exact fin (v := V.non) (u := Value.none) J rfl q
  | .brk, ⟨_, _, _, q⟩ => exact q.elim
  | .cont, ⟨_, _, _, q⟩ => exact q.elim
end
end Pv
namespace Pv
open PySem PySem.Spec PyProof.Rows L2

/-! ### the law's call -/
/-- the law at a script, as a def of trees -/
def LawD (d : FnD) (ns : List Int) : Prop := ∃ as, d [.frl (ns.map .int)] = some (.bl true, as)
theorem reps_ints {P : Program} {w : World} {K : PySem.W.Frag} {F : Hp} : ∀ ns : List Int, RepFs P w K F (ns.map .int) (ns.map V.int)
  | [] => by rw [List.map_nil, List.map_nil, RepFs]
  | n :: ns => by
    rw [List.map_cons, List.map_cons, RepFs]
    exact ⟨_, _, rfl, by rw [RepF], reps_ints ns⟩
section
variable {P : Program} {w : World} {K : PySem.W.Frag} {mg mb : Str → Option Value} {k : Nat} {fa a : Addr} {fd : FuncData} {x : Str} {d : FnD} {s : Shared} {vs : List Value} {ns : List Int}
theorem lawG_at {H : Hp} (KX : K.In s.heap) (hns : s.heap.Ns mainGlobals mg) (hb : s.heap.Ns builtinsNs mb) (hbb : ∀ x : Str, x ≠ "__name__" → mb x = bootBuiltins x) (hlim : s.heap.NoLimit) (hg : s.gens = #[])
    (ha : s.heap.get? a = some { cls := .type "list", data := .seq vs.toArray }) (hr : Room k callerA)
    (F : ∀ base : Heap, K.In base → base.Ns mainGlobals mg → FnG P w K mg base C8.CX0 k fa fd [x] (spI P w K 1 d)) (hbind : ∀ (s : Shared) (u : Value), BindsTo s fd ⟨[u], []⟩ [(x, u)])
    (hlaw : LawD d ns) (hO : Only H) (hS : SqL K H a (ns.map V.int)) (hok : HOk P w H s.heap) (hA : ∀ b, H b ≠ none → b = a) (hK : H a ≠ none → K.lookup a = none) :
    codeAny (model P w) callerA (.call (.ref fa) ⟨[.ref a], []⟩) (fun r t => r = .ok (.ret (.bool true)) ∧ OldK s.heap t.heap ∧ t.os = s.os ∧ AllBare t.gens) s := by
  have only : ∀ {b : Addr} {u : HO}, H b = some u → b = a := fun {b u} q => hA b (by rw [q]; simp)
  have under : ∀ {b : Addr} {o : Obj}, s.heap.get? b = some o → H b = none → (hidT s.heap H).get? b = some o := fun q n => hidT_get q n
  have dictFree : ∀ {b : Addr} {o : Obj} {es : Array DictEntry} {ep : Nat}, s.heap.get? b = some o → o.data = .dict es ep → H b = none := fun {b o es ep} q dd => by
    cases hq : H b with
    | none => rfl
    | some u =>
      obtain rfl := only hq
      rw [ha] at q
      cases q
      cases (show Data.seq vs.toArray _ = Data.dict es ep from dd)
  have nsU : ∀ {b : Addr} {m : Str → Option Value}, s.heap.Ns b m → (hidT s.heap H).Ns b m := fun {b m} ⟨o, es, ep, q, dd, r⟩ => ⟨o, es, ep, under q (dictFree q dd), dd, r⟩
  have kU : K.In (hidT s.heap H) := fun b o q => under (KX b o q) (by
    cases hq : H b with
    | none => rfl
    | some u =>
      obtain rfl := only hq
      rw [hK (by rw [hq]; simp)] at q
      cases q)
  have modU : Mod K mg (hidT s.heap H) := ⟨kU, nsU hns, ⟨mb, nsU hb, hbb⟩, let ⟨mc, l1, l2⟩ := hlim; ⟨mc, nsU l1, l2⟩⟩
  have e0 : Env0 P w K mg (hidT s.heap H) callerA [] s H := ⟨rfl, modU, fun b o q => of_hidT q, Nat.le_of_eq (hidT_size _ _), trivial, fun b hb => (by cases hb), hok, .of_eq hg⟩
  obtain ⟨as, hd⟩ := hlaw
  have rel : Rel P w K [.val (.frl (ns.map .int))] [] [some (.ref a)] [] H H (fun _ => none) := by
    refine ⟨Same.refl H, fun a p q => (by cases q), fun a p q => (by cases q), rfl, fun i e he hu => ?_, rfl, fun i e u he => (by simp at he), fun a b q h => (by cases h), fun i u j q he => (by simp at he)⟩
    cases i with
    | succ i => simp at he
    | zero =>
      cases Option.some.inj he
      refine ⟨.ref a, rfl, ?_⟩
      refine RepO.ofF ?_
      rw [RepF]
      exact ⟨a, _, rfl, hS, reps_ints ns⟩
  have spec : spI P w K 1 d [.ref a] H (fun v _ => v = .bl true) fun _ _ _ => False := by
    refine ⟨rfl, [.frl (ns.map .int)], H, fun _ => none, rel, _, as, hd, fun v F' H' L' k' R' => ?_⟩
    have := R'.tmp 0 _ v rfl rfl
    exact this
  refine codeAny_mono ((F _ kU (nsU hns)).run callerA [] s H ⟨[.ref a], []⟩ [.ref a] [.ref a] _ _ hr rfl e0 (hbind s (.ref a)) (.cons rfl .nil) spec) fun r t h => ?_
  match r, h with
  | .ok (.ret u), ⟨v, H', os, bare, un, hok', r', q⟩ =>
    obtain rfl : v = .bl true := q
    obtain rfl : u = Value.bool true := r'
    refine ⟨rfl, OldK.of_keep fun b o ho => ?_, os, bare⟩
    cases hq : H b with
    | none => exact un.keep b o ho hq (by intro z; cases z) (by simp)
    | some u =>
      rcases hO b with z | ⟨ob, xs, z⟩
      · rw [hq] at z; cases z
      · obtain ⟨g1, _⟩ := hok b _ z
        obtain ⟨g2, _⟩ := hok' b _ (un.frzs b ob _ z)
        rw [ho] at g1
        cases g1
        exact g2
theorem lawG (KX : K.In s.heap) (hns : s.heap.Ns mainGlobals mg) (hb : s.heap.Ns builtinsNs mb) (hbb : ∀ x : Str, x ≠ "__name__" → mb x = bootBuiltins x) (hlim : s.heap.NoLimit) (hg : s.gens = #[])
    (ha : s.heap.get? a = some { cls := .type "list", data := .seq vs.toArray }) (hi : IntsAre vs ns) (hl : ns.length ≤ sizeLine) (hr : Room k callerA)
    (F : ∀ base : Heap, K.In base → base.Ns mainGlobals mg → FnG P w K mg base C8.CX0 k fa fd [x] (spI P w K 1 d)) (hbind : ∀ (s : Shared) (u : Value), BindsTo s fd ⟨[u], []⟩ [(x, u)]) (hlaw : LawD d ns) :
    codeAny (model P w) callerA (.call (.ref fa) ⟨[.ref a], []⟩) (fun r t => r = .ok (.ret (.bool true)) ∧ OldK s.heap t.heap ∧ t.os = s.os ∧ AllBare t.gens) s := by
  have rv : Vals (ns.map V.int) vs := vals_ints hi
  cases hk : K.lookup a with
  | some o =>
    have q := KX a o hk
    rw [ha] at q
    cases q
    exact lawG_at (H := fun _ => none) KX hns hb hbb hlim hg ha hr F hbind hlaw (fun _ => .inl rfl) (.inr ⟨_, vs.toArray, _, hk, rfl, rfl, rfl, by rw [List.size_toArray, hi.length]; exact hl, by simpa using rv⟩) (fun b u z => by cases z) (fun b z => absurd rfl z) fun z => absurd rfl z
  | none =>
    refine lawG_at (H := fun b => if b = a then some (.frz { cls := .type "list", data := .seq vs.toArray } (.lst (ns.map V.int))) else none) KX hns hb hbb hlim hg ha hr F hbind hlaw (fun b => ?_) (.inl (.inr ⟨_, if_pos rfl⟩)) (fun b u z => ?_) (fun b z => ?_) fun _ => hk
    · by_cases q : b = a
      · exact .inr ⟨_, _, if_pos q⟩
      · exact .inl (if_neg q)
    · by_cases q : b = a
      · cases (if_pos q).symm.trans z
        subst q
        exact ⟨ha, by rw [List.length_map]; exact hl, vs, _, rv, ha⟩
      · cases (if_neg q).symm.trans z
    · by_cases q : b = a
      · exact q
      · exact absurd (if_neg q) z
end
/-- what is left where the head has been dealt with -/
theorem walkG {l : PySem.W.OpenLaw} {n k : Nat} {q : Program} {loose : List Str} {XP : (Str → Option Value) → Heap → Prop} {YP : World → Heap → Prop} {d : DefRec} {K : Params → PySem.W.Frag} {D : FnD} {x : Str}
    (hn : l.most = some n) (hn2 : n ≤ sizeLine) (hdf : d.params.defaults = []) (hr : Room k callerA) (hY : ∀ (w : World) (h : Heap), YP w h → (K w.params).In h)
    (F : ∀ (w : World) (mg : Str → Option Value) (fa : Addr) (h : Heap), (K w.params).In h → h.Ns mainGlobals mg → mg d.name = some (.ref fa) →
      ∃ fd : FuncData, (∀ (s : Shared) (u : Value), BindsTo s fd ⟨[u], []⟩ [(x, u)]) ∧ ∀ base : Heap, (K w.params).In base → base.Ns mainGlobals mg → FnG l.prog w (K w.params) mg base C8.CX0 k fa fd [x] (spI l.prog w (K w.params) 1 D))
    (hD : ∀ ns : List Int, ns.length ≤ n → LawD D ns) : PySem.W.WalkO q loose XP YP l.row.toRowW d [] (fun f vs => PySem.call f vs) := by
  refine Att.attach_call hn hdf fun w s0 s1 mg mb fa o pm cd doc a vs ns G Y ho hd hcd hmg hobj hints hlen hg => ?_
  obtain ⟨fd, hb, hF⟩ := F w mg fa _ (hY w _ Y) G.T.g hmg
  exact lawG (hY w _ Y) G.T.g G.T.b G.T.builtins G.T.nolimit hg hobj hints (Nat.le_trans hlen hn2) hr hF hb (hD ns hlen)
end Pv
namespace HT
open PySem PySem.Spec PyProof.Rows L2
section
variable {prog : Program} {w : World} {A : Around} {E : Value → Shared → Prop} {s : Shared}
theorem applied_back {sl : Addr} {vl vu vs : Value} {n : Nat} {Q : Int × Int × Nat → Shared → Prop} (hs : s.heap.IsSliceOf sl vl vu vs) (pl : IsPart vl none) (pu : IsPart vu none) (ps : IsPart vs (some (-1)))
    (h : Q ((n : Int) - 1, -1, n) s) : wpAny (model prog w) A (Builtin.Slice.sliceApplied (.ref sl) (pure (n : Int))) Q E s := by
  obtain ⟨os, hos, hcs, hds⟩ := id hs
  unfold Builtin.Slice.sliceApplied Builtin.Slice.sliceFields
  refine wpAny_bind (wpAny_bind (wpAny_field hos hds (x := vl) rfl (wpAny_bind (wpAny_field hos hds (x := vu) rfl (wpAny_bind (wpAny_field hos hds (x := vs) rfl (wpAny_pure ?_)))))))
  refine wpAny_bind (slicePart_ ps ?_)
  show wpAny _ _ (if ((-1 : Int) == 0) = true then _ else _) _ _ s
  rw [if_neg (by decide)]
  refine wpAny_bind (slicePart_ pl (wpAny_bind (slicePart_ pu (wpAny_bind (wpAny_pure ?_)))))
  have e : Builtin.Slice.sliceAdjust none none (-1) (n : Int) = ((n : Int) - 1, -1) := by simp [Builtin.Slice.sliceAdjust]
  show wpAny _ _ (match Builtin.Slice.sliceAdjust none none (-1) (n : Int) with | (lo, hi) => pure (lo, (-1 : Int), Builtin.Slice.slicePlaces lo hi (-1))) _ _ s
  rw [e]
  have e2 : Builtin.Slice.slicePlaces ((n : Int) - 1) (-1) (-1) = n := by
    unfold Builtin.Slice.slicePlaces
    have h1 : ¬ ((-1 : Int) > 0) := by decide
    simp only [h1, if_false]
    have e3 : ((-1 : Int) - ((n : Int) - 1)) = -(n : Int) := by omega
    by_cases hn : (-1 : Int) < (n : Int) - 1
    · simp [hn]
      try omega
    · simp [hn]
      try omega
  show wpAny _ _ (pure ((n : Int) - 1, (-1 : Int), Builtin.Slice.slicePlaces ((n : Int) - 1) (-1) (-1))) _ _ s
  rw [e2]
  exact wpAny_pure h
theorem fm_congr {α β : Type} {f g : α → Option β} : ∀ {l : List α}, (∀ m ∈ l, f m = g m) → l.filterMap f = l.filterMap g
  | [], _ => rfl
  | m :: l, h => by
    rw [List.filterMap_cons, List.filterMap_cons, h m (by simp), fm_congr fun k hk => h k (by simp [hk])]
theorem pick_back (xs : Array Value) : ((List.range xs.size).filterMap fun (m : Nat) => xs[(((xs.size : Int) - 1) + (m : Int) * (-1)).toNat]?).toArray = xs.toList.reverse.toArray := by
  have e : (List.range xs.size).filterMap (fun (m : Nat) => xs[(((xs.size : Int) - 1) + (m : Int) * (-1)).toNat]?) = ((List.range xs.size).map fun k => xs.size - 1 - k).filterMap (xs[·]?) := by
    rw [List.filterMap_map]
    refine fm_congr fun m hm => ?_
    have hm := List.mem_range.mp hm
    have : (((xs.size : Int) - 1) + (m : Int) * (-1)).toNat = xs.size - 1 - m := by omega
    rw [this]
    rfl
  have k := PySem.W.krv_pick xs
  unfold slicePick at k
  rw [PySem.W.krv_bounds] at k
  rw [e, ← PySem.W.krv_sliceRange]
  exact k
theorem getItem_tuple_back {t sl : Addr} {items : Array Value} {vl vu vs : Value} {Q : Value → Shared → Prop} (ht : IsTup s.heap t items) (hs : s.heap.IsSliceOf sl vl vu vs) (pl : IsPart vl none) (pu : IsPart vu none) (ps : IsPart vs (some (-1)))
    (h : Q (.ref s.heap.objs.size) { s with heap := s.heap.push { cls := .type "tuple", data := .seq items.toList.reverse.toArray } }) (hsz : items.size ≤ sizeLine) : wpAny (model prog w) A (getItem (.ref t) (.ref sl)) Q E s := by
  have fits : sizeOk (.seq items.toList.reverse.toArray) := by
    show items.toList.reverse.toArray.size ≤ sizeLine
    rw [List.size_toArray, List.length_reverse, Array.length_toList]
    exact hsz
  obtain ⟨os, hos, hcs, hds⟩ := id hs
  have isSl : s.TypeIs (.ref sl) "slice" := ⟨os, hos, hcs⟩
  unfold getItem
  try with_reducible refine wpAny_holding ?_
  first | refine wpAny_bind (wpAny_pure ?_) | skip
  refine wpAny_bind (wpAny_sequenceKey ht.typeIs (by decide) ?_)
  refine wpAny_bind (wpAny_callSpecial?_slot (name := Str.ofString "__getitem__") ht.typeIs PyProof.Rows.slot_tuple_getitem (wpAny_call_entry PyProof.Rows.slot_tuple_getitem ht.typeIs entry_tuple_getitem ?_ (args_tuple_getitem _ _)))
  show wpAny _ _ (Builtin.Tuple.tupleItemsOf (.ref t) >>= _) _ _ s
  refine wpAny_bind (tupleItemsOf_ ht (wpAny_bind (wpAny_typeOf isSl ?_)))
  rw [if_pos (by decide)]
  refine wpAny_bind (applied_back hs pl pu ps ?_)
  have hno : ¬ (((items.size : Int) - 1 == 0 && (-1 : Int) == 1 && items.size == items.size) = true) := by simp
  show wpAny _ _ (if ((items.size : Int) - 1 == 0 && (-1 : Int) == 1 && items.size == items.size) = true then _ else _) _ _ s
  rw [if_neg hno, pick_back]
  first
    | exact wpAny_bind (m := Builtin.Tuple.tupleExact _) (wpAny_newObj_type (wpAny_pure ⟨_, rfl, wpAny_pure h⟩) fits)
    | exact wpAny_bind (m := Builtin.Tuple.tupleExact _) (wpAny_newObj_type (wpAny_bind (wpAny_pure (wpAny_pure ⟨_, rfl, wpAny_pure h⟩))) fits)
    | exact wpAny_bind (wpAny_bind (m := Builtin.Tuple.tupleExact _) (wpAny_newObj_type (wpAny_pure (wpAny_pure ⟨_, rfl, wpAny_pure h⟩)) fits))
    | exact wpAny_bind (wpAny_bind (m := Builtin.Tuple.tupleExact _) (wpAny_newObj_type (wpAny_pure ⟨_, rfl, wpAny_pure h⟩) fits))
end
end HT
namespace Pv
open PySem PySem.Spec PyProof.Rows L2
section
variable {X : Cx} {W : WX} {a b c e : Expr} {da db dc : D Sl} {ds : D PEnv} {es : List Expr} {pos : Pos}
def tRevA (K : PySem.W.Frag) (te : TE) : TE := fun σ H Q => te σ H fun v H1 => ∃ (a : Addr) (xs : List V), v = .ref a ∧ ((SqL K H1 a xs ∧ ∀ p, H1 p = none → Q (.ref p) (upd H1 p (.lst xs.reverse))) ∨ (SqT K H1 a xs ∧ ∀ p, H1 p = none → Q (.ref p) (upd H1 p (.tup xs.reverse))))
theorem pe_revA {te : TE} {k : Nat} {p1 p2 p3 : Pos} (he : PE X e te) : PE X (.Subscript e (.Slice none none (some (.UnaryOp .USub (.Constant (.int 1) k p1) p2)) p3) pos) (tRevA X.K te) := by
  refine ⟨fun pins s σ H Q I h => Subscript_ (thn (he.run pins s σ H _ I h) fun v s1 ⟨x, H1, I1, r1, a, xs, ex, q⟩ => ?_)⟩
  subst ex
  cases r1
  have part : PO X (some (.UnaryOp .USub (.Constant (.int 1) k p1) p2)) (tPart (tUn (rU fun i => .int (-i)) (tC (.int 1)))) := po_some (pe_un un_neg pe_int)
  refine wpAny_Slice (thn (po_none.run pins s1 σ H1 (fun o H2 => o = none ∧ H2 = H1) I1 ⟨rfl, rfl⟩) fun vl s2 ⟨l, H2, I2, pl, el, e2⟩ => ?_)
  obtain rfl := el
  obtain rfl := e2
  refine thn (po_none.run pins s2 σ H2 (fun o H3 => o = none ∧ H3 = H2) I2 ⟨rfl, rfl⟩) fun vu s3 ⟨u, H3, I3, pu, eu, e3⟩ => ?_
  obtain rfl := eu
  obtain rfl := e3
  refine thn (part.run pins s3 σ H3 (fun o H4 => o = some (-1) ∧ H4 = H3) I3 ⟨1, rfl, -1, rfl, rfl, rfl⟩) fun vs s4 ⟨o, H4, I4, ps, eo, e4⟩ => ?_
  obtain rfl := eo
  obtain rfl := e4
  have I5 : Inv X pins σ H4 { s4 with heap := s4.heap.push { cls := .type "slice", data := .fields #[vl, vu, vs] } } := I4.kept (t' := s4.toks) fun _ _ q => Heap.get?_push_of_some _ q
  show wpAny (model X.prog X.w) X.A (subscriptTail e (.Slice none none (some (.UnaryOp .USub (.Constant (.int 1) k p1) p2)) p3) (.ref a) (.ref s4.heap.objs.size)) (EP X pins σ Q) X.xe { s4 with heap := s4.heap.push { cls := .type "slice", data := .fields #[vl, vu, vs] } }
  rcases q with ⟨hx, q⟩ | ⟨hx, q⟩
  · obtain ⟨its, r, ht, hz⟩ := I5.list hx
    refine tail_any (ops := [.ref a, .ref s4.heap.objs.size]) ht.isList.typeIs (PySem.slot_list_getitem.lookup) (wpAny_getItem_list_slice ht.isList (Heap.IsSliceOf.new _ vl vu vs) pl pu ps (by decide) ?_ (by rw [List.size_toArray, ← r.length]; exact hz)) (by with_unfolding_all rfl)
    rw [PySem.W.krv_pick]
    refine ⟨.ref _, _, I5.laid (t' := s4.toks) (o := .lst xs.reverse) (fun _ _ q => Heap.get?_push_of_some _ q) (Nat.le_refl _) ⟨by rw [List.length_reverse]; exact hz, _, 0, r.reverse, Heap.get?_push_size _ rfl⟩, rfl, q _ (I5.hok.fresh (Nat.le_refl _))⟩
  · obtain ⟨its, r, ht, hz⟩ := I5.tuple hx
    refine tail_any (ops := [.ref a, .ref s4.heap.objs.size]) ht.typeIs (PyProof.Rows.slot_tuple_getitem.lookup) (HT.getItem_tuple_back ht (Heap.IsSliceOf.new _ vl vu vs) pl pu ps ?_ (by rw [List.size_toArray, ← r.length]; exact hz)) (by with_unfolding_all rfl)
    refine ⟨.ref _, _, I5.laid (t' := s4.toks) (o := .tup xs.reverse) (fun _ _ q => Heap.get?_push_of_some _ q) (Nat.le_refl _) ⟨by rw [List.length_reverse]; exact hz, _, r.reverse, IsTup.new _ _⟩, rfl, q _ (I5.hok.fresh (Nat.le_refl _))⟩
theorem ev_rev {k : Nat} {p1 p2 p3 : Pos} (ha : EV X W a da) : EV X W (.Subscript a (.Slice none none (some (.UnaryOp .USub (.Constant (.int 1) k p1) p2)) p3) pos) (dbind da drev) :=
  PEimp (pe_revA ha) fun σ H Q q => (tE.bind (es := []) (xs := []) q).mono fun v H1 ⟨en, env, tm, τ, F, L, hl, R, q⟩ => by
    rw [List.nil_append, List.nil_append] at R
    unfold drev at q
    cases e1 : cont env en with
    | none => rw [e1] at q; exact q.elim
    | some pv =>
      rw [e1] at q
      obtain ⟨p0, rp⟩ := R.top.rep e1
      cases pv with
      | lst o xs =>
        dsimp only at q
        by_cases hz : PV.fzs xs = true
        · rw [if_pos hz] at q
          obtain ⟨ad, vs, rfl, hp, hlen, rr⟩ := RepO.asL R.fle rp
          exact ⟨ad, vs, rfl, .inl ⟨SqL.of hp, fun p hn => q [.ref p] F _ _ rfl (Same.refl F) (R.pop.newL hn (rr hz).rev) _ rfl⟩⟩
        · rw [if_neg hz] at q; exact q.elim
      | tup xs =>
        dsimp only at q
        obtain ⟨ad, vs, rfl, hp, rr, _⟩ := RepO.asT R.fle rp
        refine ⟨ad, vs, rfl, .inr ⟨hp, fun p hn => ?_⟩⟩
        obtain ⟨R2, k2⟩ := R.pop.newT hn rr.rev
        exact q [.ref p] _ _ _ rfl k2 R2 _ rfl
      | _ => exact q.elim
end
end Pv
namespace Pv
open PySem PySem.Spec PyProof.Rows L2

/-! ### a list of the frame's own is changed -/
section
variable {P : Program} {w : World} {K : PySem.W.Frag} {F F' H H' : Hp} {L L' : Lab} {env env' tm tm' : PEnv} {σ σ' : L2.St} {τ τ' : List V}
theorem Rel.mutL {j : Nat} {p : Path} {xs ys : List PV} {v : V} {us : List V} (R : Rel P w K env tm σ τ F H L) (hlk : look env j p = some (.lst true xs)) (hv : RepO P w K F H L (2 * j :: p) (.lst true xs) v) (hz : PV.fzs ys = true) (hr : RepFs P w K F ys us) :
    ∃ l vs, v = .ref l ∧ H l = some (.lst vs) ∧ xs.length = vs.length ∧ (PV.fzs xs = true → RepFs P w K F xs vs) ∧ Rel P w K (putE env j p (.lst true ys)) tm σ τ F (upd H l (.lst us)) L := by
  rw [RepO] at hv
  obtain ⟨l, vs, rfl, hL, hH, kids⟩ := hv
  refine ⟨l, vs, rfl, hH, kids.length, fun z => RepOs.toF z kids, ?_⟩
  obtain ⟨pv, e1, e2, e3⟩ := look_some hlk
  have fl : F l = none := R.lf l _ hL
  refine R.mut e1 e2 e3 (Same.refl F) (fun b o e => ?_) R.lf (fun a q e => ?_) (fun u hu => ?_) (fun a s l' hp => ⟨l', upd_ne fun z => ?_⟩) R.inj fun i q hm => ?_
  · rw [upd_ne (ne_of_none e fl)]; exact R.fle b o e
  · by_cases ha : a = l
    · subst ha; exact ⟨_, upd_same⟩
    · rw [upd_ne ha]; exact R.lh a q e
  · rw [RepO] at hu ⊢
    obtain ⟨a, ws, rfl, la, ha, _⟩ := hu
    obtain rfl := R.inj a l _ la hL
    exact ⟨a, us, rfl, la, upd_same, RepOs.ofF hr⟩
  · subst z
    rw [hL] at l'
    cases l'
    exact hp (List.prefix_refl _)
  · by_cases hc : i = j ∧ p <+: q ∧ p ≠ q
    · refine .inr fun x hx => ?_
      obtain ⟨rfl, ⟨r, rfl⟩, hne⟩ := hc
      obtain ⟨y, f1, f2, f3⟩ := look_some hx
      rw [putE_get e1] at f1
      cases f1
      rw [at_append] at f2
      have h0 := put_at p [] pv (.lst true ys) ⟨_, by rw [List.append_nil]; exact e2⟩
      rw [List.append_nil] at h0
      rw [h0, e2] at f2
      cases r with
      | nil => exact hne (by simp)
      | cons c r =>
        have h1 : (PV.lst true ys).at (c :: r) = some x := f2
        rw [flat_at (a := .lst true ys) hz h1] at f3
        cases f3
    · exact .inl hc
end

/-! ### methods of lists -/
def dlk (a : Sl) : D Unit := dget fun env => match a with
  | .al j p => match look env j p with
    | some (.lst true _) => some ()
    | _ => none
  | _ => none
def dmethE (g : List PV → List PV → Option (List PV × PV)) (a : Sl) (es : PEnv) : D Sl := fun env => match frzEs env es with
  | some (ps, env1) => match a with
    | .al j p => match look env1 j p with
      | some (.lst true xs) => if PV.fzs xs = true then match g xs ps with
          | some (ys, r) => if PV.fzs ys = true then .ok (.val r) (putE env1 j p (.lst true ys)) else .no
          | none => .no
        else .no
      | _ => .no
    | _ => .no
  | none => .no
def dmeth (g : List PV → List PV → Option (List PV × PV)) (o : D Sl) (ds : D PEnv) : D Sl := dbind o fun a => dbind (dlk a) fun _ => dbind ds (dmethE g a)
/-- a method of lists does g -/
def MetL (P : Program) (w : World) (K : PySem.W.Frag) (rd : V → List V → Hp → VK → Prop) (g : List PV → List PV → Option (List PV × PV)) : Prop :=
  ∀ (F H : Hp) (l : Addr) (vs us : List V) (xs ps ys : List PV) (r : PV) (Q : VK), Same F H → H l = some (.lst vs) → RepFs P w K F xs vs → RepFs P w K F ps us → g xs ps = some (ys, r) →
    ∃ ws v, RepFs P w K F ys ws ∧ RepF P w K F r v ∧ (Q v (upd H l (.lst ws)) → rd (.ref l) us H Q)
def gAppend (xs ps : List PV) : Option (List PV × PV) := match ps with
  | [p] => if xs.length < 1000000 then some (xs ++ [p], .non) else none
  | _ => none
def gExtend (xs ps : List PV) : Option (List PV × PV) := match ps with
  | [.lst _ zs] => if xs.length + zs.length < 1000000 then some (xs ++ zs, .non) else none
  | _ => none
def gPop (xs ps : List PV) : Option (List PV × PV) := match ps with
  | [] => match xs[xs.length - 1]? with
    | some y => some (xs.dropLast, y)
    | none => none
  | _ => none
def gPopAt (xs ps : List PV) : Option (List PV × PV) := match ps with
  | [.int i] => if -(2 ^ 63) ≤ i ∧ i < 2 ^ 63 then match seqIndex? i xs.length with
      | some k => match xs[k]? with
        | some y => some (xs.eraseIdx k, y)
        | none => none
      | none => none
    else none
  | _ => none
def gInsert (xs ps : List PV) : Option (List PV × PV) := match ps with
  | [.int i, p] => if 0 ≤ i ∧ i < 2 ^ 63 ∧ xs.length < 1000000 then some (xs.take i.toNat ++ [p] ++ xs.drop i.toNat, .non) else none
  | _ => none
section
variable {P : Program} {w : World} {K : PySem.W.Frag} {F H : Hp}
theorem RepFs.one {p : PV} {us : List V} (h : RepFs P w K F [p] us) : ∃ u, us = [u] ∧ RepF P w K F p u := by
  rw [RepFs] at h
  obtain ⟨v, r, rfl, h1, h2⟩ := h
  rw [RepFs] at h2
  subst h2
  exact ⟨v, rfl, h1⟩
theorem RepFs.two {p q : PV} {us : List V} (h : RepFs P w K F [p, q] us) : ∃ u v, us = [u, v] ∧ RepF P w K F p u ∧ RepF P w K F q v := by
  rw [RepFs] at h
  obtain ⟨v, r, rfl, h1, h2⟩ := h
  obtain ⟨u, rfl, h3⟩ := h2.one
  exact ⟨v, u, rfl, h1, h3⟩
theorem RepFs.take {xs : List PV} {vs : List V} (h : RepFs P w K F xs vs) (n : Nat) : RepFs P w K F (xs.take n) (vs.take n) := by
  refine RepFs.of (by rw [List.length_take, List.length_take, h.length]) fun i x v hx hv => ?_
  rw [List.getElem?_take] at hx hv
  split at hx
  · rename_i hi
    rw [if_pos hi] at hv
    obtain ⟨u, e1, e2⟩ := h.get hx
    rw [hv] at e1
    cases e1
    exact e2
  · cases hx
theorem RepFs.drop {xs : List PV} {vs : List V} (h : RepFs P w K F xs vs) (n : Nat) : RepFs P w K F (xs.drop n) (vs.drop n) := by
  refine RepFs.of (by rw [List.length_drop, List.length_drop, h.length]) fun i x v hx hv => ?_
  rw [List.getElem?_drop] at hx hv
  obtain ⟨u, e1, e2⟩ := h.get hx
  rw [hv] at e1
  cases e1
  exact e2
theorem RepFs.set {xs : List PV} {vs : List V} {p : PV} {v : V} (h : RepFs P w K F xs vs) (h2 : RepF P w K F p v) (n : Nat) : RepFs P w K F (xs.set n p) (vs.set n v) := by
  refine RepFs.of (by rw [List.length_set, List.length_set, h.length]) fun i x u hx hu => ?_
  rcases getElem?_set_cases hx with ⟨rfl, rfl, hl⟩ | ⟨hne, hx⟩
  · rw [List.getElem?_set_self (by rw [← h.length]; exact hl)] at hu
    cases hu
    exact h2
  · rw [List.getElem?_set_ne hne] at hu
    obtain ⟨u', e1, e2⟩ := h.get hx
    rw [hu] at e1
    cases e1
    exact e2
theorem met_append : MetL P w K rAppend gAppend := fun F H l vs us xs ps ys r Q k hH hx hp h => by
  have hz : (16777216 : Nat) = sizeLine := sl24
  match ps, h with
  | [p], h =>
    unfold gAppend at h
    dsimp only at h
    by_cases hl : xs.length < 1000000
    · rw [if_pos hl] at h
      cases h
      obtain ⟨u, rfl, hu⟩ := hp.one
      refine ⟨vs ++ [u], .non, hx.append (by rw [RepFs]; exact ⟨u, [], rfl, hu, by rw [RepFs]⟩), by rw [RepF], fun q => ⟨l, vs, u, rfl, rfl, hH, by rw [← hx.length, ← hz]; omega, q⟩⟩
    · rw [if_neg hl] at h; cases h
  | [], h => cases h
  | _ :: _ :: _, h => cases h
theorem met_extend : MetL P w K rExtend gExtend := fun F H l vs us xs ps ys r Q k hH hx hp h => by
  have hz : (16777216 : Nat) = sizeLine := sl24
  match ps, h with
  | [.lst o zs], h =>
    unfold gExtend at h
    dsimp only at h
    by_cases hl : xs.length + zs.length < 1000000
    · rw [if_pos hl] at h
      cases h
      obtain ⟨u, rfl, hu⟩ := hp.one
      rw [RepF] at hu
      obtain ⟨_, b, ws, rfl, hb, hzs⟩ := hu
      exact ⟨vs ++ ws, .non, hx.append hzs, by rw [RepF], fun q => ⟨l, b, vs, ws, rfl, rfl, hH, k _ _ hb, by rw [← hx.length, ← hzs.length, ← hz]; omega, q⟩⟩
    · rw [if_neg hl] at h; cases h
  | [], h => cases h
  | _ :: _ :: _, h => simp [gExtend] at h
  | [.non], h | [.bl _], h | [.int _], h | [.str _], h | [.ref _], h | [.ty _], h | [.tup _], h | [.frl _], h | [.dct _ _ _], h => cases h
theorem met_pop : MetL P w K rPop gPop := fun F H l vs us xs ps ys r Q k hH hx hp h => by
  match ps, h with
  | _ :: _, h => cases h
  | [], h =>
    unfold gPop at h
    dsimp only at h
    cases e : xs[xs.length - 1]? with
    | none => rw [e] at h; cases h
    | some y =>
      rw [e] at h
      cases h
      rw [RepFs] at hp
      subst hp
      obtain ⟨u, hu, hr⟩ := hx.get e
      refine ⟨vs.dropLast, u, ?_, hr, fun q => ⟨l, vs, u, rfl, rfl, hH, by rw [← hx.length]; exact hu, q⟩⟩
      rw [List.dropLast_eq_take, List.dropLast_eq_take, ← hx.length]
      exact hx.take _
theorem met_popAt : MetL P w K rPopAt gPopAt := fun F H l vs us xs ps ys r Q k hH hx hp h => by
  match ps, h with
  | [.int i], h =>
    unfold gPopAt at h
    dsimp only at h
    by_cases hb : -(2 ^ 63) ≤ i ∧ i < 2 ^ 63
    · rw [if_pos hb] at h
      cases e : seqIndex? i xs.length with
      | none => rw [e] at h; cases h
      | some n =>
        rw [e] at h
        dsimp only at h
        cases e2 : xs[n]? with
        | none => rw [e2] at h; cases h
        | some y =>
          rw [e2] at h
          cases h
          obtain ⟨u, rfl, hu⟩ := hp.one
          rw [RepF] at hu
          subst hu
          obtain ⟨u, hu, hr⟩ := hx.get e2
          refine ⟨vs.eraseIdx n, u, ?_, hr, fun q => ⟨l, vs, i, n, u, rfl, rfl, hH, hb.1, hb.2, by rw [← hx.length]; exact e, hu, q⟩⟩
          rw [List.eraseIdx_eq_take_drop_succ, List.eraseIdx_eq_take_drop_succ]
          exact (hx.take _).append (hx.drop _)
    · rw [if_neg hb] at h; cases h
  | [], h => cases h
  | _ :: _ :: _, h => simp [gPopAt] at h
  | [.non], h | [.bl _], h | [.lst _ _], h | [.str _], h | [.ref _], h | [.ty _], h | [.tup _], h | [.frl _], h | [.dct _ _ _], h => cases h
end
section
variable {X : Cx} {W : WX} {fi : List Nat} {σ0 : L2.St} {o e : Expr} {es : List Expr} {dO dI da db : D Sl} {ds : D PEnv} {name : Str} {apos cpos pos : Pos} {id : String} {rd : V → List V → Hp → VK → Prop} {g : List PV → List PV → Option (List PV × PV)}
theorem meth_imp {σ : L2.St} {H : Hp} {Q : VK} (hm : MetL X.prog X.w X.K rd g) (h : tE X.prog X.w X.K W (dmeth g dO ds) σ H Q) :
    tE X.prog X.w X.K W dO σ H fun x H1 => tyV X.K "list" x H1 ∧ tAr X.prog X.w X.K W ds σ H1 fun xs H2 => rd x xs H2 Q :=
  (tE.bind (es := []) (xs := []) h).mono fun v H1 ⟨a, q⟩ => by
    obtain ⟨env, tm, τ, F, L, _, hl, R, hc, q2⟩ := q.get
    rw [List.nil_append, List.nil_append] at R
    cases a with
    | un => cases hc
    | val _ => cases hc
    | al j p =>
      dsimp only at hc
      cases e1 : look env j p with
      | none => rw [e1] at hc; cases hc
      | some x =>
        rw [e1] at hc
        have hx : ∃ xs, x = .lst true xs := by
          cases x with
          | lst ow xs =>
            cases ow with
            | true => exact ⟨xs, rfl⟩
            | false => cases hc
          | _ => cases hc
        obtain ⟨xs, rfl⟩ := hx
        have hr := R.top _ e1
        rw [RepO] at hr
        obtain ⟨l, vs, rfl, _, hH, _⟩ := hr
        refine ⟨.inl ⟨rfl, vs, SqL.of hH⟩, (tAr.bind q2).mono fun us H2 ⟨en, q3⟩ => ?_⟩
        obtain ⟨env2, tm2, τ2, F2, L2, hl2, R2, q3⟩ := q3
        rw [List.nil_append, List.nil_append] at R2 hl2
        have hlen : en.length = us.length := by simpa using hl2
        have R2' : Rel X.prog X.w X.K env2 ((tm2 ++ [Sl.al j p]) ++ en) σ ((τ2 ++ [V.ref l]) ++ us) F2 H2 L2 := by simpa using R2
        unfold dmethE at q3
        cases e3 : frzEs env2 en with
        | none => rw [e3] at q3; exact q3.elim
        | some r3 =>
          obtain ⟨ps, env3⟩ := r3
          rw [e3] at q3
          dsimp only at q3
          obtain ⟨F3, L3, k3, R3, RF⟩ := R2'.frzAll (R2'.popN hlen).tlen e3
          have R4 := R3.popN (by rw [List.length_map]; exact RF.length)
          cases e4 : look env3 j p with
          | none => rw [e4] at q3; exact q3.elim
          | some x =>
            rw [e4] at q3
            cases x with
            | lst ow xs2 =>
              cases ow with
              | false => exact q3.elim
              | true =>
                dsimp only at q3
                by_cases hz : PV.fzs xs2 = true
                · rw [if_pos hz] at q3
                  cases e5 : g xs2 ps with
                  | none => rw [e5] at q3; exact q3.elim
                  | some r5 =>
                    obtain ⟨ys, r⟩ := r5
                    rw [e5] at q3
                    dsimp only at q3
                    by_cases hy : PV.fzs ys = true
                    · rw [if_pos hy] at q3
                      have hr4 := R4.top _ e4
                      have hv := hr4
                      rw [RepO] at hv
                      obtain ⟨l', vs2, el, _, hH2, kids⟩ := hv
                      cases el
                      obtain ⟨ws, rv, h1, h2, h3⟩ := hm F3 H2 l vs2 us xs2 ps ys r Q R4.fle hH2 (RepOs.toF hz kids) RF e5
                      obtain ⟨l2, vs3, el2, _, _, _, R5⟩ := R4.pop.mutL e4 hr4 hy h1
                      cases el2
                      exact h3 (q3 [rv] F3 _ L3 rfl k3 (R5.pushF h2) rv rfl)
                    · rw [if_neg hy] at q3; exact q3.elim
                · rw [if_neg hz] at q3; exact q3.elim
            | _ => exact q3.elim
theorem ev_meth (pa : PlainAttrs "list") (slot : Slot "list" name id) (hty : typeOf (.builtin id) = pure (.type "method_descriptor")) (hr : MtR X id rd) (hm : MetL X.prog X.w X.K rd g) (ho : EV X W o dO) (ha : AV X W (e :: es) ds)
    (hbase : attributeBase o name X.env (eval o X.env) = eval o X.env := by rfl)
    (hfew : ((backTo cpos (starEach (e :: es) X.env)).all (fun x => !x.1) && (backToKw cpos (keywordEach [] X.env)).all (fun x => x.1.isSome)
      && decide ((e :: es).length + ([] : List Keyword).length + (if ([] : List Keyword).isEmpty then 0 else 1) < 30)) = true := by rfl)
    (hline : (apos.endLine == cpos.line) = true := by rfl) (hs : starEach (e :: es) X.env = (false, eval e X.env) :: starEach es X.env := by rfl) (hplain : (backTo cpos (starEach es X.env)).any (·.1) = false := by rfl) :
    EV X W (.Call (.Attribute o name apos) (e :: es) [] cpos) (dmeth g dO ds) :=
  PEimp (pe_bm pa slot hty hr ho ha hbase hfew hline hs hplain) fun σ H Q h => meth_imp hm h
theorem ev_append (ho : EV X W o dO) (ha : AV X W [e] ds) (hbase : attributeBase o "append" X.env (eval o X.env) = eval o X.env := by rfl)
    (hfew : ((backTo cpos (starEach [e] X.env)).all (fun x => !x.1) && (backToKw cpos (keywordEach [] X.env)).all (fun x => x.1.isSome) && decide ([e].length + ([] : List Keyword).length + (if ([] : List Keyword).isEmpty then 0 else 1) < 30)) = true := by rfl)
    (hline : (apos.endLine == cpos.line) = true := by rfl) (hs : starEach [e] X.env = (false, eval e X.env) :: starEach [] X.env := by rfl) (hplain : (backTo cpos (starEach [] X.env)).any (·.1) = false := by rfl) :
    EV X W (.Call (.Attribute o "append" apos) [e] [] cpos) (dmeth gAppend dO ds) := ev_meth PySem.F.plainAttrs_list PySem.F.slot_list_append PySem.F.type_list_append mt_append met_append ho ha hbase hfew hline hs hplain
theorem ev_extend (ho : EV X W o dO) (ha : AV X W [e] ds) (hbase : attributeBase o "extend" X.env (eval o X.env) = eval o X.env := by rfl)
    (hfew : ((backTo cpos (starEach [e] X.env)).all (fun x => !x.1) && (backToKw cpos (keywordEach [] X.env)).all (fun x => x.1.isSome) && decide ([e].length + ([] : List Keyword).length + (if ([] : List Keyword).isEmpty then 0 else 1) < 30)) = true := by rfl)
    (hline : (apos.endLine == cpos.line) = true := by rfl) (hs : starEach [e] X.env = (false, eval e X.env) :: starEach [] X.env := by rfl) (hplain : (backTo cpos (starEach [] X.env)).any (·.1) = false := by rfl) :
    EV X W (.Call (.Attribute o "extend" apos) [e] [] cpos) (dmeth gExtend dO ds) := ev_meth PySem.F.plainAttrs_list PySem.F.slot_list_extend PySem.F.type_list_extend mt_extend met_extend ho ha hbase hfew hline hs hplain
theorem ev_popAt (ho : EV X W o dO) (ha : AV X W [e] ds) (hbase : attributeBase o "pop" X.env (eval o X.env) = eval o X.env := by rfl)
    (hfew : ((backTo cpos (starEach [e] X.env)).all (fun x => !x.1) && (backToKw cpos (keywordEach [] X.env)).all (fun x => x.1.isSome) && decide ([e].length + ([] : List Keyword).length + (if ([] : List Keyword).isEmpty then 0 else 1) < 30)) = true := by rfl)
    (hline : (apos.endLine == cpos.line) = true := by rfl) (hs : starEach [e] X.env = (false, eval e X.env) :: starEach [] X.env := by rfl) (hplain : (backTo cpos (starEach [] X.env)).any (·.1) = false := by rfl) :
    EV X W (.Call (.Attribute o "pop" apos) [e] [] cpos) (dmeth gPopAt dO ds) := ev_meth PySem.F.plainAttrs_list PySem.F.slot_list_pop PySem.F.type_list_pop mt_popAt met_popAt ho ha hbase hfew hline hs hplain

/-! ### x[i] = v -/
theorem gv_ix (ho : EV X noW o dO) (hi : EV X noW e dI) (ha : ∀ v, assign (.Subscript o e pos) X.env v = (do
      let ov ← holding [v] (eval o X.env)
      let iv ← holding [v, ov] (eval e X.env)
      standAt pos
      holding [v, ov, iv] (setItem ov iv v)
      release [v, ov, iv] []) := by intro _; rfl) : GV X fi σ0 (.Subscript o e pos) (.ix dO dI) :=
  PGimp (pg_sub ho hi set_list ha) fun v σ H Q ⟨env, tm, τ, F, L, p, env', R, fx, hp, hs, q⟩ => by
    rw [setT] at hs
    refine ⟨env, tm, τ, F, L, rfl, by rw [List.append_nil, List.append_nil]; exact R, ?_⟩
    cases e1 : dO env with
    | no => rw [e1] at hs; cases hs
    | ex c env1 => rw [e1] at hs; cases hs
    | ok a env1 =>
      rw [e1] at hs
      dsimp only at hs
      intro vs F1 H1 L1 h1 k1 R1 x hx
      subst hx
      refine ⟨env1, tm ++ [a], τ ++ [x], F1, L1, rfl, by rw [List.append_nil, List.append_nil]; exact R1, ?_⟩
      cases e2 : dI env1 with
      | no => rw [e2] at hs; cases hs
      | ex c env2 => rw [e2] at hs; cases hs
      | ok b env2 =>
        rw [e2] at hs
        dsimp only at hs
        intro vs F2 H2 L2 h2 k2 R2 y hy
        subst hy
        unfold storeIx at hs
        cases a with
        | un => cases hs
        | val _ => cases hs
        | al j pq =>
          dsimp only at hs
          cases e3 : look env2 j pq with
          | none => rw [e3] at hs; cases hs
          | some z =>
            cases e4 : cont env2 b with
            | none =>
              rw [e3, e4] at hs
              cases z with
              | lst ow _ => cases ow <;> cases hs
              | _ => cases hs
            | some iz =>
              rw [e3, e4] at hs
              cases z with
              | lst ow xs =>
                cases ow with
                | false => cases hs
                | true =>
                  cases iz with
                  | int i =>
                    dsimp only at hs
                    cases e5 : ixN xs.length i with
                    | none => rw [e5] at hs; cases hs
                    | some k =>
                      rw [e5] at hs
                      dsimp only at hs
                      by_cases hz : PV.fzs xs = true
                      · rw [if_pos hz] at hs
                        cases hs
                        have hr := R2.pop.top _ e3
                        have hv := hr
                        rw [RepO] at hv
                        obtain ⟨l, vs, el, _, hH, kids⟩ := hv
                        subst el
                        obtain ⟨q5, r5⟩ := R2.top.rep e4
                        rw [RepO] at r5
                        subst r5
                        have hp2 := RepF.mono (k1.trans k2) _ _ hp
                        have hset := RepFs.set (RepOs.toF hz kids) hp2 k
                        have hfz : PV.fzs (xs.set k p) = true := RepFs.fzs _ _ hset
                        obtain ⟨l2, vs3, el2, hH2, hln, _, R5⟩ := R2.pop.pop.mutL e3 hr hfz hset
                        cases el2
                        rw [hH] at hH2
                        cases hH2
                        exact ⟨l, vs, i, k, rfl, rfl, hH, by rw [← hln]; exact e5, q _ _ _ _ (k1.trans k2) R5 fx⟩
                      · rw [if_neg hz] at hs; cases hs
                  | _ => cases hs
              | _ => cases hs
end
end Pv
namespace Pv
open PySem PySem.Spec PyProof.Rows L2

section
variable {X : Cx} {W : WX} {fi : List Nat} {σ0 : L2.St} {a b c e iter tg elt : Expr} {es : List Expr} {ds : D PEnv} {da db dc : D Sl} {sa sb : D Fl} {ta : D Bool} {st : Stmt} {rest : List Stmt} {pos : Pos}
/-- x, y, z = a, b, c as the model swaps stores -/
theorem sv_par3 {i j l : Nat} {x y z : Str} {px py pz pt : Pos} {kt k2 pt2} (G : Good X) (hi : X.N[i]? = some x) (hj : X.N[j]? = some y) (hl : X.N[l]? = some z) (hij : i ≠ j) (hil : i ≠ l) (hjl : j ≠ l) (hfi : i ∉ fi) (hfj : j ∉ fi) (hfl : l ∉ fi)
    (hx : X.env.scope.names.lookup x = some .local) (hy : X.env.scope.names.lookup y = some .local) (hz : X.env.scope.names.lookup z = some .local) (ha : AV X W [a, b, c] ds)
    (hw : swappedStores [.Tuple [.Name x px, .Name y py, .Name z pz] kt pt] (.Tuple [a, b, c] k2 pt2) X.env = pure (some [x, y, z]))
    (hs : swapsWithSole [.Tuple [.Name x px, .Name y py, .Name z pz] kt pt] (.Tuple [a, b, c] k2 pt2) pos.line X.env = pure false := by rfl) :
    SV X W fi σ0 (.Assign [.Tuple [.Name x px, .Name y py, .Name z pz] kt pt] (.Tuple [a, b, c] k2 pt2) pos) (dpars [i, j, l] ds) := by
  refine ⟨fun pins s σ H Dn I h => (ps_par3 (pos := pos) G.calm G.nd hi hj hl hij hil hjl hx hy hz ha hw hs).run pins s σ H Dn I ?_⟩
  have len : ∀ {k : Nat} {u : Str}, X.N[k]? = some u → k < σ.length := fun {k u} hk => by rw [I.len]; exact (List.getElem?_eq_some_iff.mp hk).1
  exact (tS.args h).mono fun vs H1 ⟨es, env, tm, τ, F, L, hle, R, fx, q⟩ => by
    have h3 : vs.length = 3 := by
      unfold dparsE at q
      cases e1 : unalEs env es with
      | none => rw [e1] at q; exact q.elim
      | some r =>
        obtain ⟨ps, env1⟩ := r
        rw [e1] at q
        dsimp only at q
        obtain ⟨F1, L1, k1, R1⟩ := R.unalAll (R.popN hle).tlen e1
        have hlp : ps.length = vs.length := by
          have h1 := R1.tlen
          have h2 := (R.popN hle).tlen
          simp at h1 h2
          omega
        match ps, q with
        | [], q => exact q.elim
        | [_], q => exact q.elim
        | [_, _], q => exact q.elim
        | [_, _, _], _ => exact hlp.symm
        | _ :: _ :: _ :: _ :: _, q => exact q.elim
    match vs, h3 with
    | [v1, v2, v3], _ => exact ⟨v1, v2, v3, rfl, pars_imp hle R fx (by simp [len hi, len hj, len hl]) (by simp [hfi, hfj, hfl]) q⟩
/-- x = [.. for ..] on one line, x a plain local -/
theorem sv_setLc {i : Nat} {y : Str} {py spos : Pos} {ifs : List Expr} {scope : Scope} {own : List (Str × Nat)} {di : D (List PV)} {tt : D Bool} {te : D Sl} {t : Tg} {fb : List Nat} (G : Good X) (hy : X.N[i]? = some y) (hyl : X.env.scope.names.lookup y = some .local) (hf : i ∉ fi)
    (hsw : swapsWith (.ListComp elt [⟨tg, iter, ifs, 0⟩] scope pos) (some (.Name y py)) spos.line X.env = pure true) (hi : IV X W tg iter di) (ok : BlkOk X.N X.env.scope scope own) (hfi : ∀ i, i < X.N.length → i ∉ own.map (·.2) → i ∈ fb)
    (hg : ∀ (s : Shared) (H : Hp) (C : Addr) (cl : List (Str × Addr)) (fp : List Addr) (σ0 : L2.St), GV (X.blk s H scope (compEnvC scope cl C X.env) fp) fb σ0 tg t)
    (ht : ∀ (s : Shared) (H : Hp) (C : Addr) (cl : List (Str × Addr)) (fp : List Addr), PtsV (X.blk s H scope (compEnvC scope cl C X.env) fp) ifs tt)
    (he : ∀ (s : Shared) (H : Hp) (C : Addr) (cl : List (Str × Addr)) (fp : List Addr), EV (X.blk s H scope (compEnvC scope cl C X.env) fp) noW elt te) (hs : ∀ x, foldedSetIterable iter X.env x = pure x := by intro _; rfl) (hnm : t.names = true := by rfl) :
    SV X W fi σ0 (.Assign [.Name y py] (.ListComp elt [⟨tg, iter, ifs, 0⟩] scope pos) spos) (dset i (dlc di t (own.map (·.2)) tt te)) := by
  refine ⟨fun pins s σ H Dn I h => (ps_setLc (py := py) (spos := spos) (g := gT X.prog X.w X.K fb (wipe σ (own.map (·.2))) t) (tt := tT X.prog X.w X.K noW tt) (te := tE X.prog X.w X.K noW te) G.calm G.nd hy hyl hsw hi ok (fun s H C cl fp => hg s H C cl fp _) ht he hs).run pins s σ H Dn I ?_⟩
  have hl : i < σ.length := by rw [I.len]; exact (List.getElem?_eq_some_iff.mp hy).1
  have q := (tS.expr h).mono fun v H1 ⟨e, env, tm, τ, F, L, R, fx, q⟩ => store_imp (i := i) (fi := fi) R fx hl hf q
  exact lc_imp I.len hfi hnm q
end
/-- a constant of the module -/
def GC (K : PySem.W.Frag) (mg : Str → Option Value) (x : Str) (pv : PV) : Prop := ∃ u v, mg x = some u ∧ RelV v u ∧ ∀ P w F, RepF P w K F pv v
theorem ev_gc {X : Cx} {W : WX} {x : Str} {pv : PV} {pos : Pos} (h : GC X.K X.mg x pv) (hg : Gl X x) (hd : (x == ("__debug__" : Str)) = false := by decide) : EV X W (.Name x pos) (dcon pv) := by
  obtain ⟨u, v, h1, h2, h3⟩ := h
  exact ev_glob hg h1 h2 (h3 _ _) hd
theorem good_fn {P : Program} {w : World} {K : PySem.W.Frag} {mg : Str → Option Value} {base : Heap} {N ps : List Str} {x : Str} {st : Stmt} {f : Addr} {cdv : Value} {A : Around} {outs : List Env} {s : Shared} {H : Hp} {E : XK} {k : Nat}
    (hr : Room k (A.deeper (envOfC x (defScope st) s.heap.objs.size f cdv))) (hg : A.guards = some []) (S : FnScope N ps (defScope st)) : Good (fnX P w K mg base N x st f cdv A outs s H E) := by
  refine ⟨rfl, ?_, hg, S.nd⟩
  have := hr.un
  show (A.deeper (envOfC x (defScope st) s.heap.objs.size f cdv)).units + 200 < cLine
  omega
theorem calG {P : Program} {w : World} {K : PySem.W.Frag} {mg : Str → Option Value} {base : Heap} {x : Str} {st : Stmt} {f : Addr} {fd : FuncData} {N ps : List Str} {k n np : Nat} {fi : List Nat} {d : D Fl} (Fn : L2.Fun K x x st f fd) (hm : mg x = some (.ref f)) (b : Binds K fd ps []) (S : FnScope N ps (defScope st)) (hn : N.length = n) (hp : ps.length = np)
    (hbody : ∀ (cdv : Value) (A : Around) (outs : List Env) (s : Shared) (H : Hp) (E : XK) (vs : List V), Room k (A.deeper (envOfC x (defScope st) s.heap.objs.size f cdv)) → A.guards = some [] →
      BV (fnX P w K mg base N x st f cdv A outs s H E) noW fi (L2.start N vs) (defBody st) d) : CalG P w K mg base (k + 1) x np (mkfn n np fi d) :=
  ⟨f, fd, ps, fnG_of Fn S hn hp hbody, hm, Fn.kp, b, fun _ _ h => mkfn_len h⟩
theorem vis_of {sc : Scope} {x : Str} (h : (match sc.names.lookup x with | some .local => true | some .cell => true | some .free => true | _ => false) = true) : Vis sc x := by
  unfold Vis
  cases e : sc.names.lookup x with
  | none => rw [e] at h; cases h
  | some k => cases k <;> first | exact .inl rfl | exact .inr (.inl rfl) | exact .inr (.inr rfl) | (rw [e] at h; cases h)
theorem loc_of {sc : Scope} {x : Str} (h : (match sc.names.lookup x with | some .local => true | some .cell => true | _ => false) = true) : Loc sc x := by
  unfold L2.Loc
  cases e : sc.names.lookup x with
  | none => rw [e] at h; cases h
  | some k => cases k <;> first | exact .inl rfl | exact .inr rfl | (rw [e] at h; cases h)
end Pv
namespace Pv
open PySem PySem.Spec PyProof.Rows L2
/-- an expression's value is shut at once -/
def dfrzE (a : Sl) : D Sl := fun env => match frzEs env [a] with
  | some ([p], env') => .ok (.val p) env'
  | _ => .no
def dfrz (d : D Sl) : D Sl := dbind d dfrzE
section
variable {X : Cx} {W : WX} {e : Expr} {d : D Sl}
theorem ev_frz (h : EV X W e d) : EV X W e (dfrz d) := PEimp h fun σ H Q q => (tE.bind (es := []) (xs := []) q).mono fun v H1 ⟨a, q⟩ => by
  obtain ⟨env, tm, τ, F, L, hl, R, q⟩ := q
  unfold dfrzE at q
  cases e1 : frzEs env [a] with
  | none => rw [e1] at q; exact q.elim
  | some r =>
    obtain ⟨ps, env'⟩ := r
    rw [e1] at q
    obtain ⟨F1, L1, k1, R1, hf⟩ := Rel.frzAll (pre := tm) (px := τ) (es := [a]) (xs := [v]) (by simpa using R) (by have := R.tlen; simp at this; omega) e1
    match ps, q with
    | [p], q => exact q [v] F1 H1 L1 rfl k1 (by simpa using R1) v rfl
end
end Pv
namespace Wk
open PySem PySem.Spec PyProof.Rows L2 Pv
theorem hfi_of {n : Nat} {vs fb : List Nat} (h : ((List.range n).all fun i => decide (i ∈ vs) || decide (i ∈ fb)) = true) : ∀ i, i < n → i ∉ vs → i ∈ fb := fun i hi hv => by
  have := List.all_eq_true.mp h i (List.mem_range.mpr hi)
  simpa [hv] using this
theorem hlt_of {n : Nat} {vs : List Nat} (h : (vs.all fun i => decide (i < n)) = true) : ∀ i ∈ vs, i < n := fun i hi => by
  simpa using List.all_eq_true.mp h i hi
def top (i : Nat) : Stmt := PySem.Challenge.pw_hillandwater_k67_whole_settled_lands_of.main.body.getD i (.Pass ⟨0, 0, 0, 0⟩)
abbrev s_ulaw_hand : Stmt := top 43
noncomputable def b_ulaw_hand : D Fl := (dseq (dset 1 (dlc (ditems (dslice (dname 0) none (some (dcon (.int 63))))) (.nm 2) [2] (dpure true) (dop (fun a b => dfn gMod [a, b]) (dcall (dfn gInt) (dcons (dcall (dfn gAbs) (dcons (dcall (dfn gInt) (dcons (dname 2) dnil)) dnil)) dnil)) (dop (fun a b => dfn gPow [a, b]) (dcon (.int 10)) (dcon (.int 40)))))) (dret (dlst (dcons (dname 1) (dcons (dcon (.int 0)) (dcons (dcon (.int 0)) (dcons (dop (fun a b => dfn gAdd [a, b]) (dcon (.int 6607)) (dop (fun a b => dfn gMul [a, b]) (dcon (.int 17)) (dcall (dfn gLen) (dcons (dname 1) dnil)))) (dcons (dcon (.int 0)) dnil))))))))
noncomputable def f_ulaw_hand : FnD := mkfn 3 1 [0] b_ulaw_hand
abbrev s_ulaw_spots : Stmt := top 49
noncomputable def b_ulaw_spots : D Fl := (dseq (dset 1 (dlst dnil)) (dseq (dfor (.nm 2) (drange1 (dcons (dcall (dfn gLen) (dcons (dname 0) dnil)) dnil)) (dexpr (dmeth gExtend (dname 1) (dcons (dlc (drange1 (dcons (dcall (dfn gLen) (dcons (dop dixE (dname 0) (dcon (.int 0))) dnil)) dnil)) (.nm 3) [3] (dpure true) (dtup (dcons (dname 2) (dcons (dname 3) dnil)))) dnil)))) (dret (dname 1))))
noncomputable def f_ulaw_spots : FnD := mkfn 4 1 [0] b_ulaw_spots
abbrev s_ulaw_beside : Stmt := top 48
noncomputable def b_ulaw_beside : D Fl := (dseq (dset 2 (dlst (dcons (dtup (dcons (dop (fun a b => dfn gSub [a, b]) (dop dixE (dname 1) (dcon (.int 0))) (dcon (.int 1))) (dcons (dop dixE (dname 1) (dcon (.int 1))) dnil))) (dcons (dtup (dcons (dop dixE (dname 1) (dcon (.int 0))) (dcons (dop (fun a b => dfn gSub [a, b]) (dop dixE (dname 1) (dcon (.int 1))) (dcon (.int 1))) dnil))) (dcons (dtup (dcons (dop dixE (dname 1) (dcon (.int 0))) (dcons (dop (fun a b => dfn gAdd [a, b]) (dop dixE (dname 1) (dcon (.int 1))) (dcon (.int 1))) dnil))) (dcons (dtup (dcons (dop (fun a b => dfn gAdd [a, b]) (dop dixE (dname 1) (dcon (.int 0))) (dcon (.int 1))) (dcons (dop dixE (dname 1) (dcon (.int 1))) dnil))) dnil)))))) (dret (dlc (ditems (dname 2)) (.nm 3) [3] (dtand (dtst (dchain gLe gLt (dcon (.int 0)) (dop dixE (dname 3) (dcon (.int 0))) (dcall (dfn gLen) (dcons (dname 0) dnil)))) (dtst (dchain gLe gLt (dcon (.int 0)) (dop dixE (dname 3) (dcon (.int 1))) (dcall (dfn gLen) (dcons (dop dixE (dname 0) (dcon (.int 0))) dnil))))) (dname 3))))
noncomputable def f_ulaw_beside : FnD := mkfn 4 2 [0, 1] b_ulaw_beside
abbrev s_ulaw_climb : Stmt := top 50
noncomputable def b_ulaw_climb : D Fl := (dret (dop (fun a b => dfn gSub [a, b]) (dop dixE (dop dixE (dname 0) (dop dixE (dname 2) (dcon (.int 0)))) (dop dixE (dname 2) (dcon (.int 1)))) (dop dixE (dop dixE (dname 0) (dop dixE (dname 1) (dcon (.int 0)))) (dop dixE (dname 1) (dcon (.int 1))))))
noncomputable def f_ulaw_climb : FnD := mkfn 3 3 [0, 1, 2] b_ulaw_climb
abbrev s_ulaw_steep : Stmt := top 51
noncomputable def b_ulaw_steep : D Fl := (dseq (dset 2 (dlst dnil)) (dseq (dfor (.nm 3) (ditems (dcallF f_ulaw_spots (dcons (dname 0) dnil))) (dexpr (dmeth gExtend (dname 2) (dcons (dlc (ditems (dcallF f_ulaw_beside (dcons (dname 0) (dcons (dname 3) dnil)))) (.nm 4) [4] (dtst (dop (fun a b => dfn gGt [a, b]) (dop (fun a b => dfn gSub [a, b]) (dcon (.int 0)) (dcallF f_ulaw_climb (dcons (dname 0) (dcons (dname 3) (dcons (dname 4) dnil))))) (dname 1))) (dtup (dcons (dname 3) (dcons (dname 4) dnil)))) dnil)))) (dret (dname 2))))
noncomputable def f_ulaw_steep : FnD := mkfn 5 2 [0, 1] b_ulaw_steep
abbrev s_ulaw_behind : Stmt := top 52
noncomputable def b_ulaw_behind : D Fl := (dseq (dset 2 (dlc (ditems (dname 0)) (.nm 5) [5] (dpure true) (dcall (dfn gList) (dcons (dname 5) dnil)))) (dseq (dfor (.tp [(.nm 3), (.nm 4)]) (ditems (dtup (dcons (dtup (dcons (dop dixE (dname 1) (dcon (.int 0))) (dcons (dop (fun a b => dfn gSub [a, b]) (dcon (.int 0)) (dcon (.int 1))) dnil))) (dcons (dtup (dcons (dop dixE (dname 1) (dcon (.int 1))) (dcons (dcon (.int 1)) dnil))) dnil)))) (dseq (dset 5 (dop dixE (dname 2) (dop dixE (dname 3) (dcon (.int 0))))) (dasg (.ix (dname 5) (dop dixE (dname 3) (dcon (.int 1)))) (dop (fun a b => dfn gAdd [a, b]) (dop dixE (dname 5) (dop dixE (dname 3) (dcon (.int 1)))) (dname 4))))) (dret (dcall (dfn gTuple) (dcons (dlc (ditems (dname 2)) (.nm 5) [5] (dpure true) (dcall (dfn gTuple) (dcons (dname 5) dnil))) dnil)))))
noncomputable def f_ulaw_behind : FnD := mkfn 6 2 [0, 1] b_ulaw_behind
abbrev s_ulaw_settled : Stmt := top 53
noncomputable def b_ulaw_settled : D Fl := (dseq (dset 2 (dname 0)) (dseq (dfor (.nm 3) (drange1 (dcons (dcon (.int 801)) dnil)) (dseq (dset 4 (dcallF f_ulaw_steep (dcons (dname 2) (dcons (dname 1) dnil)))) (dseq (dite (dtst (dop (fun a b => dfn gEq [a, b]) (dname 4) (dlst dnil))) (dret (dtup (dcons (dname 2) (dcons (dname 3) dnil)))) dskip) (dset 2 (dcallF f_ulaw_behind (dcons (dname 2) (dcons (dop dixE (dname 4) (dcon (.int 0))) dnil))))))) (dret (dcon .non))))
noncomputable def f_ulaw_settled : FnD := mkfn 5 2 [0, 1] b_ulaw_settled
abbrev s_ulaw_draw : Stmt := top 44
noncomputable def b_ulaw_draw : D Fl := (dseq (dite (dtand (dtst (dop (fun a b => dfn gEq [a, b]) (dop dixE (dname 0) (dcon (.int 2))) (dcon (.int 0)))) (dtst (dop (fun a b => dfn gLt [a, b]) (dop dixE (dname 0) (dcon (.int 1))) (dcall (dfn gLen) (dcons (dop dixE (dname 0) (dcon (.int 0))) dnil))))) (dseq (dset 3 (dop dixE (dop dixE (dname 0) (dcon (.int 0))) (dop dixE (dname 0) (dcon (.int 1))))) (dseq (dasg (.ix (dname 0) (dcon (.int 1))) (dop (fun a b => dfn gAdd [a, b]) (dop dixE (dname 0) (dcon (.int 1))) (dcon (.int 1)))) (dseq (dasg (.ix (dname 0) (dcon (.int 3))) (dop (fun a b => dfn gMod [a, b]) (dcall (dfn gInt) (dcons (dop (fun a b => dfn gAdd [a, b]) (dop (fun a b => dfn gAdd [a, b]) (dop (fun a b => dfn gMul [a, b]) (dop dixE (dname 0) (dcon (.int 3))) (dcon (.int 69621))) (dop (fun a b => dfn gMul [a, b]) (dname 3) (dcon (.int 40692)))) (dcon (.int 41))) dnil)) (dcon (.int 2147483629)))) (dite (dtst (dop (fun a b => dfn gGe [a, b]) (dname 3) (dop (fun a b => dfn gPow [a, b]) (dcon (.int 10)) (dcon (.int 18))))) (dasg (.ix (dname 0) (dcon (.int 2))) (dname 3)) dskip)))) dskip) (dseq (dite (dtst (dop (fun a b => dfn gGt [a, b]) (dop dixE (dname 0) (dcon (.int 2))) (dcon (.int 0)))) (dseq (dset 4 (dop (fun a b => dfn gMod [a, b]) (dcall (dfn gInt) (dcons (dop dixE (dname 0) (dcon (.int 2))) dnil)) (dname 1))) (dseq (dasg (.ix (dname 0) (dcon (.int 2))) (dop (fun a b => dfn gDiv [a, b]) (dop dixE (dname 0) (dcon (.int 2))) (dname 1))) (dret (dname 4)))) dskip) (dseq (dasg (.ix (dname 0) (dcon (.int 4))) (dop (fun a b => dfn gAdd [a, b]) (dop dixE (dname 0) (dcon (.int 4))) (dcon (.int 1)))) (dseq (dset 2 (dop (fun a b => dfn gMod [a, b]) (dcall (dfn gInt) (dcons (dop (fun a b => dfn gMul [a, b]) (dcall (dfn gInt) (dcons (dop (fun a b => dfn gAdd [a, b]) (dop dixE (dname 0) (dcon (.int 3))) (dop (fun a b => dfn gMul [a, b]) (dcon (.int 7919)) (dop dixE (dname 0) (dcon (.int 4))))) dnil)) (dcon (.int 48271))) dnil)) (dcon (.int 2147483647)))) (dseq (dset 2 (dop (fun a b => dfn gMod [a, b]) (dcall (dfn gInt) (dcons (dop (fun a b => dfn gMul [a, b]) (dname 2) (dop (fun a b => dfn gAdd [a, b]) (dop (fun a b => dfn gDiv [a, b]) (dname 2) (dcon (.int 1009))) (dcon (.int 69621)))) dnil)) (dcon (.int 2147483647)))) (dseq (dset 2 (dop (fun a b => dfn gMod [a, b]) (dcall (dfn gInt) (dcons (dop (fun a b => dfn gMul [a, b]) (dname 2) (dop (fun a b => dfn gAdd [a, b]) (dop (fun a b => dfn gDiv [a, b]) (dname 2) (dcon (.int 2003))) (dcon (.int 40692)))) dnil)) (dcon (.int 2147483399)))) (dret (dop (fun a b => dfn gMod [a, b]) (dcall (dfn gInt) (dcons (dop (fun a b => dfn gDiv [a, b]) (dname 2) (dcon (.int 16))) dnil)) (dname 1)))))))))
noncomputable def f_ulaw_draw : FnD := mkfn 5 2 [0, 1] b_ulaw_draw
abbrev s_ulaw_any : Stmt := top 45
noncomputable def b_ulaw_any : D Fl := (dret (dop dixE (dname 1) (dcallF f_ulaw_draw (dcons (dname 0) (dcons (dcall (dfn gLen) (dcons (dname 1) dnil)) dnil)))))
noncomputable def f_ulaw_any : FnD := mkfn 2 2 [0, 1] b_ulaw_any
abbrev s_ulaw_like : Stmt := top 46
noncomputable def b_ulaw_like : D Fl := (dret (dop (fun a b => dfn gEq [a, b]) (dcall (dfn gRepr) (dcons (dname 0) dnil)) (dcall (dfn gRepr) (dcons (dname 1) dnil))))
noncomputable def f_ulaw_like : FnD := mkfn 2 2 [0, 1] b_ulaw_like
abbrev s_ulaw_units : Stmt := top 54
noncomputable def b_ulaw_units : D Fl := (dret (dcall (dfn gSum) (dcons (dlc (ditems (dname 0)) (.nm 1) [1] (dpure true) (dcall (dfn gSum) (dcons (dname 1) dnil))) dnil)))
noncomputable def f_ulaw_units : FnD := mkfn 2 1 [0] b_ulaw_units
abbrev s_is_integer : Stmt := top 1
noncomputable def b_is_integer : D Fl := (dret (dand (dcall (dfn gIsi) (dcons (dname 0) (dcons (dcon (.ty "int")) dnil))) (dnot (dcall (dfn gIsi) (dcons (dname 0) (dcons (dcon (.ty "bool")) dnil))))))
noncomputable def f_is_integer : FnD := mkfn 1 1 [0] b_is_integer
abbrev s_is_within : Stmt := top 2
noncomputable def b_is_within : D Fl := (dret (dand (dcallF f_is_integer (dcons (dname 0) dnil)) (dchain gLe gLe (dname 1) (dname 0) (dname 2))))
noncomputable def f_is_within : FnD := mkfn 3 3 [0, 1, 2] b_is_within
abbrev s_is_height : Stmt := top 12
noncomputable def b_is_height : D Fl := (dret (dcallF f_is_within (dcons (dname 0) (dcons (dcon (.int 0)) (dcons (dcon (.int 1000)) dnil)))))
noncomputable def f_is_height : FnD := mkfn 1 1 [0] b_is_height
abbrev s_is_row : Stmt := top 13
noncomputable def b_is_row : D Fl := (dret (dand (dcall (dfn gIsi) (dcons (dname 0) (dcons (dcon (.ty "tuple")) dnil))) (dand (dchain gLe gLe (dcon (.int 1)) (dcall (dfn gLen) (dcons (dname 0) dnil)) (dcon (.int 8))) (dcall (dfn gAll) (dcons (dlc (ditems (dname 0)) (.nm 1) [1] (dpure true) (dcallF f_is_height (dcons (dname 1) dnil))) dnil)))))
noncomputable def f_is_row : FnD := mkfn 2 1 [0] b_is_row
abbrev s_is_land : Stmt := top 14
noncomputable def b_is_land : D Fl := (dseq (dite (dtor (dtnot (dtst (dcall (dfn gIsi) (dcons (dname 0) (dcons (dcon (.ty "tuple")) dnil))))) (dtnot (dtst (dchain gLe gLe (dcon (.int 1)) (dcall (dfn gLen) (dcons (dname 0) dnil)) (dcon (.int 8)))))) (dret (dcon (.bl false))) dskip) (dret (dand (dcall (dfn gAll) (dcons (dlc (ditems (dname 0)) (.nm 1) [1] (dpure true) (dcallF f_is_row (dcons (dname 1) dnil))) dnil)) (dcall (dfn gAll) (dcons (dlc (ditems (dname 0)) (.nm 1) [1] (dpure true) (dop (fun a b => dfn gEq [a, b]) (dcall (dfn gLen) (dcons (dname 1) dnil)) (dcall (dfn gLen) (dcons (dop dixE (dname 0) (dcon (.int 0))) dnil)))) dnil)))))
noncomputable def f_is_land : FnD := mkfn 2 1 [0] b_is_land
abbrev s_check_land : Stmt := top 15
noncomputable def b_check_land : D Fl := (dite (dtnot (dtst (dcallF f_is_land (dcons (dname 0) dnil)))) dno dskip)
noncomputable def f_check_land : FnD := mkfn 1 1 [0] b_check_land
abbrev s_check_steep : Stmt := top 29
noncomputable def b_check_steep : D Fl := (dseq (dexpr (dcallF f_check_land (dcons (dname 0) dnil))) (dite (dtnot (dtst (dcallF f_is_within (dcons (dname 1) (dcons (dcon (.int 1)) (dcons (dcon (.int 1000)) dnil)))))) dno dskip))
noncomputable def f_check_steep : FnD := mkfn 2 2 [0, 1] b_check_steep
abbrev s_height_of : Stmt := top 16
noncomputable def b_height_of : D Fl := (dret (dop dixE (dop dixE (dname 0) (dop dixE (dname 1) (dcon (.int 0)))) (dop dixE (dname 1) (dcon (.int 1)))))
noncomputable def f_height_of : FnD := mkfn 2 2 [0, 1] b_height_of
abbrev s_step_between : Stmt := top 25
noncomputable def b_step_between : D Fl := (dret (dcall (dfn gAbs) (dcons (dop (fun a b => dfn gSub [a, b]) (dcallF f_height_of (dcons (dname 0) (dcons (dname 1) dnil))) (dcallF f_height_of (dcons (dname 0) (dcons (dname 2) dnil)))) dnil)))
noncomputable def f_step_between : FnD := mkfn 3 3 [0, 1, 2] b_step_between
abbrev s_all_spots : Stmt := top 17
noncomputable def b_all_spots : D Fl := (dseq (dset 1 (dlst dnil)) (dseq (dfor (.nm 2) (drange1 (dcons (dcall (dfn gLen) (dcons (dname 0) dnil)) dnil)) (dexpr (dmeth gExtend (dname 1) (dcons (dlc (drange1 (dcons (dcall (dfn gLen) (dcons (dop dixE (dname 0) (dcon (.int 0))) dnil)) dnil)) (.nm 3) [3] (dpure true) (dtup (dcons (dname 2) (dcons (dname 3) dnil)))) dnil)))) (dret (dname 1))))
noncomputable def f_all_spots : FnD := mkfn 4 1 [0] b_all_spots
abbrev s_stepped : Stmt := top 19
noncomputable def b_stepped : D Fl := (dret (dtup (dcons (dop (fun a b => dfn gAdd [a, b]) (dop dixE (dname 0) (dcon (.int 0))) (dop (fun a b => dfn gMul [a, b]) (dname 2) (dop dixE (dname 1) (dcon (.int 0))))) (dcons (dop (fun a b => dfn gAdd [a, b]) (dop dixE (dname 0) (dcon (.int 1))) (dop (fun a b => dfn gMul [a, b]) (dname 2) (dop dixE (dname 1) (dcon (.int 1))))) dnil))))
noncomputable def f_stepped : FnD := mkfn 3 3 [0, 1, 2] b_stepped
abbrev s_is_on_land : Stmt := top 18
noncomputable def b_is_on_land : D Fl := (dret (dand (dchain gLe gLt (dcon (.int 0)) (dop dixE (dname 1) (dcon (.int 0))) (dcall (dfn gLen) (dcons (dname 0) dnil))) (dchain gLe gLt (dcon (.int 0)) (dop dixE (dname 1) (dcon (.int 1))) (dcall (dfn gLen) (dcons (dop dixE (dname 0) (dcon (.int 0))) dnil)))))
noncomputable def f_is_on_land : FnD := mkfn 2 2 [0, 1] b_is_on_land
abbrev s_spots_beside : Stmt := top 20
noncomputable def b_spots_beside : D Fl := (dseq (dset 2 (dlc (ditems (dcon (.tup [.tup [.int (-1), .int 0], .tup [.int 0, .int (-1)], .tup [.int 0, .int 1], .tup [.int 1, .int 0]]))) (.nm 3) [3] (dpure true) (dcallF f_stepped (dcons (dname 1) (dcons (dname 3) (dcons (dcon (.int 1)) dnil)))))) (dret (dlc (ditems (dname 2)) (.nm 4) [4] (dtst (dcallF f_is_on_land (dcons (dname 0) (dcons (dname 4) dnil)))) (dname 4))))
noncomputable def f_spots_beside : FnD := mkfn 5 2 [0, 1] b_spots_beside
abbrev s_pairs_beside : Stmt := top 24
noncomputable def b_pairs_beside : D Fl := (dseq (dset 1 (dlst dnil)) (dseq (dfor (.nm 2) (ditems (dcallF f_all_spots (dcons (dname 0) dnil))) (dexpr (dmeth gExtend (dname 1) (dcons (dlc (ditems (dcallF f_spots_beside (dcons (dname 0) (dcons (dname 2) dnil)))) (.nm 3) [3] (dtst (dop (fun a b => dfn gLt [a, b]) (dname 2) (dname 3))) (dtup (dcons (dname 2) (dcons (dname 3) dnil)))) dnil)))) (dret (dname 1))))
noncomputable def f_pairs_beside : FnD := mkfn 4 1 [0] b_pairs_beside
abbrev s_raw_greatest_step : Stmt := top 26
noncomputable def b_raw_greatest_step : D Fl := (dret (dcall (dfn gMax) (dcons (dop (fun a b => dfn gAdd [a, b]) (dlst (dcons (dcon (.int 0)) dnil)) (dlc (ditems (dcallF f_pairs_beside (dcons (dname 0) dnil))) (.tp [(.nm 1), (.nm 2)]) [1, 2] (dpure true) (dcallF f_step_between (dcons (dname 0) (dcons (dname 1) (dcons (dname 2) dnil)))))) dnil)))
noncomputable def f_raw_greatest_step : FnD := mkfn 3 1 [0] b_raw_greatest_step
abbrev s_all_heights : Stmt := top 21
noncomputable def b_all_heights : D Fl := (dseq (dset 1 (dlst dnil)) (dseq (dfor (.nm 2) (ditems (dname 0)) (dexpr (dmeth gExtend (dname 1) (dcons (dcall (dfn gList) (dcons (dname 2) dnil)) dnil)))) (dret (dname 1))))
noncomputable def f_all_heights : FnD := mkfn 3 1 [0] b_all_heights
abbrev s_is_settled : Stmt := top 39
noncomputable def b_is_settled : D Fl := (dseq (dexpr (dcallF f_check_steep (dcons (dname 0) (dcons (dname 1) dnil)))) (dseq (dite (dtor (dtnot (dtst (dcallF f_is_land (dcons (dname 2) dnil)))) (dtor (dtst (dop (fun a b => dfn gNe [a, b]) (dcall (dfn gLen) (dcons (dname 2) dnil)) (dcall (dfn gLen) (dcons (dname 0) dnil)))) (dtst (dop (fun a b => dfn gNe [a, b]) (dcall (dfn gLen) (dcons (dop dixE (dname 2) (dcon (.int 0))) dnil)) (dcall (dfn gLen) (dcons (dop dixE (dname 0) (dcon (.int 0))) dnil)))))) (dret (dcon (.bl false))) dskip) (dret (dand (dop (fun a b => dfn gLe [a, b]) (dcallF f_raw_greatest_step (dcons (dname 2) dnil)) (dname 1)) (dop (fun a b => dfn gEq [a, b]) (dcall (dfn gSum) (dcons (dcallF f_all_heights (dcons (dname 2) dnil)) dnil)) (dcall (dfn gSum) (dcons (dcallF f_all_heights (dcons (dname 0) dnil)) dnil)))))))
noncomputable def f_is_settled : FnD := mkfn 3 3 [0, 1, 2] b_is_settled
abbrev s_ulaw_is_settled : Stmt := top 56
noncomputable def b_ulaw_is_settled : D Fl := (dseq (dite (dtor (dtnot (dtst (dcall (dfn gIsi) (dcons (dname 2) (dcons (dcon (.ty "tuple")) dnil))))) (dtor (dtst (dop (fun a b => dfn gNe [a, b]) (dcall (dfn gLen) (dcons (dname 2) dnil)) (dcall (dfn gLen) (dcons (dname 0) dnil)))) (dtnot (dtst (dcall (dfn gAll) (dcons (dlc (ditems (dname 2)) (.nm 3) [3] (dpure true) (dcall (dfn gIsi) (dcons (dname 3) (dcons (dcon (.ty "tuple")) dnil)))) dnil)))))) (dret (dcon (.bl false))) dskip) (dseq (dfor (.nm 3) (ditems (dname 2)) (dseq (dite (dtor (dtst (dop (fun a b => dfn gNe [a, b]) (dcall (dfn gLen) (dcons (dname 3) dnil)) (dcall (dfn gLen) (dcons (dop dixE (dname 0) (dcon (.int 0))) dnil)))) (dtnot (dtst (dcall (dfn gAll) (dcons (dlc (ditems (dname 3)) (.nm 4) [4] (dpure true) (dand (dcall (dfn gIsi) (dcons (dname 4) (dcons (dcon (.ty "int")) dnil))) (dnot (dcall (dfn gIsi) (dcons (dname 4) (dcons (dcon (.ty "bool")) dnil)))))) dnil))))) (dret (dcon (.bl false))) dskip) (dite (dtnot (dtst (dcall (dfn gAll) (dcons (dlc (ditems (dname 3)) (.nm 4) [4] (dpure true) (dchain gLe gLe (dcon (.int 0)) (dname 4) (dcon (.int 1000)))) dnil)))) (dret (dcon (.bl false))) dskip))) (dret (dand (dop (fun a b => dfn gEq [a, b]) (dcallF f_ulaw_units (dcons (dname 2) dnil)) (dcallF f_ulaw_units (dcons (dname 0) dnil))) (dop (fun a b => dfn gEq [a, b]) (dcallF f_ulaw_steep (dcons (dname 2) (dcons (dname 1) dnil))) (dlst dnil))))))
noncomputable def f_ulaw_is_settled : FnD := mkfn 5 3 [0, 1, 2] b_ulaw_is_settled
abbrev s_ulaw_are_things_right : Stmt := top 57
noncomputable def b_ulaw_are_things_right : D Fl := (dseq (dset 4 (dcallF f_ulaw_spots (dcons (dname 1) dnil))) (dseq (dset 5 (dcallF f_ulaw_behind (dcons (dname 3) (dcons (dtup (dcons (dcallF f_ulaw_any (dcons (dname 0) (dcons (dname 4) dnil))) (dcons (dcallF f_ulaw_any (dcons (dname 0) (dcons (dname 4) dnil))) dnil))) dnil)))) (dseq (dpars [6, 7] (dcons (dop (fun a b => dfn gDiv [a, b]) (dcallF f_ulaw_units (dcons (dname 1) dnil)) (dcall (dfn gLen) (dcons (dname 4) dnil))) (dcons (dop (fun a b => dfn gMod [a, b]) (dcall (dfn gInt) (dcons (dcallF f_ulaw_units (dcons (dname 1) dnil)) dnil)) (dcall (dfn gLen) (dcons (dname 4) dnil))) dnil))) (dseq (dset 8 (dlc (drange1 (dcons (dcall (dfn gLen) (dcons (dname 4) dnil)) dnil)) (.nm 13) [13] (dpure true) (dop (fun a b => dfn gAdd [a, b]) (dname 6) (dcall (dfn gInt) (dcons (dop (fun a b => dfn gLt [a, b]) (dname 13) (dname 7)) dnil))))) (dseq (dset 9 (dcall (dfn gLen) (dcons (dop dixE (dname 1) (dcon (.int 0))) dnil))) (dseq (dset 10 (dcall (dfn gTuple) (dcons (dlc (drange1 (dcons (dcall (dfn gLen) (dcons (dname 1) dnil)) dnil)) (.nm 14) [14] (dpure true) (dcall (dfn gTuple) (dcons (dslice (dname 8) (some (dop (fun a b => dfn gMul [a, b]) (dname 14) (dname 9))) (some (dop (fun a b => dfn gAdd [a, b]) (dop (fun a b => dfn gMul [a, b]) (dname 14) (dname 9)) (dname 9)))) dnil))) dnil))) (dseq (dset 11 (dlst (dcons (dname 3) (dcons (dname 5) (dcons (dname 10) (dcons (dname 1) (dcons (dslice (dname 3) (some (dcon (.int 1))) none) (dcons (dop (fun a b => dfn gAdd [a, b]) (dname 3) (dslice (dname 3) none (some (dcon (.int 1))))) (dcons (dcall (dfn gList) (dcons (dname 3) dnil)) (dcons (dcon .non) (dcons (dtup dnil) dnil))))))))))) (dseq (dset 11 (dop (fun a b => dfn gAdd [a, b]) (dname 11) (dlst (dcons (dop (fun a b => dfn gAdd [a, b]) (dslice (dname 3) none (some (dun (fun a => dfn gNeg [a]) (dcon (.int 1))))) (dtup (dcons (dop (fun a b => dfn gAdd [a, b]) (dtup (dcons (dop (fun a b => dfn gAdd [a, b]) (dop dixE (dop dixE (dname 3) (dun (fun a => dfn gNeg [a]) (dcon (.int 1)))) (dcon (.int 0))) (dcon (.int 1))) dnil)) (dslice (dop dixE (dname 3) (dun (fun a => dfn gNeg [a]) (dcon (.int 1)))) (some (dcon (.int 1))) none)) dnil))) (dcons (dbind (dname 3) drev) dnil))))) (dseq (dset 11 (dop (fun a b => dfn gAdd [a, b]) (dname 11) (dlst (dcons (dcall (dfn gTuple) (dcons (dlc (ditems (dname 3)) (.nm 14) [14] (dpure true) (dbind (dname 14) drev)) dnil)) (dcons (dcall (dfn gTuple) (dcons (dlc (ditems (dname 3)) (.nm 14) [14] (dpure true) (dfrz (dcall (dfn gList) (dcons (dname 14) dnil)))) dnil)) dnil))))) (dseq (dfor (.nm 12) (ditems (dname 11)) (dite (dtnot (dtst (dcallF f_ulaw_like (dcons (dcallF f_is_settled (dcons (dname 1) (dcons (dname 2) (dcons (dname 12) dnil)))) (dcons (dcallF f_ulaw_is_settled (dcons (dname 1) (dcons (dname 2) (dcons (dname 12) dnil)))) dnil))))) (dret (dcon (.bl false))) dskip)) (dret (dcon (.bl true)))))))))))))
noncomputable def f_ulaw_are_things_right : FnD := mkfn 15 4 [0, 1, 2, 3] b_ulaw_are_things_right
abbrev s_higher_first : Stmt := top 30
noncomputable def b_higher_first : D Fl := (dret (dif (dtst (dop (fun a b => dfn gGt [a, b]) (dcallF f_height_of (dcons (dname 0) (dcons (dname 1) dnil))) (dcallF f_height_of (dcons (dname 0) (dcons (dname 2) dnil))))) (dtup (dcons (dname 1) (dcons (dname 2) dnil))) (dtup (dcons (dname 2) (dcons (dname 1) dnil)))))
noncomputable def f_higher_first : FnD := mkfn 3 3 [0, 1, 2] b_higher_first
abbrev s_raw_steep_pairs : Stmt := top 31
noncomputable def b_raw_steep_pairs : D Fl := (dseq (dset 2 (dlc (ditems (dcallF f_pairs_beside (dcons (dname 0) dnil))) (.tp [(.nm 3), (.nm 4)]) [3, 4] (dtst (dop (fun a b => dfn gGt [a, b]) (dcallF f_step_between (dcons (dname 0) (dcons (dname 3) (dcons (dname 4) dnil)))) (dname 1))) (dtup (dcons (dname 3) (dcons (dname 4) dnil))))) (dret (dcall (dfn gSorted) (dcons (dlc (ditems (dname 2)) (.tp [(.nm 3), (.nm 4)]) [3, 4] (dpure true) (dcallF f_higher_first (dcons (dname 0) (dcons (dname 3) (dcons (dname 4) dnil))))) dnil))))
noncomputable def f_raw_steep_pairs : FnD := mkfn 5 2 [0, 1] b_raw_steep_pairs
abbrev s_steep_pairs : Stmt := top 32
noncomputable def b_steep_pairs : D Fl := (dseq (dexpr (dcallF f_check_steep (dcons (dname 0) (dcons (dname 1) dnil)))) (dret (dcall (dfn gTuple) (dcons (dcallF f_raw_steep_pairs (dcons (dname 0) (dcons (dname 1) dnil))) dnil))))
noncomputable def f_steep_pairs : FnD := mkfn 2 2 [0, 1] b_steep_pairs
abbrev s_with_height : Stmt := top 22
noncomputable def b_with_height : D Fl := (dseq (dset 3 (dop dixE (dname 0) (dop dixE (dname 1) (dcon (.int 0))))) (dseq (dset 3 (dop (fun a b => dfn gAdd [a, b]) (dop (fun a b => dfn gAdd [a, b]) (dslice (dname 3) none (some (dop dixE (dname 1) (dcon (.int 1))))) (dtup (dcons (dname 2) dnil))) (dslice (dname 3) (some (dop (fun a b => dfn gAdd [a, b]) (dop dixE (dname 1) (dcon (.int 1))) (dcon (.int 1)))) none))) (dret (dop (fun a b => dfn gAdd [a, b]) (dop (fun a b => dfn gAdd [a, b]) (dslice (dname 0) none (some (dop dixE (dname 1) (dcon (.int 0))))) (dtup (dcons (dname 3) dnil))) (dslice (dname 0) (some (dop (fun a b => dfn gAdd [a, b]) (dop dixE (dname 1) (dcon (.int 0))) (dcon (.int 1)))) none)))))
noncomputable def f_with_height : FnD := mkfn 4 3 [0, 1, 2] b_with_height
abbrev s_moved_unit : Stmt := top 33
noncomputable def b_moved_unit : D Fl := (dseq (dset 3 (dcallF f_with_height (dcons (dname 0) (dcons (dname 1) (dcons (dop (fun a b => dfn gSub [a, b]) (dcallF f_height_of (dcons (dname 0) (dcons (dname 1) dnil))) (dcon (.int 1))) dnil))))) (dret (dcallF f_with_height (dcons (dname 3) (dcons (dname 2) (dcons (dop (fun a b => dfn gAdd [a, b]) (dcallF f_height_of (dcons (dname 3) (dcons (dname 2) dnil))) (dcon (.int 1))) dnil))))))
noncomputable def f_moved_unit : FnD := mkfn 4 3 [0, 1, 2] b_moved_unit
abbrev s_raw_fall : Stmt := top 34
noncomputable def b_raw_fall : D Fl := (dseq (dset 2 (dcallF f_raw_steep_pairs (dcons (dname 0) (dcons (dname 1) dnil)))) (dret (dif (dtst (dop (fun a b => dfn gGt [a, b]) (dcall (dfn gLen) (dcons (dname 2) dnil)) (dcon (.int 0)))) (dcallF f_moved_unit (dcons (dname 0) (dcons (dop dixE (dop dixE (dname 2) (dcon (.int 0))) (dcon (.int 0))) (dcons (dop dixE (dop dixE (dname 2) (dcon (.int 0))) (dcon (.int 1))) dnil)))) (dname 0))))
noncomputable def f_raw_fall : FnD := mkfn 3 2 [0, 1] b_raw_fall
abbrev s_fall : Stmt := top 35
noncomputable def b_fall : D Fl := (dseq (dexpr (dcallF f_check_steep (dcons (dname 0) (dcons (dname 1) dnil)))) (dret (dcallF f_raw_fall (dcons (dname 0) (dcons (dname 1) dnil)))))
noncomputable def f_fall : FnD := mkfn 2 2 [0, 1] b_fall
abbrev s_least_steep : Stmt := top 41
noncomputable def b_least_steep : D Fl := (dseq (dexpr (dcallF f_check_land (dcons (dname 0) dnil))) (dret (dcallF f_raw_greatest_step (dcons (dname 0) dnil))))
noncomputable def f_least_steep : FnD := mkfn 1 1 [0] b_least_steep
abbrev s_all_falls : Stmt := top 36
noncomputable def b_all_falls : D Fl := (dseq (dpars [2, 3] (dcons (dcon (.int 0)) (dcons (dcallF f_raw_fall (dcons (dname 0) (dcons (dname 1) dnil))) dnil))) (dseq (dwhile (dtst (dop (fun a b => dfn gNe [a, b]) (dname 3) (dname 0))) (dseq (dset 2 (dop (fun a b => dfn gAdd [a, b]) (dname 2) (dcon (.int 1)))) (dseq (dite (dtst (dop (fun a b => dfn gGt [a, b]) (dname 2) (dcon (.int 20000)))) dno dskip) (dpars [0, 3] (dcons (dname 3) (dcons (dcallF f_raw_fall (dcons (dname 3) (dcons (dname 1) dnil))) dnil)))))) (dret (dtup (dcons (dname 0) (dcons (dname 2) dnil))))))
noncomputable def f_all_falls : FnD := mkfn 4 2 [1] b_all_falls
abbrev s_settled : Stmt := top 38
noncomputable def b_settled : D Fl := (dseq (dexpr (dcallF f_check_steep (dcons (dname 0) (dcons (dname 1) dnil)))) (dret (dop dixE (dcallF f_all_falls (dcons (dname 0) (dcons (dname 1) dnil))) (dcon (.int 0)))))
noncomputable def f_settled : FnD := mkfn 2 2 [0, 1] b_settled
abbrev s_falls_many : Stmt := top 37
noncomputable def b_falls_many : D Fl := (dseq (dexpr (dcallF f_check_steep (dcons (dname 0) (dcons (dname 1) dnil)))) (dret (dop dixE (dcallF f_all_falls (dcons (dname 0) (dcons (dname 1) dnil))) (dcon (.int 1)))))
noncomputable def f_falls_many : FnD := mkfn 2 2 [0, 1] b_falls_many
abbrev s_moved_by_falls : Stmt := top 40
noncomputable def b_moved_by_falls : D Fl := (dseq (dexpr (dcallF f_check_steep (dcons (dname 0) (dcons (dname 1) dnil)))) (dseq (dset 2 (dop dixE (dcallF f_all_falls (dcons (dname 0) (dcons (dname 1) dnil))) (dcon (.int 0)))) (dret (dcall (dfn gSum) (dcons (dlc (dzip (dcons (dcallF f_all_heights (dcons (dname 0) dnil)) (dcons (dcallF f_all_heights (dcons (dname 2) dnil)) dnil))) (.tp [(.nm 3), (.nm 4)]) [3, 4] (dpure true) (dcall (dfn gAbs) (dcons (dop (fun a b => dfn gSub [a, b]) (dname 3) (dname 4)) dnil))) dnil)))))
noncomputable def f_moved_by_falls : FnD := mkfn 5 2 [0, 1] b_moved_by_falls
abbrev s_ulaw_is_land_right : Stmt := top 58
noncomputable def b_ulaw_is_land_right : D Fl := (dseq (dset 2 (dlst dnil)) (dseq (dfor (.nm 3) (ditems (dcallF f_ulaw_spots (dcons (dname 1) dnil))) (dexpr (dmeth gExtend (dname 2) (dcons (dlc (ditems (dcallF f_ulaw_beside (dcons (dname 1) (dcons (dname 3) dnil)))) (.nm 13) [13] (dpure true) (dcall (dfn gAbs) (dcons (dcallF f_ulaw_climb (dcons (dname 1) (dcons (dname 3) (dcons (dname 13) dnil)))) dnil))) dnil)))) (dseq (dset 4 (dcall (dfn gMax) (dcons (dop (fun a b => dfn gAdd [a, b]) (dname 2) (dlst (dcons (dcon (.int 0)) dnil))) dnil))) (dseq (dset 5 (dcall (dfn gMax) (dcons (dcon (.int 1)) (dcons (dcallF f_ulaw_any (dcons (dname 0) (dcons (dlst (dcons (dcon (.int 1)) (dcons (dcon (.int 1)) (dcons (dcon (.int 2)) (dcons (dcon (.int 3)) (dcons (dname 4) (dcons (dop (fun a b => dfn gSub [a, b]) (dname 4) (dcon (.int 1))) dnil))))))) dnil))) dnil)))) (dseq (dpars [6, 7] (dcons (dcallF f_ulaw_steep (dcons (dname 1) (dcons (dname 5) dnil))) (dcons (dlst (dcons (dcallF f_steep_pairs (dcons (dname 1) (dcons (dname 5) dnil))) (dcons (dcallF f_fall (dcons (dname 1) (dcons (dname 5) dnil))) (dcons (dcallF f_least_steep (dcons (dname 1) dnil)) dnil)))) dnil))) (dseq (dite (dtnot (dtst (dcallF f_ulaw_like (dcons (dname 7) (dcons (dlst (dcons (dcall (dfn gTuple) (dcons (dname 6) dnil)) (dcons (dif (dtst (dop (fun a b => dfn gNe [a, b]) (dname 6) (dlst dnil))) (dcallF f_ulaw_behind (dcons (dname 1) (dcons (dop dixE (dname 6) (dcon (.int 0))) dnil))) (dname 1)) (dcons (dname 4) dnil)))) dnil))))) (dret (dcon (.bl false))) dskip) (dseq (dset 8 (dcallF f_ulaw_settled (dcons (dname 1) (dcons (dname 5) dnil)))) (dseq (dite (dtst (dop (fun a b => dfn gIs [a, b]) (dname 8) (dcon .non))) (dret (dcon (.bl true))) dskip) (dseq (dasg (.tp [(.nm 9), (.nm 10)]) (dname 8)) (dseq (dset 11 (dcon (.int 0))) (dseq (dfor (.tp [(.nm 12), (.nm 13)]) (dzip (dcons (dname 9) (dcons (dname 1) dnil))) (dset 11 (dop (fun a b => dfn gAdd [a, b]) (dname 11) (dcall (dfn gSum) (dcons (dlc (dzip (dcons (dname 12) (dcons (dname 13) dnil))) (.tp [(.nm 14), (.nm 15)]) [14, 15] (dpure true) (dcall (dfn gAbs) (dcons (dop (fun a b => dfn gSub [a, b]) (dname 14) (dname 15)) dnil))) dnil))))) (dseq (dite (dtnot (dtst (dcallF f_ulaw_like (dcons (dlst (dcons (dcallF f_settled (dcons (dname 1) (dcons (dname 5) dnil))) (dcons (dcallF f_falls_many (dcons (dname 1) (dcons (dname 5) dnil))) (dcons (dcallF f_moved_by_falls (dcons (dname 1) (dcons (dname 5) dnil))) dnil)))) (dcons (dlst (dcons (dname 9) (dcons (dname 10) (dcons (dname 11) dnil)))) dnil))))) (dret (dcon (.bl false))) dskip) (dret (dand (dop (fun a b => dfn gEq [a, b]) (dcallF f_ulaw_units (dcons (dname 9) dnil)) (dcallF f_ulaw_units (dcons (dname 1) dnil))) (dcallF f_ulaw_are_things_right (dcons (dname 0) (dcons (dname 1) (dcons (dname 5) (dcons (dname 9) dnil)))))))))))))))))))
noncomputable def f_ulaw_is_land_right : FnD := mkfn 16 2 [0, 1] b_ulaw_is_land_right
abbrev s_ulaw_land : Stmt := top 47
noncomputable def b_ulaw_land : D Fl := (dseq (dpars [3, 4] (dcons (dcallF f_ulaw_any (dcons (dname 0) (dcons (dlst (dcons (dname 1) (dcons (dop (fun a b => dfn gAdd [a, b]) (dcon (.int 1)) (dcallF f_ulaw_draw (dcons (dname 0) (dcons (dname 1) dnil)))) dnil))) dnil))) (dcons (dcallF f_ulaw_any (dcons (dname 0) (dcons (dlst (dcons (dname 1) (dcons (dop (fun a b => dfn gAdd [a, b]) (dcon (.int 1)) (dcallF f_ulaw_draw (dcons (dname 0) (dcons (dname 1) dnil)))) dnil))) dnil))) dnil))) (dseq (dpars [5, 6] (dcons (dlst dnil) (dcons (dcallF f_ulaw_any (dcons (dname 0) (dcons (dlst (dcons (dcon (.int 0)) (dcons (dcon (.int 1)) (dcons (dname 2) dnil)))) dnil))) dnil))) (dseq (dfor (.nm 7) (drange1 (dcons (dname 3) dnil)) (dseq (dset 8 (dlst dnil)) (dseq (dfor (.nm 9) (drange1 (dcons (dname 4) dnil)) (dseq (dset 10 (dif (dtst (dop (fun a b => dfn gNe [a, b]) (dname 8) (dlst dnil))) (dlst (dcons (dop dixE (dname 8) (dun (fun a => dfn gNeg [a]) (dcon (.int 1)))) dnil)) (dif (dtst (dop (fun a b => dfn gNe [a, b]) (dname 5) (dlst dnil))) (dlst (dcons (dop dixE (dop dixE (dname 5) (dun (fun a => dfn gNeg [a]) (dcon (.int 1)))) (dcon (.int 0))) dnil)) (dlst (dcons (dcallF f_ulaw_draw (dcons (dname 0) (dcons (dop (fun a b => dfn gAdd [a, b]) (dname 2) (dcon (.int 1))) dnil))) dnil))))) (dseq (dset 11 (dif (dtst (dop (fun a b => dfn gLt [a, b]) (dname 6) (dname 2))) (dop (fun a b => dfn gSub [a, b]) (dop (fun a b => dfn gAdd [a, b]) (dop dixE (dname 10) (dcon (.int 0))) (dcallF f_ulaw_draw (dcons (dname 0) (dcons (dop (fun a b => dfn gAdd [a, b]) (dop (fun a b => dfn gMul [a, b]) (dcon (.int 2)) (dname 6)) (dcon (.int 1))) dnil)))) (dname 6)) (dcallF f_ulaw_draw (dcons (dname 0) (dcons (dop (fun a b => dfn gAdd [a, b]) (dname 2) (dcon (.int 1))) dnil))))) (dexpr (dmeth gAppend (dname 8) (dcons (dcall (dfn gMax) (dcons (dcon (.int 0)) (dcons (dcall (dfn gMin) (dcons (dname 2) (dcons (dname 11) dnil))) dnil))) dnil)))))) (dexpr (dmeth gAppend (dname 5) (dcons (dcall (dfn gTuple) (dcons (dname 8) dnil)) dnil)))))) (dret (dcall (dfn gTuple) (dcons (dname 5) dnil))))))
noncomputable def f_ulaw_land : FnD := mkfn 12 3 [0, 1, 2] b_ulaw_land
abbrev s_ulaw_heap : Stmt := top 55
noncomputable def b_ulaw_heap : D Fl := (dseq (dpars [1, 2, 3] (dcons (dcallF f_ulaw_draw (dcons (dname 0) (dcons (dcon (.int 4)) dnil))) (dcons (dop (fun a b => dfn gAdd [a, b]) (dcon (.int 1)) (dcallF f_ulaw_draw (dcons (dname 0) (dcons (dcon (.int 6)) dnil)))) (dcons (dop (fun a b => dfn gAdd [a, b]) (dcon (.int 1)) (dcallF f_ulaw_draw (dcons (dname 0) (dcons (dcon (.int 6)) dnil)))) dnil)))) (dseq (dite (dtst (dop (fun a b => dfn gEq [a, b]) (dname 1) (dcon (.int 0)))) (dret (dcallF f_ulaw_land (dcons (dname 0) (dcons (dcon (.int 5)) (dcons (dcon (.int 20)) dnil))))) dskip) (dseq (dset 4 (dlc (drange1 (dcons (dname 2) dnil)) (.nm 8) [8] (dpure true) (dlc (drange1 (dcons (dname 3) dnil)) (.nm 9) [9] (dpure true) (dcallF f_ulaw_draw (dcons (dname 0) (dcons (dcon (.int 3)) dnil)))))) (dseq (dfor (.nm 5) (drange1 (dcons (dname 1) dnil)) (dseq (dset 6 (dop dixE (dname 4) (dcallF f_ulaw_draw (dcons (dname 0) (dcons (dname 2) dnil))))) (dseq (dset 7 (dcallF f_ulaw_draw (dcons (dname 0) (dcons (dname 3) dnil)))) (dseq (dasg (.ix (dname 6) (dname 7)) (dop (fun a b => dfn gAdd [a, b]) (dop dixE (dname 6) (dname 7)) (dcallF f_ulaw_draw (dcons (dname 0) (dcons (dcon (.int 31)) dnil))))) (dite (dtst (dop (fun a b => dfn gEq [a, b]) (dname 1) (dcon (.int 3)))) (dasg (.tp [(.ix (dname 6) (dcon (.int 0))), (.ix (dname 6) (dun (fun a => dfn gNeg [a]) (dcon (.int 1))))]) (dtup (dcons (dop dixE (dname 6) (dname 7)) (dcons (dop dixE (dname 6) (dcon (.int 0))) dnil)))) dskip))))) (dret (dcall (dfn gTuple) (dcons (dlc (ditems (dname 4)) (.nm 8) [8] (dpure true) (dcall (dfn gTuple) (dcons (dname 8) dnil))) dnil)))))))
noncomputable def f_ulaw_heap : FnD := mkfn 10 1 [0] b_ulaw_heap
abbrev s_law : Stmt := top 59
noncomputable def b_law : D Fl := (dseq (dset 1 (dcallF f_ulaw_hand (dcons (dname 0) dnil))) (dret (dcall (dfn gAll) (dcons (dlc (drange1 (dcons (dcon (.int 4)) dnil)) (.nm 2) [2] (dpure true) (dcallF f_ulaw_is_land_right (dcons (dname 1) (dcons (dcallF f_ulaw_heap (dcons (dname 1) dnil)) dnil)))) dnil))))
noncomputable def f_law : FnD := mkfn 3 1 [0] b_law
structure Txt (K : PySem.W.Frag) (mg : Str → Option Value) : Prop where
  z_abs : mg "abs" = none
  z_all : mg "all" = none
  z_bool : mg "bool" = none
  z_int : mg "int" = none
  z_isinstance : mg "isinstance" = none
  z_len : mg "len" = none
  z_list : mg "list" = none
  z_max : mg "max" = none
  z_min : mg "min" = none
  z_range : mg "range" = none
  z_repr : mg "repr" = none
  z_sorted : mg "sorted" = none
  z_sum : mg "sum" = none
  z_tuple : mg "tuple" = none
  z_zip : mg "zip" = none
  c_MOST_FALLS : GC K mg "MOST_FALLS" (.int 20000)
  c_MOST_HEIGHT : GC K mg "MOST_HEIGHT" (.int 1000)
  c_MOST_SIDE : GC K mg "MOST_SIDE" (.int 8)
  c_SIDES : GC K mg "SIDES" (.tup [.tup [.int (-1), .int 0], .tup [.int 0, .int (-1)], .tup [.int 0, .int 1], .tup [.int 1, .int 0]])
section
variable {P : Program} {w : World} {K : PySem.W.Frag} {mg : Str → Option Value} {base : Heap}
theorem sc_ulaw_hand : FnScope ["script", "cells", "cell"] ["script"] (defScope s_ulaw_hand) := ⟨rfl, rfl, rfl, by decide +kernel, rfl, by decide +kernel, by decide +kernel⟩
theorem c_ulaw_hand (T : Txt K mg) {f : Addr} {fd : FuncData} (Fn : L2.Fun K "_law_hand" "_law_hand" s_ulaw_hand f fd) (hm : mg "_law_hand" = some (.ref f)) (b : Binds K fd ["script"] []) : CalG P w K mg base 1 "_law_hand" 1 f_ulaw_hand := by
  refine calG (k := 0) (d := b_ulaw_hand) Fn hm b sc_ulaw_hand rfl rfl fun cdv A outs s H E vs hr0 hg => ?_
  have G := good_fn (P := P) (w := w) (K := K) (mg := mg) (base := base) (outs := outs) (H := H) (E := E) hr0 hg sc_ulaw_hand
  have hr : Room 0 (fnX P w K mg base ["script", "cells", "cell"] "_law_hand" s_ulaw_hand f cdv A outs s H E).A := hr0
  exact (bv_cons (sv_setLc (i := 1) (own := [("cell", 2)]) (fb := [0, 1]) G rfl rfl (by decide) rfl (iv_items (ev_slice (dl := none) (dh := (some (dcon (.int 63)))) (ev_name (i := 0) rfl (vis_of rfl)) po_none (po_some ev_int))) (blkOk_by rfl) (hfi_of rfl) (fun _ _ _ _ _ _ => (gv_name (i := 2) G.blk rfl (loc_of rfl) (by decide))) (fun _ _ _ _ _ => ptsv_nil) (fun _ _ _ _ _ => (ev_op rule_mod.op (ev_callT rule_int rfl T.z_int rfl (av_cons (ev_callB rule_abs rfl T.z_abs rfl (av_cons (ev_callT rule_int rfl T.z_int rfl (av_cons (ev_name (i := 2) rfl (vis_of rfl)) av_nil)) av_nil)) av_nil)) (ev_op rule_pow.op ev_int ev_int)))) (bv_one (sv_ret (ev_lst (av_cons (ev_name (i := 1) rfl (vis_of rfl)) (av_cons ev_int (av_cons ev_int (av_cons (ev_op rule_add.op ev_int (ev_op rule_mul.op ev_int (ev_callB rule_len rfl T.z_len rfl (av_cons (ev_name (i := 1) rfl (vis_of rfl)) av_nil)))) (av_cons ev_int av_nil)))))))))
theorem sc_ulaw_spots : FnScope ["land", "found", "row", "column"] ["land"] (defScope s_ulaw_spots) := ⟨rfl, rfl, rfl, by decide +kernel, rfl, by decide +kernel, by decide +kernel⟩
theorem c_ulaw_spots (T : Txt K mg) {f : Addr} {fd : FuncData} (Fn : L2.Fun K "_law_spots" "_law_spots" s_ulaw_spots f fd) (hm : mg "_law_spots" = some (.ref f)) (b : Binds K fd ["land"] []) : CalG P w K mg base 1 "_law_spots" 1 f_ulaw_spots := by
  refine calG (k := 0) (d := b_ulaw_spots) Fn hm b sc_ulaw_spots rfl rfl fun cdv A outs s H E vs hr0 hg => ?_
  have G := good_fn (P := P) (w := w) (K := K) (mg := mg) (base := base) (outs := outs) (H := H) (E := E) hr0 hg sc_ulaw_spots
  have hr : Room 0 (fnX P w K mg base ["land", "found", "row", "column"] "_law_spots" s_ulaw_spots f cdv A outs s H E).A := hr0
  exact (bv_cons (sv_set (i := 1) G rfl (loc_of rfl) (by decide) (ev_lst av_nil)) (bv_cons (sv_for G PassesOwn.never (iv_range1 rfl T.z_range (av_cons (ev_callB rule_len rfl T.z_len rfl (av_cons (ev_name (i := 0) rfl (vis_of rfl)) av_nil)) av_nil)) (gv_name (i := 2) G rfl (loc_of rfl) (by decide)) (bv_one (sv_expr (ev_extend (ev_name (i := 1) rfl (vis_of rfl)) (av_cons (ev_lc (own := [("column", 3)]) (fi := [0, 1, 2]) G (iv_range1 rfl T.z_range (av_cons (ev_callB rule_len rfl T.z_len rfl (av_cons (ev_ix (ev_name (i := 0) rfl (vis_of rfl)) ev_int) av_nil)) av_nil)) (blkOk_by rfl) (hfi_of rfl) (fun _ _ _ _ _ _ => (gv_name (i := 3) G.blk rfl (loc_of rfl) (by decide))) (fun _ _ _ _ _ => ptsv_nil) (fun _ _ _ _ _ => (ev_tup (av_cons (ev_name (i := 2) rfl (vis_of rfl)) (av_cons (ev_name (i := 3) rfl (vis_of rfl)) av_nil))))) av_nil))))) (bv_one (sv_ret (ev_name (i := 1) rfl (vis_of rfl))))))
theorem sc_ulaw_beside : FnScope ["land", "spot", "some", "one"] ["land", "spot"] (defScope s_ulaw_beside) := ⟨rfl, rfl, rfl, by decide +kernel, rfl, by decide +kernel, by decide +kernel⟩
theorem c_ulaw_beside (T : Txt K mg) {f : Addr} {fd : FuncData} (Fn : L2.Fun K "_law_beside" "_law_beside" s_ulaw_beside f fd) (hm : mg "_law_beside" = some (.ref f)) (b : Binds K fd ["land", "spot"] []) : CalG P w K mg base 1 "_law_beside" 2 f_ulaw_beside := by
  refine calG (k := 0) (d := b_ulaw_beside) Fn hm b sc_ulaw_beside rfl rfl fun cdv A outs s H E vs hr0 hg => ?_
  have G := good_fn (P := P) (w := w) (K := K) (mg := mg) (base := base) (outs := outs) (H := H) (E := E) hr0 hg sc_ulaw_beside
  have hr : Room 0 (fnX P w K mg base ["land", "spot", "some", "one"] "_law_beside" s_ulaw_beside f cdv A outs s H E).A := hr0
  exact (bv_cons (sv_set (i := 2) G rfl (loc_of rfl) (by decide) (ev_lst (av_cons (ev_tup (av_cons (ev_op rule_sub.op (ev_ix (ev_name (i := 1) rfl (vis_of rfl)) ev_int) ev_int) (av_cons (ev_ix (ev_name (i := 1) rfl (vis_of rfl)) ev_int) av_nil))) (av_cons (ev_tup (av_cons (ev_ix (ev_name (i := 1) rfl (vis_of rfl)) ev_int) (av_cons (ev_op rule_sub.op (ev_ix (ev_name (i := 1) rfl (vis_of rfl)) ev_int) ev_int) av_nil))) (av_cons (ev_tup (av_cons (ev_ix (ev_name (i := 1) rfl (vis_of rfl)) ev_int) (av_cons (ev_op rule_add.op (ev_ix (ev_name (i := 1) rfl (vis_of rfl)) ev_int) ev_int) av_nil))) (av_cons (ev_tup (av_cons (ev_op rule_add.op (ev_ix (ev_name (i := 1) rfl (vis_of rfl)) ev_int) ev_int) (av_cons (ev_ix (ev_name (i := 1) rfl (vis_of rfl)) ev_int) av_nil))) av_nil)))))) (bv_one (sv_ret (ev_lc (own := [("one", 3)]) (fi := [0, 1, 2]) G (iv_items (ev_name (i := 2) rfl (vis_of rfl))) (blkOk_by rfl) (hfi_of rfl) (fun _ _ _ _ _ _ => (gv_name (i := 3) G.blk rfl (loc_of rfl) (by decide))) (fun _ _ _ _ _ => (ptsv_one (tv_w (wv_and (tv_chain (rule_le G.blk) (rule_lt G.blk) ev_int (ev_ix (ev_name (i := 3) rfl (vis_of rfl)) ev_int) (ev_callB rule_len rfl T.z_len rfl (av_cons (ev_name (i := 0) rfl (vis_of rfl)) av_nil))) (wv_and1 (tv_chain (rule_le G.blk) (rule_lt G.blk) ev_int (ev_ix (ev_name (i := 3) rfl (vis_of rfl)) ev_int) (ev_callB rule_len rfl T.z_len rfl (av_cons (ev_ix (ev_name (i := 0) rfl (vis_of rfl)) ev_int) av_nil)))))))) (fun _ _ _ _ _ => (ev_name (i := 3) rfl (vis_of rfl)))))))
theorem sc_ulaw_climb : FnScope ["land", "one", "other"] ["land", "one", "other"] (defScope s_ulaw_climb) := ⟨rfl, rfl, rfl, by decide +kernel, rfl, by decide +kernel, by decide +kernel⟩
theorem c_ulaw_climb (T : Txt K mg) {f : Addr} {fd : FuncData} (Fn : L2.Fun K "_law_climb" "_law_climb" s_ulaw_climb f fd) (hm : mg "_law_climb" = some (.ref f)) (b : Binds K fd ["land", "one", "other"] []) : CalG P w K mg base 1 "_law_climb" 3 f_ulaw_climb := by
  refine calG (k := 0) (d := b_ulaw_climb) Fn hm b sc_ulaw_climb rfl rfl fun cdv A outs s H E vs hr0 hg => ?_
  have G := good_fn (P := P) (w := w) (K := K) (mg := mg) (base := base) (outs := outs) (H := H) (E := E) hr0 hg sc_ulaw_climb
  have hr : Room 0 (fnX P w K mg base ["land", "one", "other"] "_law_climb" s_ulaw_climb f cdv A outs s H E).A := hr0
  exact (bv_one (sv_ret (ev_op rule_sub.op (ev_ix (ev_ix (ev_name (i := 0) rfl (vis_of rfl)) (ev_ix (ev_name (i := 2) rfl (vis_of rfl)) ev_int)) (ev_ix (ev_name (i := 2) rfl (vis_of rfl)) ev_int)) (ev_ix (ev_ix (ev_name (i := 0) rfl (vis_of rfl)) (ev_ix (ev_name (i := 1) rfl (vis_of rfl)) ev_int)) (ev_ix (ev_name (i := 1) rfl (vis_of rfl)) ev_int)))))
theorem sc_ulaw_steep : FnScope ["land", "s", "found", "spot", "other"] ["land", "s"] (defScope s_ulaw_steep) := ⟨rfl, rfl, rfl, by decide +kernel, rfl, by decide +kernel, by decide +kernel⟩
theorem c_ulaw_steep (T : Txt K mg) {f : Addr} {fd : FuncData} (Fn : L2.Fun K "_law_steep" "_law_steep" s_ulaw_steep f fd) (hm : mg "_law_steep" = some (.ref f)) (b : Binds K fd ["land", "s"] []) (c_ulaw_spots : CalG P w K mg base 1 "_law_spots" 1 f_ulaw_spots) (c_ulaw_beside : CalG P w K mg base 1 "_law_beside" 2 f_ulaw_beside) (c_ulaw_climb : CalG P w K mg base 1 "_law_climb" 3 f_ulaw_climb) : CalG P w K mg base 2 "_law_steep" 2 f_ulaw_steep := by
  refine calG (k := 1) (d := b_ulaw_steep) Fn hm b sc_ulaw_steep rfl rfl fun cdv A outs s H E vs hr0 hg => ?_
  have G := good_fn (P := P) (w := w) (K := K) (mg := mg) (base := base) (outs := outs) (H := H) (E := E) hr0 hg sc_ulaw_steep
  have hr : Room 1 (fnX P w K mg base ["land", "s", "found", "spot", "other"] "_law_steep" s_ulaw_steep f cdv A outs s H E).A := hr0
  exact (bv_cons (sv_set (i := 2) G rfl (loc_of rfl) (by decide) (ev_lst av_nil)) (bv_cons (sv_for G PassesOwn.never (iv_items (ev_call c_ulaw_spots hr (by decide) G rfl (av_cons (ev_name (i := 0) rfl (vis_of rfl)) av_nil))) (gv_name (i := 3) G rfl (loc_of rfl) (by decide)) (bv_one (sv_expr (ev_extend (ev_name (i := 2) rfl (vis_of rfl)) (av_cons (ev_lc (own := [("other", 4)]) (fi := [0, 1, 2, 3]) G (iv_items (ev_call c_ulaw_beside hr (by decide) G rfl (av_cons (ev_name (i := 0) rfl (vis_of rfl)) (av_cons (ev_name (i := 3) rfl (vis_of rfl)) av_nil)))) (blkOk_by rfl) (hfi_of rfl) (fun _ _ _ _ _ _ => (gv_name (i := 4) G.blk rfl (loc_of rfl) (by decide))) (fun _ _ _ _ _ => (ptsv_one (tv_cmp (rule_gt G.blk).op (by rfl) (ev_op rule_sub.op ev_int (ev_call c_ulaw_climb hr (by decide) G.blk rfl (av_cons (ev_name (i := 0) rfl (vis_of rfl)) (av_cons (ev_name (i := 3) rfl (vis_of rfl)) (av_cons (ev_name (i := 4) rfl (vis_of rfl)) av_nil))))) (ev_name (i := 1) rfl (vis_of rfl))))) (fun _ _ _ _ _ => (ev_tup (av_cons (ev_name (i := 3) rfl (vis_of rfl)) (av_cons (ev_name (i := 4) rfl (vis_of rfl)) av_nil))))) av_nil))))) (bv_one (sv_ret (ev_name (i := 2) rfl (vis_of rfl))))))
theorem sc_ulaw_behind : FnScope ["land", "pair", "rows", "spot", "more", "row"] ["land", "pair"] (defScope s_ulaw_behind) := ⟨rfl, rfl, rfl, by decide +kernel, rfl, by decide +kernel, by decide +kernel⟩
theorem c_ulaw_behind (T : Txt K mg) {f : Addr} {fd : FuncData} (Fn : L2.Fun K "_law_behind" "_law_behind" s_ulaw_behind f fd) (hm : mg "_law_behind" = some (.ref f)) (b : Binds K fd ["land", "pair"] []) : CalG P w K mg base 1 "_law_behind" 2 f_ulaw_behind := by
  refine calG (k := 0) (d := b_ulaw_behind) Fn hm b sc_ulaw_behind rfl rfl fun cdv A outs s H E vs hr0 hg => ?_
  have G := good_fn (P := P) (w := w) (K := K) (mg := mg) (base := base) (outs := outs) (H := H) (E := E) hr0 hg sc_ulaw_behind
  have hr : Room 0 (fnX P w K mg base ["land", "pair", "rows", "spot", "more", "row"] "_law_behind" s_ulaw_behind f cdv A outs s H E).A := hr0
  exact (bv_cons (sv_setLc (i := 2) (own := [("row", 5)]) (fb := [0, 1, 2, 3, 4]) G rfl rfl (by decide) rfl (iv_items (ev_name (i := 0) rfl (vis_of rfl))) (blkOk_by rfl) (hfi_of rfl) (fun _ _ _ _ _ _ => (gv_name (i := 5) G.blk rfl (loc_of rfl) (by decide))) (fun _ _ _ _ _ => ptsv_nil) (fun _ _ _ _ _ => (ev_callT rule_list rfl T.z_list rfl (av_cons (ev_name (i := 5) rfl (vis_of rfl)) av_nil)))) (bv_cons (sv_for G PassesOwn.never (iv_items (ev_tup (av_cons (ev_tup (av_cons (ev_ix (ev_name (i := 1) rfl (vis_of rfl)) ev_int) (av_cons (ev_op rule_sub.op ev_int ev_int) av_nil))) (av_cons (ev_tup (av_cons (ev_ix (ev_name (i := 1) rfl (vis_of rfl)) ev_int) (av_cons ev_int av_nil))) av_nil)))) (gv_tup (n := 2) G (gvs_cons (gv_name (i := 3) G rfl (loc_of rfl) (by decide)) (gvs_cons (gv_name (i := 4) G rfl (loc_of rfl) (by decide)) gvs_nil))) (bv_cons (sv_set (i := 5) G rfl (loc_of rfl) (by decide) (ev_ix (ev_name (i := 2) rfl (vis_of rfl)) (ev_ix (ev_name (i := 3) rfl (vis_of rfl)) ev_int))) (bv_one (sv_asg (gv_ix (ev_name (i := 5) rfl (vis_of rfl)) (ev_ix (ev_name (i := 3) rfl (vis_of rfl)) ev_int)) (ev_op rule_add.op (ev_ix (ev_name (i := 5) rfl (vis_of rfl)) (ev_ix (ev_name (i := 3) rfl (vis_of rfl)) ev_int)) (ev_name (i := 4) rfl (vis_of rfl))))))) (bv_one (sv_ret (ev_callT rule_tuple rfl T.z_tuple rfl (av_cons (ev_lc (own := [("row", 5)]) (fi := [0, 1, 2, 3, 4]) G (iv_items (ev_name (i := 2) rfl (vis_of rfl))) (blkOk_by rfl) (hfi_of rfl) (fun _ _ _ _ _ _ => (gv_name (i := 5) G.blk rfl (loc_of rfl) (by decide))) (fun _ _ _ _ _ => ptsv_nil) (fun _ _ _ _ _ => (ev_callT rule_tuple rfl T.z_tuple rfl (av_cons (ev_name (i := 5) rfl (vis_of rfl)) av_nil)))) av_nil))))))
theorem sc_ulaw_settled : FnScope ["land", "s", "here", "many", "steep"] ["land", "s"] (defScope s_ulaw_settled) := ⟨rfl, rfl, rfl, by decide +kernel, rfl, by decide +kernel, by decide +kernel⟩
theorem c_ulaw_settled (T : Txt K mg) {f : Addr} {fd : FuncData} (Fn : L2.Fun K "_law_settled" "_law_settled" s_ulaw_settled f fd) (hm : mg "_law_settled" = some (.ref f)) (b : Binds K fd ["land", "s"] []) (c_ulaw_steep : CalG P w K mg base 2 "_law_steep" 2 f_ulaw_steep) (c_ulaw_behind : CalG P w K mg base 1 "_law_behind" 2 f_ulaw_behind) : CalG P w K mg base 3 "_law_settled" 2 f_ulaw_settled := by
  refine calG (k := 2) (d := b_ulaw_settled) Fn hm b sc_ulaw_settled rfl rfl fun cdv A outs s H E vs hr0 hg => ?_
  have G := good_fn (P := P) (w := w) (K := K) (mg := mg) (base := base) (outs := outs) (H := H) (E := E) hr0 hg sc_ulaw_settled
  have hr : Room 2 (fnX P w K mg base ["land", "s", "here", "many", "steep"] "_law_settled" s_ulaw_settled f cdv A outs s H E).A := hr0
  exact (bv_cons (sv_set (i := 2) G rfl (loc_of rfl) (by decide) (ev_name (i := 0) rfl (vis_of rfl))) (bv_cons (sv_for G PassesOwn.never (iv_range1 rfl T.z_range (av_cons ev_int av_nil)) (gv_name (i := 3) G rfl (loc_of rfl) (by decide)) (bv_cons (sv_set (i := 4) G rfl (loc_of rfl) (by decide) (ev_call c_ulaw_steep hr (by decide) G rfl (av_cons (ev_name (i := 2) rfl (vis_of rfl)) (av_cons (ev_name (i := 1) rfl (vis_of rfl)) av_nil)))) (bv_cons (sv_if (tv_cmp (rule_eq G).op (by rfl) (ev_name (i := 4) rfl (vis_of rfl)) (ev_lst av_nil)) (bv_one (sv_ret (ev_tup (av_cons (ev_name (i := 2) rfl (vis_of rfl)) (av_cons (ev_name (i := 3) rfl (vis_of rfl)) av_nil))))) bv_nil) (bv_one (sv_set (i := 2) G rfl (loc_of rfl) (by decide) (ev_call c_ulaw_behind hr (by decide) G rfl (av_cons (ev_name (i := 2) rfl (vis_of rfl)) (av_cons (ev_ix (ev_name (i := 4) rfl (vis_of rfl)) ev_int) av_nil)))))))) (bv_one (sv_ret ev_non))))
theorem sc_ulaw_draw : FnScope ["hand", "many", "number", "cell", "digit"] ["hand", "many"] (defScope s_ulaw_draw) := ⟨rfl, rfl, rfl, by decide +kernel, rfl, by decide +kernel, by decide +kernel⟩
theorem c_ulaw_draw (T : Txt K mg) {f : Addr} {fd : FuncData} (Fn : L2.Fun K "_law_draw" "_law_draw" s_ulaw_draw f fd) (hm : mg "_law_draw" = some (.ref f)) (b : Binds K fd ["hand", "many"] []) : CalG P w K mg base 1 "_law_draw" 2 f_ulaw_draw := by
  refine calG (k := 0) (d := b_ulaw_draw) Fn hm b sc_ulaw_draw rfl rfl fun cdv A outs s H E vs hr0 hg => ?_
  have G := good_fn (P := P) (w := w) (K := K) (mg := mg) (base := base) (outs := outs) (H := H) (E := E) hr0 hg sc_ulaw_draw
  have hr : Room 0 (fnX P w K mg base ["hand", "many", "number", "cell", "digit"] "_law_draw" s_ulaw_draw f cdv A outs s H E).A := hr0
  exact (bv_cons (sv_if (tv_w (wv_and (tv_cmp (rule_eq G).op (by rfl) (ev_ix (ev_name (i := 0) rfl (vis_of rfl)) ev_int) ev_int) (wv_and1 (tv_cmp (rule_lt G).op (by rfl) (ev_ix (ev_name (i := 0) rfl (vis_of rfl)) ev_int) (ev_callB rule_len rfl T.z_len rfl (av_cons (ev_ix (ev_name (i := 0) rfl (vis_of rfl)) ev_int) av_nil)))))) (bv_cons (sv_set (i := 3) G rfl (loc_of rfl) (by decide) (ev_ix (ev_ix (ev_name (i := 0) rfl (vis_of rfl)) ev_int) (ev_ix (ev_name (i := 0) rfl (vis_of rfl)) ev_int))) (bv_cons (sv_asg (gv_ix (ev_name (i := 0) rfl (vis_of rfl)) ev_int) (ev_op rule_add.op (ev_ix (ev_name (i := 0) rfl (vis_of rfl)) ev_int) ev_int)) (bv_cons (sv_asg (gv_ix (ev_name (i := 0) rfl (vis_of rfl)) ev_int) (ev_op rule_mod.op (ev_callT rule_int rfl T.z_int rfl (av_cons (ev_op rule_add.op (ev_op rule_add.op (ev_op rule_mul.op (ev_ix (ev_name (i := 0) rfl (vis_of rfl)) ev_int) ev_int) (ev_op rule_mul.op (ev_name (i := 3) rfl (vis_of rfl)) ev_int)) ev_int) av_nil)) ev_int)) (bv_one (sv_if (tv_cmp (rule_ge G).op (by rfl) (ev_name (i := 3) rfl (vis_of rfl)) (ev_op rule_pow.op ev_int ev_int)) (bv_one (sv_asg (gv_ix (ev_name (i := 0) rfl (vis_of rfl)) ev_int) (ev_name (i := 3) rfl (vis_of rfl)))) bv_nil))))) bv_nil) (bv_cons (sv_if (tv_cmp (rule_gt G).op (by rfl) (ev_ix (ev_name (i := 0) rfl (vis_of rfl)) ev_int) ev_int) (bv_cons (sv_set (i := 4) G rfl (loc_of rfl) (by decide) (ev_op rule_mod.op (ev_callT rule_int rfl T.z_int rfl (av_cons (ev_ix (ev_name (i := 0) rfl (vis_of rfl)) ev_int) av_nil)) (ev_name (i := 1) rfl (vis_of rfl)))) (bv_cons (sv_asg (gv_ix (ev_name (i := 0) rfl (vis_of rfl)) ev_int) (ev_op rule_div.op (ev_ix (ev_name (i := 0) rfl (vis_of rfl)) ev_int) (ev_name (i := 1) rfl (vis_of rfl)))) (bv_one (sv_ret (ev_name (i := 4) rfl (vis_of rfl)))))) bv_nil) (bv_cons (sv_asg (gv_ix (ev_name (i := 0) rfl (vis_of rfl)) ev_int) (ev_op rule_add.op (ev_ix (ev_name (i := 0) rfl (vis_of rfl)) ev_int) ev_int)) (bv_cons (sv_set (i := 2) G rfl (loc_of rfl) (by decide) (ev_op rule_mod.op (ev_callT rule_int rfl T.z_int rfl (av_cons (ev_op rule_mul.op (ev_callT rule_int rfl T.z_int rfl (av_cons (ev_op rule_add.op (ev_ix (ev_name (i := 0) rfl (vis_of rfl)) ev_int) (ev_op rule_mul.op ev_int (ev_ix (ev_name (i := 0) rfl (vis_of rfl)) ev_int))) av_nil)) ev_int) av_nil)) ev_int)) (bv_cons (sv_set (i := 2) G rfl (loc_of rfl) (by decide) (ev_op rule_mod.op (ev_callT rule_int rfl T.z_int rfl (av_cons (ev_op rule_mul.op (ev_name (i := 2) rfl (vis_of rfl)) (ev_op rule_add.op (ev_op rule_div.op (ev_name (i := 2) rfl (vis_of rfl)) ev_int) ev_int)) av_nil)) ev_int)) (bv_cons (sv_set (i := 2) G rfl (loc_of rfl) (by decide) (ev_op rule_mod.op (ev_callT rule_int rfl T.z_int rfl (av_cons (ev_op rule_mul.op (ev_name (i := 2) rfl (vis_of rfl)) (ev_op rule_add.op (ev_op rule_div.op (ev_name (i := 2) rfl (vis_of rfl)) ev_int) ev_int)) av_nil)) ev_int)) (bv_one (sv_ret (ev_op rule_mod.op (ev_callT rule_int rfl T.z_int rfl (av_cons (ev_op rule_div.op (ev_name (i := 2) rfl (vis_of rfl)) ev_int) av_nil)) (ev_name (i := 1) rfl (vis_of rfl)))))))))))
theorem sc_ulaw_any : FnScope ["hand", "things"] ["hand", "things"] (defScope s_ulaw_any) := ⟨rfl, rfl, rfl, by decide +kernel, rfl, by decide +kernel, by decide +kernel⟩
theorem c_ulaw_any (T : Txt K mg) {f : Addr} {fd : FuncData} (Fn : L2.Fun K "_law_any" "_law_any" s_ulaw_any f fd) (hm : mg "_law_any" = some (.ref f)) (b : Binds K fd ["hand", "things"] []) (c_ulaw_draw : CalG P w K mg base 1 "_law_draw" 2 f_ulaw_draw) : CalG P w K mg base 2 "_law_any" 2 f_ulaw_any := by
  refine calG (k := 1) (d := b_ulaw_any) Fn hm b sc_ulaw_any rfl rfl fun cdv A outs s H E vs hr0 hg => ?_
  have G := good_fn (P := P) (w := w) (K := K) (mg := mg) (base := base) (outs := outs) (H := H) (E := E) hr0 hg sc_ulaw_any
  have hr : Room 1 (fnX P w K mg base ["hand", "things"] "_law_any" s_ulaw_any f cdv A outs s H E).A := hr0
  exact (bv_one (sv_ret (ev_ix (ev_name (i := 1) rfl (vis_of rfl)) (ev_call c_ulaw_draw hr (by decide) G rfl (av_cons (ev_name (i := 0) rfl (vis_of rfl)) (av_cons (ev_callB rule_len rfl T.z_len rfl (av_cons (ev_name (i := 1) rfl (vis_of rfl)) av_nil)) av_nil))))))
theorem sc_ulaw_like : FnScope ["told", "due"] ["told", "due"] (defScope s_ulaw_like) := ⟨rfl, rfl, rfl, by decide +kernel, rfl, by decide +kernel, by decide +kernel⟩
theorem c_ulaw_like (T : Txt K mg) {f : Addr} {fd : FuncData} (Fn : L2.Fun K "_law_like" "_law_like" s_ulaw_like f fd) (hm : mg "_law_like" = some (.ref f)) (b : Binds K fd ["told", "due"] []) : CalG P w K mg base 1 "_law_like" 2 f_ulaw_like := by
  refine calG (k := 0) (d := b_ulaw_like) Fn hm b sc_ulaw_like rfl rfl fun cdv A outs s H E vs hr0 hg => ?_
  have G := good_fn (P := P) (w := w) (K := K) (mg := mg) (base := base) (outs := outs) (H := H) (E := E) hr0 hg sc_ulaw_like
  have hr : Room 0 (fnX P w K mg base ["told", "due"] "_law_like" s_ulaw_like f cdv A outs s H E).A := hr0
  exact (bv_one (sv_ret (ev_cmp (rule_eq G).op (by rfl) (ev_callB (rule_repr G) rfl T.z_repr rfl (av_cons (ev_name (i := 0) rfl (vis_of rfl)) av_nil)) (ev_callB (rule_repr G) rfl T.z_repr rfl (av_cons (ev_name (i := 1) rfl (vis_of rfl)) av_nil)))))
theorem sc_ulaw_units : FnScope ["land", "row"] ["land"] (defScope s_ulaw_units) := ⟨rfl, rfl, rfl, by decide +kernel, rfl, by decide +kernel, by decide +kernel⟩
theorem c_ulaw_units (T : Txt K mg) {f : Addr} {fd : FuncData} (Fn : L2.Fun K "_law_units" "_law_units" s_ulaw_units f fd) (hm : mg "_law_units" = some (.ref f)) (b : Binds K fd ["land"] []) : CalG P w K mg base 1 "_law_units" 1 f_ulaw_units := by
  refine calG (k := 0) (d := b_ulaw_units) Fn hm b sc_ulaw_units rfl rfl fun cdv A outs s H E vs hr0 hg => ?_
  have G := good_fn (P := P) (w := w) (K := K) (mg := mg) (base := base) (outs := outs) (H := H) (E := E) hr0 hg sc_ulaw_units
  have hr : Room 0 (fnX P w K mg base ["land", "row"] "_law_units" s_ulaw_units f cdv A outs s H E).A := hr0
  exact (bv_one (sv_ret (ev_callB (rule_sum G) rfl T.z_sum rfl (av_cons (ev_lc (own := [("row", 1)]) (fi := [0]) G (iv_items (ev_name (i := 0) rfl (vis_of rfl))) (blkOk_by rfl) (hfi_of rfl) (fun _ _ _ _ _ _ => (gv_name (i := 1) G.blk rfl (loc_of rfl) (by decide))) (fun _ _ _ _ _ => ptsv_nil) (fun _ _ _ _ _ => (ev_callB (rule_sum G.blk) rfl T.z_sum rfl (av_cons (ev_name (i := 1) rfl (vis_of rfl)) av_nil)))) av_nil))))
theorem sc_is_integer : FnScope ["thing"] ["thing"] (defScope s_is_integer) := ⟨rfl, rfl, rfl, by decide +kernel, rfl, by decide +kernel, by decide +kernel⟩
theorem c_is_integer (T : Txt K mg) {f : Addr} {fd : FuncData} (Fn : L2.Fun K "is_integer" "is_integer" s_is_integer f fd) (hm : mg "is_integer" = some (.ref f)) (b : Binds K fd ["thing"] []) : CalG P w K mg base 1 "is_integer" 1 f_is_integer := by
  refine calG (k := 0) (d := b_is_integer) Fn hm b sc_is_integer rfl rfl fun cdv A outs s H E vs hr0 hg => ?_
  have G := good_fn (P := P) (w := w) (K := K) (mg := mg) (base := base) (outs := outs) (H := H) (E := E) hr0 hg sc_is_integer
  have hr : Room 0 (fnX P w K mg base ["thing"] "is_integer" s_is_integer f cdv A outs s H E).A := hr0
  exact (bv_one (sv_ret (ev_and (ev_callB rule_isi rfl T.z_isinstance rfl (av_cons (ev_name (i := 0) rfl (vis_of rfl)) (av_cons (ev_bltn rfl T.z_int rfl) av_nil))) (ev_one (ev_not (ev_callB rule_isi rfl T.z_isinstance rfl (av_cons (ev_name (i := 0) rfl (vis_of rfl)) (av_cons (ev_bltn rfl T.z_bool rfl) av_nil))))))))
theorem sc_is_within : FnScope ["thing", "least", "most"] ["thing", "least", "most"] (defScope s_is_within) := ⟨rfl, rfl, rfl, by decide +kernel, rfl, by decide +kernel, by decide +kernel⟩
theorem c_is_within (T : Txt K mg) {f : Addr} {fd : FuncData} (Fn : L2.Fun K "is_within" "is_within" s_is_within f fd) (hm : mg "is_within" = some (.ref f)) (b : Binds K fd ["thing", "least", "most"] []) (c_is_integer : CalG P w K mg base 1 "is_integer" 1 f_is_integer) : CalG P w K mg base 2 "is_within" 3 f_is_within := by
  refine calG (k := 1) (d := b_is_within) Fn hm b sc_is_within rfl rfl fun cdv A outs s H E vs hr0 hg => ?_
  have G := good_fn (P := P) (w := w) (K := K) (mg := mg) (base := base) (outs := outs) (H := H) (E := E) hr0 hg sc_is_within
  have hr : Room 1 (fnX P w K mg base ["thing", "least", "most"] "is_within" s_is_within f cdv A outs s H E).A := hr0
  exact (bv_one (sv_ret (ev_and (ev_call c_is_integer hr (by decide) G rfl (av_cons (ev_name (i := 0) rfl (vis_of rfl)) av_nil)) (ev_one (ev_chain (rule_le G) (rule_le G) (ev_name (i := 1) rfl (vis_of rfl)) (ev_name (i := 0) rfl (vis_of rfl)) (ev_name (i := 2) rfl (vis_of rfl)))))))
theorem sc_is_height : FnScope ["thing"] ["thing"] (defScope s_is_height) := ⟨rfl, rfl, rfl, by decide +kernel, rfl, by decide +kernel, by decide +kernel⟩
theorem c_is_height (T : Txt K mg) {f : Addr} {fd : FuncData} (Fn : L2.Fun K "is_height" "is_height" s_is_height f fd) (hm : mg "is_height" = some (.ref f)) (b : Binds K fd ["thing"] []) (c_is_within : CalG P w K mg base 2 "is_within" 3 f_is_within) : CalG P w K mg base 3 "is_height" 1 f_is_height := by
  refine calG (k := 2) (d := b_is_height) Fn hm b sc_is_height rfl rfl fun cdv A outs s H E vs hr0 hg => ?_
  have G := good_fn (P := P) (w := w) (K := K) (mg := mg) (base := base) (outs := outs) (H := H) (E := E) hr0 hg sc_is_height
  have hr : Room 2 (fnX P w K mg base ["thing"] "is_height" s_is_height f cdv A outs s H E).A := hr0
  exact (bv_one (sv_ret (ev_call c_is_within hr (by decide) G rfl (av_cons (ev_name (i := 0) rfl (vis_of rfl)) (av_cons ev_int (av_cons (ev_gc T.c_MOST_HEIGHT rfl) av_nil))))))
theorem sc_is_row : FnScope ["thing", "one"] ["thing"] (defScope s_is_row) := ⟨rfl, rfl, rfl, by decide +kernel, rfl, by decide +kernel, by decide +kernel⟩
theorem c_is_row (T : Txt K mg) {f : Addr} {fd : FuncData} (Fn : L2.Fun K "is_row" "is_row" s_is_row f fd) (hm : mg "is_row" = some (.ref f)) (b : Binds K fd ["thing"] []) (c_is_height : CalG P w K mg base 3 "is_height" 1 f_is_height) : CalG P w K mg base 4 "is_row" 1 f_is_row := by
  refine calG (k := 3) (d := b_is_row) Fn hm b sc_is_row rfl rfl fun cdv A outs s H E vs hr0 hg => ?_
  have G := good_fn (P := P) (w := w) (K := K) (mg := mg) (base := base) (outs := outs) (H := H) (E := E) hr0 hg sc_is_row
  have hr : Room 3 (fnX P w K mg base ["thing", "one"] "is_row" s_is_row f cdv A outs s H E).A := hr0
  exact (bv_one (sv_ret (ev_and (ev_callB rule_isi rfl T.z_isinstance rfl (av_cons (ev_name (i := 0) rfl (vis_of rfl)) (av_cons (ev_bltn rfl T.z_tuple rfl) av_nil))) (ev_and (ev_chain (rule_le G) (rule_le G) ev_int (ev_callB rule_len rfl T.z_len rfl (av_cons (ev_name (i := 0) rfl (vis_of rfl)) av_nil)) (ev_gc T.c_MOST_SIDE rfl)) (ev_one (ev_callB (rule_all G) rfl T.z_all rfl (av_cons (ev_lc (own := [("one", 1)]) (fi := [0]) G (iv_items (ev_name (i := 0) rfl (vis_of rfl))) (blkOk_by rfl) (hfi_of rfl) (fun _ _ _ _ _ _ => (gv_name (i := 1) G.blk rfl (loc_of rfl) (by decide))) (fun _ _ _ _ _ => ptsv_nil) (fun _ _ _ _ _ => (ev_call c_is_height hr (by decide) G.blk rfl (av_cons (ev_name (i := 1) rfl (vis_of rfl)) av_nil)))) av_nil)))))))
theorem sc_is_land : FnScope ["thing", "row"] ["thing"] (defScope s_is_land) := ⟨rfl, rfl, rfl, by decide +kernel, rfl, by decide +kernel, by decide +kernel⟩
theorem c_is_land (T : Txt K mg) {f : Addr} {fd : FuncData} (Fn : L2.Fun K "is_land" "is_land" s_is_land f fd) (hm : mg "is_land" = some (.ref f)) (b : Binds K fd ["thing"] []) (c_is_row : CalG P w K mg base 4 "is_row" 1 f_is_row) : CalG P w K mg base 5 "is_land" 1 f_is_land := by
  refine calG (k := 4) (d := b_is_land) Fn hm b sc_is_land rfl rfl fun cdv A outs s H E vs hr0 hg => ?_
  have G := good_fn (P := P) (w := w) (K := K) (mg := mg) (base := base) (outs := outs) (H := H) (E := E) hr0 hg sc_is_land
  have hr : Room 4 (fnX P w K mg base ["thing", "row"] "is_land" s_is_land f cdv A outs s H E).A := hr0
  exact (bv_cons (sv_if (tv_w (wv_or (tv_not (tv_val (ev_callB rule_isi rfl T.z_isinstance rfl (av_cons (ev_name (i := 0) rfl (vis_of rfl)) (av_cons (ev_bltn rfl T.z_tuple rfl) av_nil))))) (wv_or1 (tv_not (tv_chain (rule_le G) (rule_le G) ev_int (ev_callB rule_len rfl T.z_len rfl (av_cons (ev_name (i := 0) rfl (vis_of rfl)) av_nil)) (ev_gc T.c_MOST_SIDE rfl)))))) (bv_one (sv_ret ev_bl)) bv_nil) (bv_one (sv_ret (ev_and (ev_callB (rule_all G) rfl T.z_all rfl (av_cons (ev_lc (own := [("row", 1)]) (fi := [0]) G (iv_items (ev_name (i := 0) rfl (vis_of rfl))) (blkOk_by rfl) (hfi_of rfl) (fun _ _ _ _ _ _ => (gv_name (i := 1) G.blk rfl (loc_of rfl) (by decide))) (fun _ _ _ _ _ => ptsv_nil) (fun _ _ _ _ _ => (ev_call c_is_row hr (by decide) G.blk rfl (av_cons (ev_name (i := 1) rfl (vis_of rfl)) av_nil)))) av_nil)) (ev_one (ev_callB (rule_all G) rfl T.z_all rfl (av_cons (ev_lc (own := [("row", 1)]) (fi := [0]) G (iv_items (ev_name (i := 0) rfl (vis_of rfl))) (blkOk_by rfl) (hfi_of rfl) (fun _ _ _ _ _ _ => (gv_name (i := 1) G.blk rfl (loc_of rfl) (by decide))) (fun _ _ _ _ _ => ptsv_nil) (fun _ _ _ _ _ => (ev_cmp (rule_eq G.blk).op (by rfl) (ev_callB rule_len rfl T.z_len rfl (av_cons (ev_name (i := 1) rfl (vis_of rfl)) av_nil)) (ev_callB rule_len rfl T.z_len rfl (av_cons (ev_ix (ev_name (i := 0) rfl (vis_of rfl)) ev_int) av_nil))))) av_nil)))))))
theorem sc_check_land : FnScope ["land"] ["land"] (defScope s_check_land) := ⟨rfl, rfl, rfl, by decide +kernel, rfl, by decide +kernel, by decide +kernel⟩
theorem c_check_land (T : Txt K mg) {f : Addr} {fd : FuncData} (Fn : L2.Fun K "check_land" "check_land" s_check_land f fd) (hm : mg "check_land" = some (.ref f)) (b : Binds K fd ["land"] []) (c_is_land : CalG P w K mg base 5 "is_land" 1 f_is_land) : CalG P w K mg base 6 "check_land" 1 f_check_land := by
  refine calG (k := 5) (d := b_check_land) Fn hm b sc_check_land rfl rfl fun cdv A outs s H E vs hr0 hg => ?_
  have G := good_fn (P := P) (w := w) (K := K) (mg := mg) (base := base) (outs := outs) (H := H) (E := E) hr0 hg sc_check_land
  have hr : Room 5 (fnX P w K mg base ["land"] "check_land" s_check_land f cdv A outs s H E).A := hr0
  exact (bv_one (sv_if (tv_not (tv_val (ev_call c_is_land hr (by decide) G rfl (av_cons (ev_name (i := 0) rfl (vis_of rfl)) av_nil)))) bv_never bv_nil))
theorem sc_check_steep : FnScope ["land", "s"] ["land", "s"] (defScope s_check_steep) := ⟨rfl, rfl, rfl, by decide +kernel, rfl, by decide +kernel, by decide +kernel⟩
theorem c_check_steep (T : Txt K mg) {f : Addr} {fd : FuncData} (Fn : L2.Fun K "check_steep" "check_steep" s_check_steep f fd) (hm : mg "check_steep" = some (.ref f)) (b : Binds K fd ["land", "s"] []) (c_check_land : CalG P w K mg base 6 "check_land" 1 f_check_land) (c_is_within : CalG P w K mg base 2 "is_within" 3 f_is_within) : CalG P w K mg base 7 "check_steep" 2 f_check_steep := by
  refine calG (k := 6) (d := b_check_steep) Fn hm b sc_check_steep rfl rfl fun cdv A outs s H E vs hr0 hg => ?_
  have G := good_fn (P := P) (w := w) (K := K) (mg := mg) (base := base) (outs := outs) (H := H) (E := E) hr0 hg sc_check_steep
  have hr : Room 6 (fnX P w K mg base ["land", "s"] "check_steep" s_check_steep f cdv A outs s H E).A := hr0
  exact (bv_cons (sv_expr (ev_call c_check_land hr (by decide) G rfl (av_cons (ev_name (i := 0) rfl (vis_of rfl)) av_nil))) (bv_one (sv_if (tv_not (tv_val (ev_call c_is_within hr (by decide) G rfl (av_cons (ev_name (i := 1) rfl (vis_of rfl)) (av_cons ev_int (av_cons (ev_gc T.c_MOST_HEIGHT rfl) av_nil)))))) bv_never bv_nil)))
theorem sc_height_of : FnScope ["land", "spot"] ["land", "spot"] (defScope s_height_of) := ⟨rfl, rfl, rfl, by decide +kernel, rfl, by decide +kernel, by decide +kernel⟩
theorem c_height_of (T : Txt K mg) {f : Addr} {fd : FuncData} (Fn : L2.Fun K "height_of" "height_of" s_height_of f fd) (hm : mg "height_of" = some (.ref f)) (b : Binds K fd ["land", "spot"] []) : CalG P w K mg base 1 "height_of" 2 f_height_of := by
  refine calG (k := 0) (d := b_height_of) Fn hm b sc_height_of rfl rfl fun cdv A outs s H E vs hr0 hg => ?_
  have G := good_fn (P := P) (w := w) (K := K) (mg := mg) (base := base) (outs := outs) (H := H) (E := E) hr0 hg sc_height_of
  have hr : Room 0 (fnX P w K mg base ["land", "spot"] "height_of" s_height_of f cdv A outs s H E).A := hr0
  exact (bv_one (sv_ret (ev_ix (ev_ix (ev_name (i := 0) rfl (vis_of rfl)) (ev_ix (ev_name (i := 1) rfl (vis_of rfl)) ev_int)) (ev_ix (ev_name (i := 1) rfl (vis_of rfl)) ev_int))))
theorem sc_step_between : FnScope ["land", "one", "other"] ["land", "one", "other"] (defScope s_step_between) := ⟨rfl, rfl, rfl, by decide +kernel, rfl, by decide +kernel, by decide +kernel⟩
theorem c_step_between (T : Txt K mg) {f : Addr} {fd : FuncData} (Fn : L2.Fun K "step_between" "step_between" s_step_between f fd) (hm : mg "step_between" = some (.ref f)) (b : Binds K fd ["land", "one", "other"] []) (c_height_of : CalG P w K mg base 1 "height_of" 2 f_height_of) : CalG P w K mg base 2 "step_between" 3 f_step_between := by
  refine calG (k := 1) (d := b_step_between) Fn hm b sc_step_between rfl rfl fun cdv A outs s H E vs hr0 hg => ?_
  have G := good_fn (P := P) (w := w) (K := K) (mg := mg) (base := base) (outs := outs) (H := H) (E := E) hr0 hg sc_step_between
  have hr : Room 1 (fnX P w K mg base ["land", "one", "other"] "step_between" s_step_between f cdv A outs s H E).A := hr0
  exact (bv_one (sv_ret (ev_callB rule_abs rfl T.z_abs rfl (av_cons (ev_op rule_sub.op (ev_call c_height_of hr (by decide) G rfl (av_cons (ev_name (i := 0) rfl (vis_of rfl)) (av_cons (ev_name (i := 1) rfl (vis_of rfl)) av_nil))) (ev_call c_height_of hr (by decide) G rfl (av_cons (ev_name (i := 0) rfl (vis_of rfl)) (av_cons (ev_name (i := 2) rfl (vis_of rfl)) av_nil)))) av_nil))))
theorem sc_all_spots : FnScope ["land", "found", "row", "column"] ["land"] (defScope s_all_spots) := ⟨rfl, rfl, rfl, by decide +kernel, rfl, by decide +kernel, by decide +kernel⟩
theorem c_all_spots (T : Txt K mg) {f : Addr} {fd : FuncData} (Fn : L2.Fun K "all_spots" "all_spots" s_all_spots f fd) (hm : mg "all_spots" = some (.ref f)) (b : Binds K fd ["land"] []) : CalG P w K mg base 1 "all_spots" 1 f_all_spots := by
  refine calG (k := 0) (d := b_all_spots) Fn hm b sc_all_spots rfl rfl fun cdv A outs s H E vs hr0 hg => ?_
  have G := good_fn (P := P) (w := w) (K := K) (mg := mg) (base := base) (outs := outs) (H := H) (E := E) hr0 hg sc_all_spots
  have hr : Room 0 (fnX P w K mg base ["land", "found", "row", "column"] "all_spots" s_all_spots f cdv A outs s H E).A := hr0
  exact (bv_cons (sv_set (i := 1) G rfl (loc_of rfl) (by decide) (ev_lst av_nil)) (bv_cons (sv_for G PassesOwn.never (iv_range1 rfl T.z_range (av_cons (ev_callB rule_len rfl T.z_len rfl (av_cons (ev_name (i := 0) rfl (vis_of rfl)) av_nil)) av_nil)) (gv_name (i := 2) G rfl (loc_of rfl) (by decide)) (bv_one (sv_expr (ev_extend (ev_name (i := 1) rfl (vis_of rfl)) (av_cons (ev_lc (own := [("column", 3)]) (fi := [0, 1, 2]) G (iv_range1 rfl T.z_range (av_cons (ev_callB rule_len rfl T.z_len rfl (av_cons (ev_ix (ev_name (i := 0) rfl (vis_of rfl)) ev_int) av_nil)) av_nil)) (blkOk_by rfl) (hfi_of rfl) (fun _ _ _ _ _ _ => (gv_name (i := 3) G.blk rfl (loc_of rfl) (by decide))) (fun _ _ _ _ _ => ptsv_nil) (fun _ _ _ _ _ => (ev_tup (av_cons (ev_name (i := 2) rfl (vis_of rfl)) (av_cons (ev_name (i := 3) rfl (vis_of rfl)) av_nil))))) av_nil))))) (bv_one (sv_ret (ev_name (i := 1) rfl (vis_of rfl))))))
theorem sc_stepped : FnScope ["spot", "step", "times"] ["spot", "step", "times"] (defScope s_stepped) := ⟨rfl, rfl, rfl, by decide +kernel, rfl, by decide +kernel, by decide +kernel⟩
theorem c_stepped (T : Txt K mg) {f : Addr} {fd : FuncData} (Fn : L2.Fun K "stepped" "stepped" s_stepped f fd) (hm : mg "stepped" = some (.ref f)) (b : Binds K fd ["spot", "step", "times"] []) : CalG P w K mg base 1 "stepped" 3 f_stepped := by
  refine calG (k := 0) (d := b_stepped) Fn hm b sc_stepped rfl rfl fun cdv A outs s H E vs hr0 hg => ?_
  have G := good_fn (P := P) (w := w) (K := K) (mg := mg) (base := base) (outs := outs) (H := H) (E := E) hr0 hg sc_stepped
  have hr : Room 0 (fnX P w K mg base ["spot", "step", "times"] "stepped" s_stepped f cdv A outs s H E).A := hr0
  exact (bv_one (sv_ret (ev_tup (av_cons (ev_op rule_add.op (ev_ix (ev_name (i := 0) rfl (vis_of rfl)) ev_int) (ev_op rule_mul.op (ev_name (i := 2) rfl (vis_of rfl)) (ev_ix (ev_name (i := 1) rfl (vis_of rfl)) ev_int))) (av_cons (ev_op rule_add.op (ev_ix (ev_name (i := 0) rfl (vis_of rfl)) ev_int) (ev_op rule_mul.op (ev_name (i := 2) rfl (vis_of rfl)) (ev_ix (ev_name (i := 1) rfl (vis_of rfl)) ev_int))) av_nil)))))
theorem sc_is_on_land : FnScope ["land", "spot"] ["land", "spot"] (defScope s_is_on_land) := ⟨rfl, rfl, rfl, by decide +kernel, rfl, by decide +kernel, by decide +kernel⟩
theorem c_is_on_land (T : Txt K mg) {f : Addr} {fd : FuncData} (Fn : L2.Fun K "is_on_land" "is_on_land" s_is_on_land f fd) (hm : mg "is_on_land" = some (.ref f)) (b : Binds K fd ["land", "spot"] []) : CalG P w K mg base 1 "is_on_land" 2 f_is_on_land := by
  refine calG (k := 0) (d := b_is_on_land) Fn hm b sc_is_on_land rfl rfl fun cdv A outs s H E vs hr0 hg => ?_
  have G := good_fn (P := P) (w := w) (K := K) (mg := mg) (base := base) (outs := outs) (H := H) (E := E) hr0 hg sc_is_on_land
  have hr : Room 0 (fnX P w K mg base ["land", "spot"] "is_on_land" s_is_on_land f cdv A outs s H E).A := hr0
  exact (bv_one (sv_ret (ev_and (ev_chain (rule_le G) (rule_lt G) ev_int (ev_ix (ev_name (i := 1) rfl (vis_of rfl)) ev_int) (ev_callB rule_len rfl T.z_len rfl (av_cons (ev_name (i := 0) rfl (vis_of rfl)) av_nil))) (ev_one (ev_chain (rule_le G) (rule_lt G) ev_int (ev_ix (ev_name (i := 1) rfl (vis_of rfl)) ev_int) (ev_callB rule_len rfl T.z_len rfl (av_cons (ev_ix (ev_name (i := 0) rfl (vis_of rfl)) ev_int) av_nil)))))))
theorem sc_spots_beside : FnScope ["land", "spot", "some", "step", "one"] ["land", "spot"] (defScope s_spots_beside) := ⟨rfl, rfl, rfl, by decide +kernel, rfl, by decide +kernel, by decide +kernel⟩
theorem c_spots_beside (T : Txt K mg) {f : Addr} {fd : FuncData} (Fn : L2.Fun K "spots_beside" "spots_beside" s_spots_beside f fd) (hm : mg "spots_beside" = some (.ref f)) (b : Binds K fd ["land", "spot"] []) (c_stepped : CalG P w K mg base 1 "stepped" 3 f_stepped) (c_is_on_land : CalG P w K mg base 1 "is_on_land" 2 f_is_on_land) : CalG P w K mg base 2 "spots_beside" 2 f_spots_beside := by
  refine calG (k := 1) (d := b_spots_beside) Fn hm b sc_spots_beside rfl rfl fun cdv A outs s H E vs hr0 hg => ?_
  have G := good_fn (P := P) (w := w) (K := K) (mg := mg) (base := base) (outs := outs) (H := H) (E := E) hr0 hg sc_spots_beside
  have hr : Room 1 (fnX P w K mg base ["land", "spot", "some", "step", "one"] "spots_beside" s_spots_beside f cdv A outs s H E).A := hr0
  exact (bv_cons (sv_setLc (i := 2) (own := [("step", 3)]) (fb := [0, 1, 2, 4]) G rfl rfl (by decide) rfl (iv_items (ev_gc T.c_SIDES rfl)) (blkOk_by rfl) (hfi_of rfl) (fun _ _ _ _ _ _ => (gv_name (i := 3) G.blk rfl (loc_of rfl) (by decide))) (fun _ _ _ _ _ => ptsv_nil) (fun _ _ _ _ _ => (ev_call c_stepped hr (by decide) G.blk rfl (av_cons (ev_name (i := 1) rfl (vis_of rfl)) (av_cons (ev_name (i := 3) rfl (vis_of rfl)) (av_cons ev_int av_nil)))))) (bv_one (sv_ret (ev_lc (own := [("one", 4)]) (fi := [0, 1, 2, 3]) G (iv_items (ev_name (i := 2) rfl (vis_of rfl))) (blkOk_by rfl) (hfi_of rfl) (fun _ _ _ _ _ _ => (gv_name (i := 4) G.blk rfl (loc_of rfl) (by decide))) (fun _ _ _ _ _ => (ptsv_one (tv_val (ev_call c_is_on_land hr (by decide) G.blk rfl (av_cons (ev_name (i := 0) rfl (vis_of rfl)) (av_cons (ev_name (i := 4) rfl (vis_of rfl)) av_nil)))))) (fun _ _ _ _ _ => (ev_name (i := 4) rfl (vis_of rfl)))))))
theorem sc_pairs_beside : FnScope ["land", "found", "spot", "one"] ["land"] (defScope s_pairs_beside) := ⟨rfl, rfl, rfl, by decide +kernel, rfl, by decide +kernel, by decide +kernel⟩
theorem c_pairs_beside (T : Txt K mg) {f : Addr} {fd : FuncData} (Fn : L2.Fun K "pairs_beside" "pairs_beside" s_pairs_beside f fd) (hm : mg "pairs_beside" = some (.ref f)) (b : Binds K fd ["land"] []) (c_all_spots : CalG P w K mg base 1 "all_spots" 1 f_all_spots) (c_spots_beside : CalG P w K mg base 2 "spots_beside" 2 f_spots_beside) : CalG P w K mg base 3 "pairs_beside" 1 f_pairs_beside := by
  refine calG (k := 2) (d := b_pairs_beside) Fn hm b sc_pairs_beside rfl rfl fun cdv A outs s H E vs hr0 hg => ?_
  have G := good_fn (P := P) (w := w) (K := K) (mg := mg) (base := base) (outs := outs) (H := H) (E := E) hr0 hg sc_pairs_beside
  have hr : Room 2 (fnX P w K mg base ["land", "found", "spot", "one"] "pairs_beside" s_pairs_beside f cdv A outs s H E).A := hr0
  exact (bv_cons (sv_set (i := 1) G rfl (loc_of rfl) (by decide) (ev_lst av_nil)) (bv_cons (sv_for G PassesOwn.never (iv_items (ev_call c_all_spots hr (by decide) G rfl (av_cons (ev_name (i := 0) rfl (vis_of rfl)) av_nil))) (gv_name (i := 2) G rfl (loc_of rfl) (by decide)) (bv_one (sv_expr (ev_extend (ev_name (i := 1) rfl (vis_of rfl)) (av_cons (ev_lc (own := [("one", 3)]) (fi := [0, 1, 2]) G (iv_items (ev_call c_spots_beside hr (by decide) G rfl (av_cons (ev_name (i := 0) rfl (vis_of rfl)) (av_cons (ev_name (i := 2) rfl (vis_of rfl)) av_nil)))) (blkOk_by rfl) (hfi_of rfl) (fun _ _ _ _ _ _ => (gv_name (i := 3) G.blk rfl (loc_of rfl) (by decide))) (fun _ _ _ _ _ => (ptsv_one (tv_cmp (rule_lt G.blk).op (by rfl) (ev_name (i := 2) rfl (vis_of rfl)) (ev_name (i := 3) rfl (vis_of rfl))))) (fun _ _ _ _ _ => (ev_tup (av_cons (ev_name (i := 2) rfl (vis_of rfl)) (av_cons (ev_name (i := 3) rfl (vis_of rfl)) av_nil))))) av_nil))))) (bv_one (sv_ret (ev_name (i := 1) rfl (vis_of rfl))))))
theorem sc_raw_greatest_step : FnScope ["land", "one", "other"] ["land"] (defScope s_raw_greatest_step) := ⟨rfl, rfl, rfl, by decide +kernel, rfl, by decide +kernel, by decide +kernel⟩
theorem c_raw_greatest_step (T : Txt K mg) {f : Addr} {fd : FuncData} (Fn : L2.Fun K "raw_greatest_step" "raw_greatest_step" s_raw_greatest_step f fd) (hm : mg "raw_greatest_step" = some (.ref f)) (b : Binds K fd ["land"] []) (c_step_between : CalG P w K mg base 2 "step_between" 3 f_step_between) (c_pairs_beside : CalG P w K mg base 3 "pairs_beside" 1 f_pairs_beside) : CalG P w K mg base 4 "raw_greatest_step" 1 f_raw_greatest_step := by
  refine calG (k := 3) (d := b_raw_greatest_step) Fn hm b sc_raw_greatest_step rfl rfl fun cdv A outs s H E vs hr0 hg => ?_
  have G := good_fn (P := P) (w := w) (K := K) (mg := mg) (base := base) (outs := outs) (H := H) (E := E) hr0 hg sc_raw_greatest_step
  have hr : Room 3 (fnX P w K mg base ["land", "one", "other"] "raw_greatest_step" s_raw_greatest_step f cdv A outs s H E).A := hr0
  exact (bv_one (sv_ret (ev_callB (rule_max G) rfl T.z_max rfl (av_cons (ev_op rule_add.op (ev_lst (av_cons ev_int av_nil)) (ev_lc (own := [("one", 1), ("other", 2)]) (fi := [0]) G (iv_items (ev_call c_pairs_beside hr (by decide) G rfl (av_cons (ev_name (i := 0) rfl (vis_of rfl)) av_nil))) (blkOk_by rfl) (hfi_of rfl) (fun _ _ _ _ _ _ => (gv_tup (n := 2) G.blk (gvs_cons (gv_name (i := 1) G.blk rfl (loc_of rfl) (by decide)) (gvs_cons (gv_name (i := 2) G.blk rfl (loc_of rfl) (by decide)) gvs_nil)))) (fun _ _ _ _ _ => ptsv_nil) (fun _ _ _ _ _ => (ev_call c_step_between hr (by decide) G.blk rfl (av_cons (ev_name (i := 0) rfl (vis_of rfl)) (av_cons (ev_name (i := 1) rfl (vis_of rfl)) (av_cons (ev_name (i := 2) rfl (vis_of rfl)) av_nil))))))) av_nil))))
theorem sc_all_heights : FnScope ["land", "found", "row"] ["land"] (defScope s_all_heights) := ⟨rfl, rfl, rfl, by decide +kernel, rfl, by decide +kernel, by decide +kernel⟩
theorem c_all_heights (T : Txt K mg) {f : Addr} {fd : FuncData} (Fn : L2.Fun K "all_heights" "all_heights" s_all_heights f fd) (hm : mg "all_heights" = some (.ref f)) (b : Binds K fd ["land"] []) : CalG P w K mg base 1 "all_heights" 1 f_all_heights := by
  refine calG (k := 0) (d := b_all_heights) Fn hm b sc_all_heights rfl rfl fun cdv A outs s H E vs hr0 hg => ?_
  have G := good_fn (P := P) (w := w) (K := K) (mg := mg) (base := base) (outs := outs) (H := H) (E := E) hr0 hg sc_all_heights
  have hr : Room 0 (fnX P w K mg base ["land", "found", "row"] "all_heights" s_all_heights f cdv A outs s H E).A := hr0
  exact (bv_cons (sv_set (i := 1) G rfl (loc_of rfl) (by decide) (ev_lst av_nil)) (bv_cons (sv_for G PassesOwn.never (iv_items (ev_name (i := 0) rfl (vis_of rfl))) (gv_name (i := 2) G rfl (loc_of rfl) (by decide)) (bv_one (sv_expr (ev_extend (ev_name (i := 1) rfl (vis_of rfl)) (av_cons (ev_callT rule_list rfl T.z_list rfl (av_cons (ev_name (i := 2) rfl (vis_of rfl)) av_nil)) av_nil))))) (bv_one (sv_ret (ev_name (i := 1) rfl (vis_of rfl))))))
theorem sc_is_settled : FnScope ["land", "s", "thing"] ["land", "s", "thing"] (defScope s_is_settled) := ⟨rfl, rfl, rfl, by decide +kernel, rfl, by decide +kernel, by decide +kernel⟩
theorem c_is_settled (T : Txt K mg) {f : Addr} {fd : FuncData} (Fn : L2.Fun K "is_settled" "is_settled" s_is_settled f fd) (hm : mg "is_settled" = some (.ref f)) (b : Binds K fd ["land", "s", "thing"] []) (c_check_steep : CalG P w K mg base 7 "check_steep" 2 f_check_steep) (c_is_land : CalG P w K mg base 5 "is_land" 1 f_is_land) (c_raw_greatest_step : CalG P w K mg base 4 "raw_greatest_step" 1 f_raw_greatest_step) (c_all_heights : CalG P w K mg base 1 "all_heights" 1 f_all_heights) : CalG P w K mg base 8 "is_settled" 3 f_is_settled := by
  refine calG (k := 7) (d := b_is_settled) Fn hm b sc_is_settled rfl rfl fun cdv A outs s H E vs hr0 hg => ?_
  have G := good_fn (P := P) (w := w) (K := K) (mg := mg) (base := base) (outs := outs) (H := H) (E := E) hr0 hg sc_is_settled
  have hr : Room 7 (fnX P w K mg base ["land", "s", "thing"] "is_settled" s_is_settled f cdv A outs s H E).A := hr0
  exact (bv_cons (sv_expr (ev_call c_check_steep hr (by decide) G rfl (av_cons (ev_name (i := 0) rfl (vis_of rfl)) (av_cons (ev_name (i := 1) rfl (vis_of rfl)) av_nil)))) (bv_cons (sv_if (tv_w (wv_or (tv_not (tv_val (ev_call c_is_land hr (by decide) G rfl (av_cons (ev_name (i := 2) rfl (vis_of rfl)) av_nil)))) (wv_or (tv_cmp (rule_ne G).op (by rfl) (ev_callB rule_len rfl T.z_len rfl (av_cons (ev_name (i := 2) rfl (vis_of rfl)) av_nil)) (ev_callB rule_len rfl T.z_len rfl (av_cons (ev_name (i := 0) rfl (vis_of rfl)) av_nil))) (wv_or1 (tv_cmp (rule_ne G).op (by rfl) (ev_callB rule_len rfl T.z_len rfl (av_cons (ev_ix (ev_name (i := 2) rfl (vis_of rfl)) ev_int) av_nil)) (ev_callB rule_len rfl T.z_len rfl (av_cons (ev_ix (ev_name (i := 0) rfl (vis_of rfl)) ev_int) av_nil))))))) (bv_one (sv_ret ev_bl)) bv_nil) (bv_one (sv_ret (ev_and (ev_cmp (rule_le G).op (by rfl) (ev_call c_raw_greatest_step hr (by decide) G rfl (av_cons (ev_name (i := 2) rfl (vis_of rfl)) av_nil)) (ev_name (i := 1) rfl (vis_of rfl))) (ev_one (ev_cmp (rule_eq G).op (by rfl) (ev_callB (rule_sum G) rfl T.z_sum rfl (av_cons (ev_call c_all_heights hr (by decide) G rfl (av_cons (ev_name (i := 2) rfl (vis_of rfl)) av_nil)) av_nil)) (ev_callB (rule_sum G) rfl T.z_sum rfl (av_cons (ev_call c_all_heights hr (by decide) G rfl (av_cons (ev_name (i := 0) rfl (vis_of rfl)) av_nil)) av_nil)))))))))
theorem sc_ulaw_is_settled : FnScope ["land", "s", "thing", "row", "one"] ["land", "s", "thing"] (defScope s_ulaw_is_settled) := ⟨rfl, rfl, rfl, by decide +kernel, rfl, by decide +kernel, by decide +kernel⟩
theorem c_ulaw_is_settled (T : Txt K mg) {f : Addr} {fd : FuncData} (Fn : L2.Fun K "_law_is_settled" "_law_is_settled" s_ulaw_is_settled f fd) (hm : mg "_law_is_settled" = some (.ref f)) (b : Binds K fd ["land", "s", "thing"] []) (c_ulaw_units : CalG P w K mg base 1 "_law_units" 1 f_ulaw_units) (c_ulaw_steep : CalG P w K mg base 2 "_law_steep" 2 f_ulaw_steep) : CalG P w K mg base 3 "_law_is_settled" 3 f_ulaw_is_settled := by
  refine calG (k := 2) (d := b_ulaw_is_settled) Fn hm b sc_ulaw_is_settled rfl rfl fun cdv A outs s H E vs hr0 hg => ?_
  have G := good_fn (P := P) (w := w) (K := K) (mg := mg) (base := base) (outs := outs) (H := H) (E := E) hr0 hg sc_ulaw_is_settled
  have hr : Room 2 (fnX P w K mg base ["land", "s", "thing", "row", "one"] "_law_is_settled" s_ulaw_is_settled f cdv A outs s H E).A := hr0
  exact (bv_cons (sv_if (tv_w (wv_or (tv_not (tv_val (ev_callB rule_isi rfl T.z_isinstance rfl (av_cons (ev_name (i := 2) rfl (vis_of rfl)) (av_cons (ev_bltn rfl T.z_tuple rfl) av_nil))))) (wv_or (tv_cmp (rule_ne G).op (by rfl) (ev_callB rule_len rfl T.z_len rfl (av_cons (ev_name (i := 2) rfl (vis_of rfl)) av_nil)) (ev_callB rule_len rfl T.z_len rfl (av_cons (ev_name (i := 0) rfl (vis_of rfl)) av_nil))) (wv_or1 (tv_not (tv_val (ev_callB (rule_all G) rfl T.z_all rfl (av_cons (ev_lc (own := [("row", 3)]) (fi := [0, 1, 2, 4]) G (iv_items (ev_name (i := 2) rfl (vis_of rfl))) (blkOk_by rfl) (hfi_of rfl) (fun _ _ _ _ _ _ => (gv_name (i := 3) G.blk rfl (loc_of rfl) (by decide))) (fun _ _ _ _ _ => ptsv_nil) (fun _ _ _ _ _ => (ev_callB rule_isi rfl T.z_isinstance rfl (av_cons (ev_name (i := 3) rfl (vis_of rfl)) (av_cons (ev_bltn rfl T.z_tuple rfl) av_nil))))) av_nil)))))))) (bv_one (sv_ret ev_bl)) bv_nil) (bv_cons (sv_for G PassesOwn.never (iv_items (ev_name (i := 2) rfl (vis_of rfl))) (gv_name (i := 3) G rfl (loc_of rfl) (by decide)) (bv_cons (sv_if (tv_w (wv_or (tv_cmp (rule_ne G).op (by rfl) (ev_callB rule_len rfl T.z_len rfl (av_cons (ev_name (i := 3) rfl (vis_of rfl)) av_nil)) (ev_callB rule_len rfl T.z_len rfl (av_cons (ev_ix (ev_name (i := 0) rfl (vis_of rfl)) ev_int) av_nil))) (wv_or1 (tv_not (tv_val (ev_callB (rule_all G) rfl T.z_all rfl (av_cons (ev_lc (own := [("one", 4)]) (fi := [0, 1, 2, 3]) G (iv_items (ev_name (i := 3) rfl (vis_of rfl))) (blkOk_by rfl) (hfi_of rfl) (fun _ _ _ _ _ _ => (gv_name (i := 4) G.blk rfl (loc_of rfl) (by decide))) (fun _ _ _ _ _ => ptsv_nil) (fun _ _ _ _ _ => (ev_and (ev_callB rule_isi rfl T.z_isinstance rfl (av_cons (ev_name (i := 4) rfl (vis_of rfl)) (av_cons (ev_bltn rfl T.z_int rfl) av_nil))) (ev_one (ev_not (ev_callB rule_isi rfl T.z_isinstance rfl (av_cons (ev_name (i := 4) rfl (vis_of rfl)) (av_cons (ev_bltn rfl T.z_bool rfl) av_nil)))))))) av_nil))))))) (bv_one (sv_ret ev_bl)) bv_nil) (bv_one (sv_if (tv_not (tv_val (ev_callB (rule_all G) rfl T.z_all rfl (av_cons (ev_lc (own := [("one", 4)]) (fi := [0, 1, 2, 3]) G (iv_items (ev_name (i := 3) rfl (vis_of rfl))) (blkOk_by rfl) (hfi_of rfl) (fun _ _ _ _ _ _ => (gv_name (i := 4) G.blk rfl (loc_of rfl) (by decide))) (fun _ _ _ _ _ => ptsv_nil) (fun _ _ _ _ _ => (ev_chain (rule_le G.blk) (rule_le G.blk) ev_int (ev_name (i := 4) rfl (vis_of rfl)) ev_int))) av_nil)))) (bv_one (sv_ret ev_bl)) bv_nil)))) (bv_one (sv_ret (ev_and (ev_cmp (rule_eq G).op (by rfl) (ev_call c_ulaw_units hr (by decide) G rfl (av_cons (ev_name (i := 2) rfl (vis_of rfl)) av_nil)) (ev_call c_ulaw_units hr (by decide) G rfl (av_cons (ev_name (i := 0) rfl (vis_of rfl)) av_nil))) (ev_one (ev_cmp (rule_eq G).op (by rfl) (ev_call c_ulaw_steep hr (by decide) G rfl (av_cons (ev_name (i := 2) rfl (vis_of rfl)) (av_cons (ev_name (i := 1) rfl (vis_of rfl)) av_nil))) (ev_lst av_nil))))))))
theorem sc_ulaw_are_things_right : FnScope ["hand", "land", "s", "last", "spots", "moved", "even", "more", "flat", "wide", "spread", "things", "thing", "at", "row"] ["hand", "land", "s", "last"] (defScope s_ulaw_are_things_right) := ⟨rfl, rfl, rfl, by decide +kernel, rfl, by decide +kernel, by decide +kernel⟩
theorem c_ulaw_are_things_right (T : Txt K mg) {f : Addr} {fd : FuncData} (Fn : L2.Fun K "_law_are_things_right" "_law_are_things_right" s_ulaw_are_things_right f fd) (hm : mg "_law_are_things_right" = some (.ref f)) (b : Binds K fd ["hand", "land", "s", "last"] []) (c_ulaw_spots : CalG P w K mg base 1 "_law_spots" 1 f_ulaw_spots) (c_ulaw_behind : CalG P w K mg base 1 "_law_behind" 2 f_ulaw_behind) (c_ulaw_any : CalG P w K mg base 2 "_law_any" 2 f_ulaw_any) (c_ulaw_units : CalG P w K mg base 1 "_law_units" 1 f_ulaw_units) (c_ulaw_like : CalG P w K mg base 1 "_law_like" 2 f_ulaw_like) (c_is_settled : CalG P w K mg base 8 "is_settled" 3 f_is_settled) (c_ulaw_is_settled : CalG P w K mg base 3 "_law_is_settled" 3 f_ulaw_is_settled) : CalG P w K mg base 9 "_law_are_things_right" 4 f_ulaw_are_things_right := by
  refine calG (k := 8) (d := b_ulaw_are_things_right) Fn hm b sc_ulaw_are_things_right rfl rfl fun cdv A outs s H E vs hr0 hg => ?_
  have G := good_fn (P := P) (w := w) (K := K) (mg := mg) (base := base) (outs := outs) (H := H) (E := E) hr0 hg sc_ulaw_are_things_right
  have hr : Room 8 (fnX P w K mg base ["hand", "land", "s", "last", "spots", "moved", "even", "more", "flat", "wide", "spread", "things", "thing", "at", "row"] "_law_are_things_right" s_ulaw_are_things_right f cdv A outs s H E).A := hr0
  exact (bv_cons (sv_set (i := 4) G rfl (loc_of rfl) (by decide) (ev_call c_ulaw_spots hr (by decide) G rfl (av_cons (ev_name (i := 1) rfl (vis_of rfl)) av_nil))) (bv_cons (sv_set (i := 5) G rfl (loc_of rfl) (by decide) (ev_call c_ulaw_behind hr (by decide) G rfl (av_cons (ev_name (i := 3) rfl (vis_of rfl)) (av_cons (ev_tup (av_cons (ev_call c_ulaw_any hr (by decide) G rfl (av_cons (ev_name (i := 0) rfl (vis_of rfl)) (av_cons (ev_name (i := 4) rfl (vis_of rfl)) av_nil))) (av_cons (ev_call c_ulaw_any hr (by decide) G rfl (av_cons (ev_name (i := 0) rfl (vis_of rfl)) (av_cons (ev_name (i := 4) rfl (vis_of rfl)) av_nil))) av_nil))) av_nil)))) (bv_cons (sv_parT (is := [6, 7]) G (pgs_names_cons (i := 6) G rfl (loc_of rfl) (pgs_names_cons (i := 7) G rfl (loc_of rfl) pgs_names_nil)) (av_cons (ev_op rule_div.op (ev_call c_ulaw_units hr (by decide) G rfl (av_cons (ev_name (i := 1) rfl (vis_of rfl)) av_nil)) (ev_callB rule_len rfl T.z_len rfl (av_cons (ev_name (i := 4) rfl (vis_of rfl)) av_nil))) (av_cons (ev_op rule_mod.op (ev_callT rule_int rfl T.z_int rfl (av_cons (ev_call c_ulaw_units hr (by decide) G rfl (av_cons (ev_name (i := 1) rfl (vis_of rfl)) av_nil)) av_nil)) (ev_callB rule_len rfl T.z_len rfl (av_cons (ev_name (i := 4) rfl (vis_of rfl)) av_nil))) av_nil)) (hlt_of rfl) (by decide)) (bv_cons (sv_set (i := 8) G rfl (loc_of rfl) (by decide) (ev_lc (own := [("at", 13)]) (fi := [0, 1, 2, 3, 4, 5, 6, 7, 8, 9, 10, 11, 12, 14]) G (iv_range1 rfl T.z_range (av_cons (ev_callB rule_len rfl T.z_len rfl (av_cons (ev_name (i := 4) rfl (vis_of rfl)) av_nil)) av_nil)) (blkOk_by rfl) (hfi_of rfl) (fun _ _ _ _ _ _ => (gv_name (i := 13) G.blk rfl (loc_of rfl) (by decide))) (fun _ _ _ _ _ => ptsv_nil) (fun _ _ _ _ _ => (ev_op rule_add.op (ev_name (i := 6) rfl (vis_of rfl)) (ev_callT rule_int rfl T.z_int rfl (av_cons (ev_cmp (rule_lt G.blk).op (by rfl) (ev_name (i := 13) rfl (vis_of rfl)) (ev_name (i := 7) rfl (vis_of rfl))) av_nil)))))) (bv_cons (sv_set (i := 9) G rfl (loc_of rfl) (by decide) (ev_callB rule_len rfl T.z_len rfl (av_cons (ev_ix (ev_name (i := 1) rfl (vis_of rfl)) ev_int) av_nil))) (bv_cons (sv_set (i := 10) G rfl (loc_of rfl) (by decide) (ev_callT rule_tuple rfl T.z_tuple rfl (av_cons (ev_lc (own := [("row", 14)]) (fi := [0, 1, 2, 3, 4, 5, 6, 7, 8, 9, 10, 11, 12, 13]) G (iv_range1 rfl T.z_range (av_cons (ev_callB rule_len rfl T.z_len rfl (av_cons (ev_name (i := 1) rfl (vis_of rfl)) av_nil)) av_nil)) (blkOk_by rfl) (hfi_of rfl) (fun _ _ _ _ _ _ => (gv_name (i := 14) G.blk rfl (loc_of rfl) (by decide))) (fun _ _ _ _ _ => ptsv_nil) (fun _ _ _ _ _ => (ev_callT rule_tuple rfl T.z_tuple rfl (av_cons (ev_slice (dl := (some (dop (fun a b => dfn gMul [a, b]) (dname 14) (dname 9)))) (dh := (some (dop (fun a b => dfn gAdd [a, b]) (dop (fun a b => dfn gMul [a, b]) (dname 14) (dname 9)) (dname 9)))) (ev_name (i := 8) rfl (vis_of rfl)) (po_some (ev_op rule_mul.op (ev_name (i := 14) rfl (vis_of rfl)) (ev_name (i := 9) rfl (vis_of rfl)))) (po_some (ev_op rule_add.op (ev_op rule_mul.op (ev_name (i := 14) rfl (vis_of rfl)) (ev_name (i := 9) rfl (vis_of rfl))) (ev_name (i := 9) rfl (vis_of rfl))))) av_nil)))) av_nil))) (bv_cons (sv_set (i := 11) G rfl (loc_of rfl) (by decide) (ev_lst (av_cons (ev_name (i := 3) rfl (vis_of rfl)) (av_cons (ev_name (i := 5) rfl (vis_of rfl)) (av_cons (ev_name (i := 10) rfl (vis_of rfl)) (av_cons (ev_name (i := 1) rfl (vis_of rfl)) (av_cons (ev_slice (dl := (some (dcon (.int 1)))) (dh := none) (ev_name (i := 3) rfl (vis_of rfl)) (po_some ev_int) po_none) (av_cons (ev_op rule_add.op (ev_name (i := 3) rfl (vis_of rfl)) (ev_slice (dl := none) (dh := (some (dcon (.int 1)))) (ev_name (i := 3) rfl (vis_of rfl)) po_none (po_some ev_int))) (av_cons (ev_callT rule_list rfl T.z_list rfl (av_cons (ev_name (i := 3) rfl (vis_of rfl)) av_nil)) (av_cons ev_non (av_cons (ev_tup av_nil) av_nil))))))))))) (bv_cons (sv_set (i := 11) G rfl (loc_of rfl) (by decide) (ev_op rule_add.op (ev_name (i := 11) rfl (vis_of rfl)) (ev_lst (av_cons (ev_op rule_add.op (ev_slice (dl := none) (dh := (some (dun (fun a => dfn gNeg [a]) (dcon (.int 1))))) (ev_name (i := 3) rfl (vis_of rfl)) po_none (po_some (ev_un rule_neg.un ev_int))) (ev_tup (av_cons (ev_op rule_add.op (ev_tup (av_cons (ev_op rule_add.op (ev_ix (ev_ix (ev_name (i := 3) rfl (vis_of rfl)) (ev_un rule_neg.un ev_int)) ev_int) ev_int) av_nil)) (ev_slice (dl := (some (dcon (.int 1)))) (dh := none) (ev_ix (ev_name (i := 3) rfl (vis_of rfl)) (ev_un rule_neg.un ev_int)) (po_some ev_int) po_none)) av_nil))) (av_cons (ev_rev (ev_name (i := 3) rfl (vis_of rfl))) av_nil))))) (bv_cons (sv_set (i := 11) G rfl (loc_of rfl) (by decide) (ev_op rule_add.op (ev_name (i := 11) rfl (vis_of rfl)) (ev_lst (av_cons (ev_callT rule_tuple rfl T.z_tuple rfl (av_cons (ev_lc (own := [("row", 14)]) (fi := [0, 1, 2, 3, 4, 5, 6, 7, 8, 9, 10, 11, 12, 13]) G (iv_items (ev_name (i := 3) rfl (vis_of rfl))) (blkOk_by rfl) (hfi_of rfl) (fun _ _ _ _ _ _ => (gv_name (i := 14) G.blk rfl (loc_of rfl) (by decide))) (fun _ _ _ _ _ => ptsv_nil) (fun _ _ _ _ _ => (ev_rev (ev_name (i := 14) rfl (vis_of rfl))))) av_nil)) (av_cons (ev_callT rule_tuple rfl T.z_tuple rfl (av_cons (ev_lc (own := [("row", 14)]) (fi := [0, 1, 2, 3, 4, 5, 6, 7, 8, 9, 10, 11, 12, 13]) G (iv_items (ev_name (i := 3) rfl (vis_of rfl))) (blkOk_by rfl) (hfi_of rfl) (fun _ _ _ _ _ _ => (gv_name (i := 14) G.blk rfl (loc_of rfl) (by decide))) (fun _ _ _ _ _ => ptsv_nil) (fun _ _ _ _ _ => (ev_frz (ev_callT rule_list rfl T.z_list rfl (av_cons (ev_name (i := 14) rfl (vis_of rfl)) av_nil))))) av_nil)) av_nil))))) (bv_cons (sv_for G PassesOwn.never (iv_items (ev_name (i := 11) rfl (vis_of rfl))) (gv_name (i := 12) G rfl (loc_of rfl) (by decide)) (bv_one (sv_if (tv_not (tv_val (ev_call c_ulaw_like hr (by decide) G rfl (av_cons (ev_call c_is_settled hr (by decide) G rfl (av_cons (ev_name (i := 1) rfl (vis_of rfl)) (av_cons (ev_name (i := 2) rfl (vis_of rfl)) (av_cons (ev_name (i := 12) rfl (vis_of rfl)) av_nil)))) (av_cons (ev_call c_ulaw_is_settled hr (by decide) G rfl (av_cons (ev_name (i := 1) rfl (vis_of rfl)) (av_cons (ev_name (i := 2) rfl (vis_of rfl)) (av_cons (ev_name (i := 12) rfl (vis_of rfl)) av_nil)))) av_nil))))) (bv_one (sv_ret ev_bl)) bv_nil))) (bv_one (sv_ret ev_bl))))))))))))
theorem sc_higher_first : FnScope ["land", "one", "other"] ["land", "one", "other"] (defScope s_higher_first) := ⟨rfl, rfl, rfl, by decide +kernel, rfl, by decide +kernel, by decide +kernel⟩
theorem c_higher_first (T : Txt K mg) {f : Addr} {fd : FuncData} (Fn : L2.Fun K "higher_first" "higher_first" s_higher_first f fd) (hm : mg "higher_first" = some (.ref f)) (b : Binds K fd ["land", "one", "other"] []) (c_height_of : CalG P w K mg base 1 "height_of" 2 f_height_of) : CalG P w K mg base 2 "higher_first" 3 f_higher_first := by
  refine calG (k := 1) (d := b_higher_first) Fn hm b sc_higher_first rfl rfl fun cdv A outs s H E vs hr0 hg => ?_
  have G := good_fn (P := P) (w := w) (K := K) (mg := mg) (base := base) (outs := outs) (H := H) (E := E) hr0 hg sc_higher_first
  have hr : Room 1 (fnX P w K mg base ["land", "one", "other"] "higher_first" s_higher_first f cdv A outs s H E).A := hr0
  exact (bv_one (sv_ret (ev_if (tv_cmp (rule_gt G).op (by rfl) (ev_call c_height_of hr (by decide) G rfl (av_cons (ev_name (i := 0) rfl (vis_of rfl)) (av_cons (ev_name (i := 1) rfl (vis_of rfl)) av_nil))) (ev_call c_height_of hr (by decide) G rfl (av_cons (ev_name (i := 0) rfl (vis_of rfl)) (av_cons (ev_name (i := 2) rfl (vis_of rfl)) av_nil)))) (ev_tup (av_cons (ev_name (i := 1) rfl (vis_of rfl)) (av_cons (ev_name (i := 2) rfl (vis_of rfl)) av_nil))) (ev_tup (av_cons (ev_name (i := 2) rfl (vis_of rfl)) (av_cons (ev_name (i := 1) rfl (vis_of rfl)) av_nil))))))
theorem sc_raw_steep_pairs : FnScope ["land", "s", "some", "one", "other"] ["land", "s"] (defScope s_raw_steep_pairs) := ⟨rfl, rfl, rfl, by decide +kernel, rfl, by decide +kernel, by decide +kernel⟩
theorem c_raw_steep_pairs (T : Txt K mg) {f : Addr} {fd : FuncData} (Fn : L2.Fun K "raw_steep_pairs" "raw_steep_pairs" s_raw_steep_pairs f fd) (hm : mg "raw_steep_pairs" = some (.ref f)) (b : Binds K fd ["land", "s"] []) (c_pairs_beside : CalG P w K mg base 3 "pairs_beside" 1 f_pairs_beside) (c_higher_first : CalG P w K mg base 2 "higher_first" 3 f_higher_first) (c_step_between : CalG P w K mg base 2 "step_between" 3 f_step_between) : CalG P w K mg base 4 "raw_steep_pairs" 2 f_raw_steep_pairs := by
  refine calG (k := 3) (d := b_raw_steep_pairs) Fn hm b sc_raw_steep_pairs rfl rfl fun cdv A outs s H E vs hr0 hg => ?_
  have G := good_fn (P := P) (w := w) (K := K) (mg := mg) (base := base) (outs := outs) (H := H) (E := E) hr0 hg sc_raw_steep_pairs
  have hr : Room 3 (fnX P w K mg base ["land", "s", "some", "one", "other"] "raw_steep_pairs" s_raw_steep_pairs f cdv A outs s H E).A := hr0
  exact (bv_cons (sv_setLc (i := 2) (own := [("one", 3), ("other", 4)]) (fb := [0, 1, 2]) G rfl rfl (by decide) rfl (iv_items (ev_call c_pairs_beside hr (by decide) G rfl (av_cons (ev_name (i := 0) rfl (vis_of rfl)) av_nil))) (blkOk_by rfl) (hfi_of rfl) (fun _ _ _ _ _ _ => (gv_tup (n := 2) G.blk (gvs_cons (gv_name (i := 3) G.blk rfl (loc_of rfl) (by decide)) (gvs_cons (gv_name (i := 4) G.blk rfl (loc_of rfl) (by decide)) gvs_nil)))) (fun _ _ _ _ _ => (ptsv_one (tv_cmp (rule_gt G.blk).op (by rfl) (ev_call c_step_between hr (by decide) G.blk rfl (av_cons (ev_name (i := 0) rfl (vis_of rfl)) (av_cons (ev_name (i := 3) rfl (vis_of rfl)) (av_cons (ev_name (i := 4) rfl (vis_of rfl)) av_nil)))) (ev_name (i := 1) rfl (vis_of rfl))))) (fun _ _ _ _ _ => (ev_tup (av_cons (ev_name (i := 3) rfl (vis_of rfl)) (av_cons (ev_name (i := 4) rfl (vis_of rfl)) av_nil))))) (bv_one (sv_ret (ev_callB (rule_sorted G) rfl T.z_sorted rfl (av_cons (ev_lc (own := [("one", 3), ("other", 4)]) (fi := [0, 1, 2]) G (iv_items (ev_name (i := 2) rfl (vis_of rfl))) (blkOk_by rfl) (hfi_of rfl) (fun _ _ _ _ _ _ => (gv_tup (n := 2) G.blk (gvs_cons (gv_name (i := 3) G.blk rfl (loc_of rfl) (by decide)) (gvs_cons (gv_name (i := 4) G.blk rfl (loc_of rfl) (by decide)) gvs_nil)))) (fun _ _ _ _ _ => ptsv_nil) (fun _ _ _ _ _ => (ev_call c_higher_first hr (by decide) G.blk rfl (av_cons (ev_name (i := 0) rfl (vis_of rfl)) (av_cons (ev_name (i := 3) rfl (vis_of rfl)) (av_cons (ev_name (i := 4) rfl (vis_of rfl)) av_nil)))))) av_nil)))))
theorem sc_steep_pairs : FnScope ["land", "s"] ["land", "s"] (defScope s_steep_pairs) := ⟨rfl, rfl, rfl, by decide +kernel, rfl, by decide +kernel, by decide +kernel⟩
theorem c_steep_pairs (T : Txt K mg) {f : Addr} {fd : FuncData} (Fn : L2.Fun K "steep_pairs" "steep_pairs" s_steep_pairs f fd) (hm : mg "steep_pairs" = some (.ref f)) (b : Binds K fd ["land", "s"] []) (c_check_steep : CalG P w K mg base 7 "check_steep" 2 f_check_steep) (c_raw_steep_pairs : CalG P w K mg base 4 "raw_steep_pairs" 2 f_raw_steep_pairs) : CalG P w K mg base 8 "steep_pairs" 2 f_steep_pairs := by
  refine calG (k := 7) (d := b_steep_pairs) Fn hm b sc_steep_pairs rfl rfl fun cdv A outs s H E vs hr0 hg => ?_
  have G := good_fn (P := P) (w := w) (K := K) (mg := mg) (base := base) (outs := outs) (H := H) (E := E) hr0 hg sc_steep_pairs
  have hr : Room 7 (fnX P w K mg base ["land", "s"] "steep_pairs" s_steep_pairs f cdv A outs s H E).A := hr0
  exact (bv_cons (sv_expr (ev_call c_check_steep hr (by decide) G rfl (av_cons (ev_name (i := 0) rfl (vis_of rfl)) (av_cons (ev_name (i := 1) rfl (vis_of rfl)) av_nil)))) (bv_one (sv_ret (ev_callT rule_tuple rfl T.z_tuple rfl (av_cons (ev_call c_raw_steep_pairs hr (by decide) G rfl (av_cons (ev_name (i := 0) rfl (vis_of rfl)) (av_cons (ev_name (i := 1) rfl (vis_of rfl)) av_nil))) av_nil)))))
theorem sc_with_height : FnScope ["land", "spot", "high", "row"] ["land", "spot", "high"] (defScope s_with_height) := ⟨rfl, rfl, rfl, by decide +kernel, rfl, by decide +kernel, by decide +kernel⟩
theorem c_with_height (T : Txt K mg) {f : Addr} {fd : FuncData} (Fn : L2.Fun K "with_height" "with_height" s_with_height f fd) (hm : mg "with_height" = some (.ref f)) (b : Binds K fd ["land", "spot", "high"] []) : CalG P w K mg base 1 "with_height" 3 f_with_height := by
  refine calG (k := 0) (d := b_with_height) Fn hm b sc_with_height rfl rfl fun cdv A outs s H E vs hr0 hg => ?_
  have G := good_fn (P := P) (w := w) (K := K) (mg := mg) (base := base) (outs := outs) (H := H) (E := E) hr0 hg sc_with_height
  have hr : Room 0 (fnX P w K mg base ["land", "spot", "high", "row"] "with_height" s_with_height f cdv A outs s H E).A := hr0
  exact (bv_cons (sv_set (i := 3) G rfl (loc_of rfl) (by decide) (ev_ix (ev_name (i := 0) rfl (vis_of rfl)) (ev_ix (ev_name (i := 1) rfl (vis_of rfl)) ev_int))) (bv_cons (sv_set (i := 3) G rfl (loc_of rfl) (by decide) (ev_op rule_add.op (ev_op rule_add.op (ev_slice (dl := none) (dh := (some (dop dixE (dname 1) (dcon (.int 1))))) (ev_name (i := 3) rfl (vis_of rfl)) po_none (po_some (ev_ix (ev_name (i := 1) rfl (vis_of rfl)) ev_int))) (ev_tup (av_cons (ev_name (i := 2) rfl (vis_of rfl)) av_nil))) (ev_slice (dl := (some (dop (fun a b => dfn gAdd [a, b]) (dop dixE (dname 1) (dcon (.int 1))) (dcon (.int 1))))) (dh := none) (ev_name (i := 3) rfl (vis_of rfl)) (po_some (ev_op rule_add.op (ev_ix (ev_name (i := 1) rfl (vis_of rfl)) ev_int) ev_int)) po_none))) (bv_one (sv_ret (ev_op rule_add.op (ev_op rule_add.op (ev_slice (dl := none) (dh := (some (dop dixE (dname 1) (dcon (.int 0))))) (ev_name (i := 0) rfl (vis_of rfl)) po_none (po_some (ev_ix (ev_name (i := 1) rfl (vis_of rfl)) ev_int))) (ev_tup (av_cons (ev_name (i := 3) rfl (vis_of rfl)) av_nil))) (ev_slice (dl := (some (dop (fun a b => dfn gAdd [a, b]) (dop dixE (dname 1) (dcon (.int 0))) (dcon (.int 1))))) (dh := none) (ev_name (i := 0) rfl (vis_of rfl)) (po_some (ev_op rule_add.op (ev_ix (ev_name (i := 1) rfl (vis_of rfl)) ev_int) ev_int)) po_none))))))
theorem sc_moved_unit : FnScope ["land", "one", "other", "later"] ["land", "one", "other"] (defScope s_moved_unit) := ⟨rfl, rfl, rfl, by decide +kernel, rfl, by decide +kernel, by decide +kernel⟩
theorem c_moved_unit (T : Txt K mg) {f : Addr} {fd : FuncData} (Fn : L2.Fun K "moved_unit" "moved_unit" s_moved_unit f fd) (hm : mg "moved_unit" = some (.ref f)) (b : Binds K fd ["land", "one", "other"] []) (c_with_height : CalG P w K mg base 1 "with_height" 3 f_with_height) (c_height_of : CalG P w K mg base 1 "height_of" 2 f_height_of) : CalG P w K mg base 2 "moved_unit" 3 f_moved_unit := by
  refine calG (k := 1) (d := b_moved_unit) Fn hm b sc_moved_unit rfl rfl fun cdv A outs s H E vs hr0 hg => ?_
  have G := good_fn (P := P) (w := w) (K := K) (mg := mg) (base := base) (outs := outs) (H := H) (E := E) hr0 hg sc_moved_unit
  have hr : Room 1 (fnX P w K mg base ["land", "one", "other", "later"] "moved_unit" s_moved_unit f cdv A outs s H E).A := hr0
  exact (bv_cons (sv_set (i := 3) G rfl (loc_of rfl) (by decide) (ev_call c_with_height hr (by decide) G rfl (av_cons (ev_name (i := 0) rfl (vis_of rfl)) (av_cons (ev_name (i := 1) rfl (vis_of rfl)) (av_cons (ev_op rule_sub.op (ev_call c_height_of hr (by decide) G rfl (av_cons (ev_name (i := 0) rfl (vis_of rfl)) (av_cons (ev_name (i := 1) rfl (vis_of rfl)) av_nil))) ev_int) av_nil))))) (bv_one (sv_ret (ev_call c_with_height hr (by decide) G rfl (av_cons (ev_name (i := 3) rfl (vis_of rfl)) (av_cons (ev_name (i := 2) rfl (vis_of rfl)) (av_cons (ev_op rule_add.op (ev_call c_height_of hr (by decide) G rfl (av_cons (ev_name (i := 3) rfl (vis_of rfl)) (av_cons (ev_name (i := 2) rfl (vis_of rfl)) av_nil))) ev_int) av_nil)))))))
theorem sc_raw_fall : FnScope ["land", "s", "some"] ["land", "s"] (defScope s_raw_fall) := ⟨rfl, rfl, rfl, by decide +kernel, rfl, by decide +kernel, by decide +kernel⟩
theorem c_raw_fall (T : Txt K mg) {f : Addr} {fd : FuncData} (Fn : L2.Fun K "raw_fall" "raw_fall" s_raw_fall f fd) (hm : mg "raw_fall" = some (.ref f)) (b : Binds K fd ["land", "s"] []) (c_raw_steep_pairs : CalG P w K mg base 4 "raw_steep_pairs" 2 f_raw_steep_pairs) (c_moved_unit : CalG P w K mg base 2 "moved_unit" 3 f_moved_unit) : CalG P w K mg base 5 "raw_fall" 2 f_raw_fall := by
  refine calG (k := 4) (d := b_raw_fall) Fn hm b sc_raw_fall rfl rfl fun cdv A outs s H E vs hr0 hg => ?_
  have G := good_fn (P := P) (w := w) (K := K) (mg := mg) (base := base) (outs := outs) (H := H) (E := E) hr0 hg sc_raw_fall
  have hr : Room 4 (fnX P w K mg base ["land", "s", "some"] "raw_fall" s_raw_fall f cdv A outs s H E).A := hr0
  exact (bv_cons (sv_set (i := 2) G rfl (loc_of rfl) (by decide) (ev_call c_raw_steep_pairs hr (by decide) G rfl (av_cons (ev_name (i := 0) rfl (vis_of rfl)) (av_cons (ev_name (i := 1) rfl (vis_of rfl)) av_nil)))) (bv_one (sv_ret (ev_if (tv_cmp (rule_gt G).op (by rfl) (ev_callB rule_len rfl T.z_len rfl (av_cons (ev_name (i := 2) rfl (vis_of rfl)) av_nil)) ev_int) (ev_call c_moved_unit hr (by decide) G rfl (av_cons (ev_name (i := 0) rfl (vis_of rfl)) (av_cons (ev_ix (ev_ix (ev_name (i := 2) rfl (vis_of rfl)) ev_int) ev_int) (av_cons (ev_ix (ev_ix (ev_name (i := 2) rfl (vis_of rfl)) ev_int) ev_int) av_nil)))) (ev_name (i := 0) rfl (vis_of rfl))))))
theorem sc_fall : FnScope ["land", "s"] ["land", "s"] (defScope s_fall) := ⟨rfl, rfl, rfl, by decide +kernel, rfl, by decide +kernel, by decide +kernel⟩
theorem c_fall (T : Txt K mg) {f : Addr} {fd : FuncData} (Fn : L2.Fun K "fall" "fall" s_fall f fd) (hm : mg "fall" = some (.ref f)) (b : Binds K fd ["land", "s"] []) (c_check_steep : CalG P w K mg base 7 "check_steep" 2 f_check_steep) (c_raw_fall : CalG P w K mg base 5 "raw_fall" 2 f_raw_fall) : CalG P w K mg base 8 "fall" 2 f_fall := by
  refine calG (k := 7) (d := b_fall) Fn hm b sc_fall rfl rfl fun cdv A outs s H E vs hr0 hg => ?_
  have G := good_fn (P := P) (w := w) (K := K) (mg := mg) (base := base) (outs := outs) (H := H) (E := E) hr0 hg sc_fall
  have hr : Room 7 (fnX P w K mg base ["land", "s"] "fall" s_fall f cdv A outs s H E).A := hr0
  exact (bv_cons (sv_expr (ev_call c_check_steep hr (by decide) G rfl (av_cons (ev_name (i := 0) rfl (vis_of rfl)) (av_cons (ev_name (i := 1) rfl (vis_of rfl)) av_nil)))) (bv_one (sv_ret (ev_call c_raw_fall hr (by decide) G rfl (av_cons (ev_name (i := 0) rfl (vis_of rfl)) (av_cons (ev_name (i := 1) rfl (vis_of rfl)) av_nil))))))
theorem sc_least_steep : FnScope ["land"] ["land"] (defScope s_least_steep) := ⟨rfl, rfl, rfl, by decide +kernel, rfl, by decide +kernel, by decide +kernel⟩
theorem c_least_steep (T : Txt K mg) {f : Addr} {fd : FuncData} (Fn : L2.Fun K "least_steep" "least_steep" s_least_steep f fd) (hm : mg "least_steep" = some (.ref f)) (b : Binds K fd ["land"] []) (c_check_land : CalG P w K mg base 6 "check_land" 1 f_check_land) (c_raw_greatest_step : CalG P w K mg base 4 "raw_greatest_step" 1 f_raw_greatest_step) : CalG P w K mg base 7 "least_steep" 1 f_least_steep := by
  refine calG (k := 6) (d := b_least_steep) Fn hm b sc_least_steep rfl rfl fun cdv A outs s H E vs hr0 hg => ?_
  have G := good_fn (P := P) (w := w) (K := K) (mg := mg) (base := base) (outs := outs) (H := H) (E := E) hr0 hg sc_least_steep
  have hr : Room 6 (fnX P w K mg base ["land"] "least_steep" s_least_steep f cdv A outs s H E).A := hr0
  exact (bv_cons (sv_expr (ev_call c_check_land hr (by decide) G rfl (av_cons (ev_name (i := 0) rfl (vis_of rfl)) av_nil))) (bv_one (sv_ret (ev_call c_raw_greatest_step hr (by decide) G rfl (av_cons (ev_name (i := 0) rfl (vis_of rfl)) av_nil)))))
theorem sc_all_falls : FnScope ["land", "s", "many", "later"] ["land", "s"] (defScope s_all_falls) := ⟨rfl, rfl, rfl, by decide +kernel, rfl, by decide +kernel, by decide +kernel⟩
theorem c_all_falls (T : Txt K mg) {f : Addr} {fd : FuncData} (Fn : L2.Fun K "all_falls" "all_falls" s_all_falls f fd) (hm : mg "all_falls" = some (.ref f)) (b : Binds K fd ["land", "s"] []) (c_raw_fall : CalG P w K mg base 5 "raw_fall" 2 f_raw_fall) : CalG P w K mg base 6 "all_falls" 2 f_all_falls := by
  refine calG (k := 5) (d := b_all_falls) Fn hm b sc_all_falls rfl rfl fun cdv A outs s H E vs hr0 hg => ?_
  have G := good_fn (P := P) (w := w) (K := K) (mg := mg) (base := base) (outs := outs) (H := H) (E := E) hr0 hg sc_all_falls
  have hr : Room 5 (fnX P w K mg base ["land", "s", "many", "later"] "all_falls" s_all_falls f cdv A outs s H E).A := hr0
  exact (bv_cons (sv_par (i := 2) (j := 3) G rfl rfl (by decide) (by decide) (by decide) rfl rfl (av_cons ev_int (av_cons (ev_call c_raw_fall hr (by decide) G rfl (av_cons (ev_name (i := 0) rfl (vis_of rfl)) (av_cons (ev_name (i := 1) rfl (vis_of rfl)) av_nil))) av_nil)) rfl) (bv_cons (sv_while PassesOwn.never (tv_cmp (rule_ne G).op (by rfl) (ev_name (i := 3) rfl (vis_of rfl)) (ev_name (i := 0) rfl (vis_of rfl))) (bv_cons (sv_set (i := 2) G rfl (loc_of rfl) (by decide) (ev_op rule_add.op (ev_name (i := 2) rfl (vis_of rfl)) ev_int)) (bv_cons (sv_if (tv_cmp (rule_gt G).op (by rfl) (ev_name (i := 2) rfl (vis_of rfl)) (ev_gc T.c_MOST_FALLS rfl)) bv_never bv_nil) (bv_one (sv_par (i := 0) (j := 3) G rfl rfl (by decide) (by decide) (by decide) rfl rfl (av_cons (ev_name (i := 3) rfl (vis_of rfl)) (av_cons (ev_call c_raw_fall hr (by decide) G rfl (av_cons (ev_name (i := 3) rfl (vis_of rfl)) (av_cons (ev_name (i := 1) rfl (vis_of rfl)) av_nil))) av_nil)) rfl))))) (bv_one (sv_ret (ev_tup (av_cons (ev_name (i := 0) rfl (vis_of rfl)) (av_cons (ev_name (i := 2) rfl (vis_of rfl)) av_nil)))))))
theorem sc_settled : FnScope ["land", "s"] ["land", "s"] (defScope s_settled) := ⟨rfl, rfl, rfl, by decide +kernel, rfl, by decide +kernel, by decide +kernel⟩
theorem c_settled (T : Txt K mg) {f : Addr} {fd : FuncData} (Fn : L2.Fun K "settled" "settled" s_settled f fd) (hm : mg "settled" = some (.ref f)) (b : Binds K fd ["land", "s"] []) (c_check_steep : CalG P w K mg base 7 "check_steep" 2 f_check_steep) (c_all_falls : CalG P w K mg base 6 "all_falls" 2 f_all_falls) : CalG P w K mg base 8 "settled" 2 f_settled := by
  refine calG (k := 7) (d := b_settled) Fn hm b sc_settled rfl rfl fun cdv A outs s H E vs hr0 hg => ?_
  have G := good_fn (P := P) (w := w) (K := K) (mg := mg) (base := base) (outs := outs) (H := H) (E := E) hr0 hg sc_settled
  have hr : Room 7 (fnX P w K mg base ["land", "s"] "settled" s_settled f cdv A outs s H E).A := hr0
  exact (bv_cons (sv_expr (ev_call c_check_steep hr (by decide) G rfl (av_cons (ev_name (i := 0) rfl (vis_of rfl)) (av_cons (ev_name (i := 1) rfl (vis_of rfl)) av_nil)))) (bv_one (sv_ret (ev_ix (ev_call c_all_falls hr (by decide) G rfl (av_cons (ev_name (i := 0) rfl (vis_of rfl)) (av_cons (ev_name (i := 1) rfl (vis_of rfl)) av_nil))) ev_int))))
theorem sc_falls_many : FnScope ["land", "s"] ["land", "s"] (defScope s_falls_many) := ⟨rfl, rfl, rfl, by decide +kernel, rfl, by decide +kernel, by decide +kernel⟩
theorem c_falls_many (T : Txt K mg) {f : Addr} {fd : FuncData} (Fn : L2.Fun K "falls_many" "falls_many" s_falls_many f fd) (hm : mg "falls_many" = some (.ref f)) (b : Binds K fd ["land", "s"] []) (c_check_steep : CalG P w K mg base 7 "check_steep" 2 f_check_steep) (c_all_falls : CalG P w K mg base 6 "all_falls" 2 f_all_falls) : CalG P w K mg base 8 "falls_many" 2 f_falls_many := by
  refine calG (k := 7) (d := b_falls_many) Fn hm b sc_falls_many rfl rfl fun cdv A outs s H E vs hr0 hg => ?_
  have G := good_fn (P := P) (w := w) (K := K) (mg := mg) (base := base) (outs := outs) (H := H) (E := E) hr0 hg sc_falls_many
  have hr : Room 7 (fnX P w K mg base ["land", "s"] "falls_many" s_falls_many f cdv A outs s H E).A := hr0
  exact (bv_cons (sv_expr (ev_call c_check_steep hr (by decide) G rfl (av_cons (ev_name (i := 0) rfl (vis_of rfl)) (av_cons (ev_name (i := 1) rfl (vis_of rfl)) av_nil)))) (bv_one (sv_ret (ev_ix (ev_call c_all_falls hr (by decide) G rfl (av_cons (ev_name (i := 0) rfl (vis_of rfl)) (av_cons (ev_name (i := 1) rfl (vis_of rfl)) av_nil))) ev_int))))
theorem sc_moved_by_falls : FnScope ["land", "s", "told", "one", "other"] ["land", "s"] (defScope s_moved_by_falls) := ⟨rfl, rfl, rfl, by decide +kernel, rfl, by decide +kernel, by decide +kernel⟩
theorem c_moved_by_falls (T : Txt K mg) {f : Addr} {fd : FuncData} (Fn : L2.Fun K "moved_by_falls" "moved_by_falls" s_moved_by_falls f fd) (hm : mg "moved_by_falls" = some (.ref f)) (b : Binds K fd ["land", "s"] []) (c_check_steep : CalG P w K mg base 7 "check_steep" 2 f_check_steep) (c_all_falls : CalG P w K mg base 6 "all_falls" 2 f_all_falls) (c_all_heights : CalG P w K mg base 1 "all_heights" 1 f_all_heights) : CalG P w K mg base 8 "moved_by_falls" 2 f_moved_by_falls := by
  refine calG (k := 7) (d := b_moved_by_falls) Fn hm b sc_moved_by_falls rfl rfl fun cdv A outs s H E vs hr0 hg => ?_
  have G := good_fn (P := P) (w := w) (K := K) (mg := mg) (base := base) (outs := outs) (H := H) (E := E) hr0 hg sc_moved_by_falls
  have hr : Room 7 (fnX P w K mg base ["land", "s", "told", "one", "other"] "moved_by_falls" s_moved_by_falls f cdv A outs s H E).A := hr0
  exact (bv_cons (sv_expr (ev_call c_check_steep hr (by decide) G rfl (av_cons (ev_name (i := 0) rfl (vis_of rfl)) (av_cons (ev_name (i := 1) rfl (vis_of rfl)) av_nil)))) (bv_cons (sv_set (i := 2) G rfl (loc_of rfl) (by decide) (ev_ix (ev_call c_all_falls hr (by decide) G rfl (av_cons (ev_name (i := 0) rfl (vis_of rfl)) (av_cons (ev_name (i := 1) rfl (vis_of rfl)) av_nil))) ev_int)) (bv_one (sv_ret (ev_callB (rule_sum G) rfl T.z_sum rfl (av_cons (ev_lc (own := [("one", 3), ("other", 4)]) (fi := [0, 1, 2]) G (iv_zip rfl T.z_zip (av_cons (ev_call c_all_heights hr (by decide) G rfl (av_cons (ev_name (i := 0) rfl (vis_of rfl)) av_nil)) (av_cons (ev_call c_all_heights hr (by decide) G rfl (av_cons (ev_name (i := 2) rfl (vis_of rfl)) av_nil)) av_nil))) (blkOk_by rfl) (hfi_of rfl) (fun _ _ _ _ _ _ => (gv_tup (n := 2) G.blk (gvs_cons (gv_name (i := 3) G.blk rfl (loc_of rfl) (by decide)) (gvs_cons (gv_name (i := 4) G.blk rfl (loc_of rfl) (by decide)) gvs_nil)))) (fun _ _ _ _ _ => ptsv_nil) (fun _ _ _ _ _ => (ev_callB rule_abs rfl T.z_abs rfl (av_cons (ev_op rule_sub.op (ev_name (i := 3) rfl (vis_of rfl)) (ev_name (i := 4) rfl (vis_of rfl))) av_nil)))) av_nil))))))
theorem sc_ulaw_is_land_right : FnScope ["hand", "land", "steps", "spot", "greatest", "s", "steep", "told", "due", "last", "many", "moved", "one", "other", "mine", "its"] ["hand", "land"] (defScope s_ulaw_is_land_right) := ⟨rfl, rfl, rfl, by decide +kernel, rfl, by decide +kernel, by decide +kernel⟩
theorem c_ulaw_is_land_right (T : Txt K mg) {f : Addr} {fd : FuncData} (Fn : L2.Fun K "_law_is_land_right" "_law_is_land_right" s_ulaw_is_land_right f fd) (hm : mg "_law_is_land_right" = some (.ref f)) (b : Binds K fd ["hand", "land"] []) (c_ulaw_spots : CalG P w K mg base 1 "_law_spots" 1 f_ulaw_spots) (c_ulaw_settled : CalG P w K mg base 3 "_law_settled" 2 f_ulaw_settled) (c_ulaw_any : CalG P w K mg base 2 "_law_any" 2 f_ulaw_any) (c_ulaw_steep : CalG P w K mg base 2 "_law_steep" 2 f_ulaw_steep) (c_ulaw_like : CalG P w K mg base 1 "_law_like" 2 f_ulaw_like) (c_ulaw_are_things_right : CalG P w K mg base 9 "_law_are_things_right" 4 f_ulaw_are_things_right) (c_steep_pairs : CalG P w K mg base 8 "steep_pairs" 2 f_steep_pairs) (c_fall : CalG P w K mg base 8 "fall" 2 f_fall) (c_least_steep : CalG P w K mg base 7 "least_steep" 1 f_least_steep) (c_ulaw_units : CalG P w K mg base 1 "_law_units" 1 f_ulaw_units) (c_settled : CalG P w K mg base 8 "settled" 2 f_settled) (c_falls_many : CalG P w K mg base 8 "falls_many" 2 f_falls_many) (c_moved_by_falls : CalG P w K mg base 8 "moved_by_falls" 2 f_moved_by_falls) (c_ulaw_climb : CalG P w K mg base 1 "_law_climb" 3 f_ulaw_climb) (c_ulaw_beside : CalG P w K mg base 1 "_law_beside" 2 f_ulaw_beside) (c_ulaw_behind : CalG P w K mg base 1 "_law_behind" 2 f_ulaw_behind) : CalG P w K mg base 10 "_law_is_land_right" 2 f_ulaw_is_land_right := by
  refine calG (k := 9) (d := b_ulaw_is_land_right) Fn hm b sc_ulaw_is_land_right rfl rfl fun cdv A outs s H E vs hr0 hg => ?_
  have G := good_fn (P := P) (w := w) (K := K) (mg := mg) (base := base) (outs := outs) (H := H) (E := E) hr0 hg sc_ulaw_is_land_right
  have hr : Room 9 (fnX P w K mg base ["hand", "land", "steps", "spot", "greatest", "s", "steep", "told", "due", "last", "many", "moved", "one", "other", "mine", "its"] "_law_is_land_right" s_ulaw_is_land_right f cdv A outs s H E).A := hr0
  exact (bv_cons (sv_set (i := 2) G rfl (loc_of rfl) (by decide) (ev_lst av_nil)) (bv_cons (sv_for G PassesOwn.never (iv_items (ev_call c_ulaw_spots hr (by decide) G rfl (av_cons (ev_name (i := 1) rfl (vis_of rfl)) av_nil))) (gv_name (i := 3) G rfl (loc_of rfl) (by decide)) (bv_one (sv_expr (ev_extend (ev_name (i := 2) rfl (vis_of rfl)) (av_cons (ev_lc (own := [("other", 13)]) (fi := [0, 1, 2, 3, 4, 5, 6, 7, 8, 9, 10, 11, 12, 14, 15]) G (iv_items (ev_call c_ulaw_beside hr (by decide) G rfl (av_cons (ev_name (i := 1) rfl (vis_of rfl)) (av_cons (ev_name (i := 3) rfl (vis_of rfl)) av_nil)))) (blkOk_by rfl) (hfi_of rfl) (fun _ _ _ _ _ _ => (gv_name (i := 13) G.blk rfl (loc_of rfl) (by decide))) (fun _ _ _ _ _ => ptsv_nil) (fun _ _ _ _ _ => (ev_callB rule_abs rfl T.z_abs rfl (av_cons (ev_call c_ulaw_climb hr (by decide) G.blk rfl (av_cons (ev_name (i := 1) rfl (vis_of rfl)) (av_cons (ev_name (i := 3) rfl (vis_of rfl)) (av_cons (ev_name (i := 13) rfl (vis_of rfl)) av_nil)))) av_nil)))) av_nil))))) (bv_cons (sv_set (i := 4) G rfl (loc_of rfl) (by decide) (ev_callB (rule_max G) rfl T.z_max rfl (av_cons (ev_op rule_add.op (ev_name (i := 2) rfl (vis_of rfl)) (ev_lst (av_cons ev_int av_nil))) av_nil))) (bv_cons (sv_set (i := 5) G rfl (loc_of rfl) (by decide) (ev_callB (rule_max G) rfl T.z_max rfl (av_cons ev_int (av_cons (ev_call c_ulaw_any hr (by decide) G rfl (av_cons (ev_name (i := 0) rfl (vis_of rfl)) (av_cons (ev_lst (av_cons ev_int (av_cons ev_int (av_cons ev_int (av_cons ev_int (av_cons (ev_name (i := 4) rfl (vis_of rfl)) (av_cons (ev_op rule_sub.op (ev_name (i := 4) rfl (vis_of rfl)) ev_int) av_nil))))))) av_nil))) av_nil)))) (bv_cons (sv_par (i := 6) (j := 7) G rfl rfl (by decide) (by decide) (by decide) rfl rfl (av_cons (ev_call c_ulaw_steep hr (by decide) G rfl (av_cons (ev_name (i := 1) rfl (vis_of rfl)) (av_cons (ev_name (i := 5) rfl (vis_of rfl)) av_nil))) (av_cons (ev_lst (av_cons (ev_call c_steep_pairs hr (by decide) G rfl (av_cons (ev_name (i := 1) rfl (vis_of rfl)) (av_cons (ev_name (i := 5) rfl (vis_of rfl)) av_nil))) (av_cons (ev_call c_fall hr (by decide) G rfl (av_cons (ev_name (i := 1) rfl (vis_of rfl)) (av_cons (ev_name (i := 5) rfl (vis_of rfl)) av_nil))) (av_cons (ev_call c_least_steep hr (by decide) G rfl (av_cons (ev_name (i := 1) rfl (vis_of rfl)) av_nil)) av_nil)))) av_nil)) rfl) (bv_cons (sv_if (tv_not (tv_val (ev_call c_ulaw_like hr (by decide) G rfl (av_cons (ev_name (i := 7) rfl (vis_of rfl)) (av_cons (ev_lst (av_cons (ev_callT rule_tuple rfl T.z_tuple rfl (av_cons (ev_name (i := 6) rfl (vis_of rfl)) av_nil)) (av_cons (ev_if (tv_cmp (rule_ne G).op (by rfl) (ev_name (i := 6) rfl (vis_of rfl)) (ev_lst av_nil)) (ev_call c_ulaw_behind hr (by decide) G rfl (av_cons (ev_name (i := 1) rfl (vis_of rfl)) (av_cons (ev_ix (ev_name (i := 6) rfl (vis_of rfl)) ev_int) av_nil))) (ev_name (i := 1) rfl (vis_of rfl))) (av_cons (ev_name (i := 4) rfl (vis_of rfl)) av_nil)))) av_nil))))) (bv_one (sv_ret ev_bl)) bv_nil) (bv_cons (sv_set (i := 8) G rfl (loc_of rfl) (by decide) (ev_call c_ulaw_settled hr (by decide) G rfl (av_cons (ev_name (i := 1) rfl (vis_of rfl)) (av_cons (ev_name (i := 5) rfl (vis_of rfl)) av_nil)))) (bv_cons (sv_if (tv_cmp rule_is.op (by rfl) (ev_name (i := 8) rfl (vis_of rfl)) ev_non) (bv_one (sv_ret ev_bl)) bv_nil) (bv_cons (sv_asg (gv_tup (n := 2) G (gvs_cons (gv_name (i := 9) G rfl (loc_of rfl) (by decide)) (gvs_cons (gv_name (i := 10) G rfl (loc_of rfl) (by decide)) gvs_nil))) (ev_name (i := 8) rfl (vis_of rfl))) (bv_cons (sv_set (i := 11) G rfl (loc_of rfl) (by decide) ev_int) (bv_cons (sv_for G PassesOwn.never (iv_zip rfl T.z_zip (av_cons (ev_name (i := 9) rfl (vis_of rfl)) (av_cons (ev_name (i := 1) rfl (vis_of rfl)) av_nil))) (gv_tup (n := 2) G (gvs_cons (gv_name (i := 12) G rfl (loc_of rfl) (by decide)) (gvs_cons (gv_name (i := 13) G rfl (loc_of rfl) (by decide)) gvs_nil))) (bv_one (sv_set (i := 11) G rfl (loc_of rfl) (by decide) (ev_op rule_add.op (ev_name (i := 11) rfl (vis_of rfl)) (ev_callB (rule_sum G) rfl T.z_sum rfl (av_cons (ev_lc (own := [("mine", 14), ("its", 15)]) (fi := [0, 1, 2, 3, 4, 5, 6, 7, 8, 9, 10, 11, 12, 13]) G (iv_zip rfl T.z_zip (av_cons (ev_name (i := 12) rfl (vis_of rfl)) (av_cons (ev_name (i := 13) rfl (vis_of rfl)) av_nil))) (blkOk_by rfl) (hfi_of rfl) (fun _ _ _ _ _ _ => (gv_tup (n := 2) G.blk (gvs_cons (gv_name (i := 14) G.blk rfl (loc_of rfl) (by decide)) (gvs_cons (gv_name (i := 15) G.blk rfl (loc_of rfl) (by decide)) gvs_nil)))) (fun _ _ _ _ _ => ptsv_nil) (fun _ _ _ _ _ => (ev_callB rule_abs rfl T.z_abs rfl (av_cons (ev_op rule_sub.op (ev_name (i := 14) rfl (vis_of rfl)) (ev_name (i := 15) rfl (vis_of rfl))) av_nil)))) av_nil)))))) (bv_cons (sv_if (tv_not (tv_val (ev_call c_ulaw_like hr (by decide) G rfl (av_cons (ev_lst (av_cons (ev_call c_settled hr (by decide) G rfl (av_cons (ev_name (i := 1) rfl (vis_of rfl)) (av_cons (ev_name (i := 5) rfl (vis_of rfl)) av_nil))) (av_cons (ev_call c_falls_many hr (by decide) G rfl (av_cons (ev_name (i := 1) rfl (vis_of rfl)) (av_cons (ev_name (i := 5) rfl (vis_of rfl)) av_nil))) (av_cons (ev_call c_moved_by_falls hr (by decide) G rfl (av_cons (ev_name (i := 1) rfl (vis_of rfl)) (av_cons (ev_name (i := 5) rfl (vis_of rfl)) av_nil))) av_nil)))) (av_cons (ev_lst (av_cons (ev_name (i := 9) rfl (vis_of rfl)) (av_cons (ev_name (i := 10) rfl (vis_of rfl)) (av_cons (ev_name (i := 11) rfl (vis_of rfl)) av_nil)))) av_nil))))) (bv_one (sv_ret ev_bl)) bv_nil) (bv_one (sv_ret (ev_and (ev_cmp (rule_eq G).op (by rfl) (ev_call c_ulaw_units hr (by decide) G rfl (av_cons (ev_name (i := 9) rfl (vis_of rfl)) av_nil)) (ev_call c_ulaw_units hr (by decide) G rfl (av_cons (ev_name (i := 1) rfl (vis_of rfl)) av_nil))) (ev_one (ev_call c_ulaw_are_things_right hr (by decide) G rfl (av_cons (ev_name (i := 0) rfl (vis_of rfl)) (av_cons (ev_name (i := 1) rfl (vis_of rfl)) (av_cons (ev_name (i := 5) rfl (vis_of rfl)) (av_cons (ev_name (i := 9) rfl (vis_of rfl)) av_nil)))))))))))))))))))))
theorem sc_ulaw_land : FnScope ["hand", "most", "heights", "high", "wide", "rows", "step", "row", "line", "column", "near", "drawn"] ["hand", "most", "heights"] (defScope s_ulaw_land) := ⟨rfl, rfl, rfl, by decide +kernel, rfl, by decide +kernel, by decide +kernel⟩
theorem c_ulaw_land (T : Txt K mg) {f : Addr} {fd : FuncData} (Fn : L2.Fun K "_law_land" "_law_land" s_ulaw_land f fd) (hm : mg "_law_land" = some (.ref f)) (b : Binds K fd ["hand", "most", "heights"] []) (c_ulaw_any : CalG P w K mg base 2 "_law_any" 2 f_ulaw_any) (c_ulaw_draw : CalG P w K mg base 1 "_law_draw" 2 f_ulaw_draw) : CalG P w K mg base 3 "_law_land" 3 f_ulaw_land := by
  refine calG (k := 2) (d := b_ulaw_land) Fn hm b sc_ulaw_land rfl rfl fun cdv A outs s H E vs hr0 hg => ?_
  have G := good_fn (P := P) (w := w) (K := K) (mg := mg) (base := base) (outs := outs) (H := H) (E := E) hr0 hg sc_ulaw_land
  have hr : Room 2 (fnX P w K mg base ["hand", "most", "heights", "high", "wide", "rows", "step", "row", "line", "column", "near", "drawn"] "_law_land" s_ulaw_land f cdv A outs s H E).A := hr0
  exact (bv_cons (sv_par (i := 3) (j := 4) G rfl rfl (by decide) (by decide) (by decide) rfl rfl (av_cons (ev_call c_ulaw_any hr (by decide) G rfl (av_cons (ev_name (i := 0) rfl (vis_of rfl)) (av_cons (ev_lst (av_cons (ev_name (i := 1) rfl (vis_of rfl)) (av_cons (ev_op rule_add.op ev_int (ev_call c_ulaw_draw hr (by decide) G rfl (av_cons (ev_name (i := 0) rfl (vis_of rfl)) (av_cons (ev_name (i := 1) rfl (vis_of rfl)) av_nil)))) av_nil))) av_nil))) (av_cons (ev_call c_ulaw_any hr (by decide) G rfl (av_cons (ev_name (i := 0) rfl (vis_of rfl)) (av_cons (ev_lst (av_cons (ev_name (i := 1) rfl (vis_of rfl)) (av_cons (ev_op rule_add.op ev_int (ev_call c_ulaw_draw hr (by decide) G rfl (av_cons (ev_name (i := 0) rfl (vis_of rfl)) (av_cons (ev_name (i := 1) rfl (vis_of rfl)) av_nil)))) av_nil))) av_nil))) av_nil)) rfl) (bv_cons (sv_par (i := 5) (j := 6) G rfl rfl (by decide) (by decide) (by decide) rfl rfl (av_cons (ev_lst av_nil) (av_cons (ev_call c_ulaw_any hr (by decide) G rfl (av_cons (ev_name (i := 0) rfl (vis_of rfl)) (av_cons (ev_lst (av_cons ev_int (av_cons ev_int (av_cons (ev_name (i := 2) rfl (vis_of rfl)) av_nil)))) av_nil))) av_nil)) rfl) (bv_cons (sv_for G PassesOwn.never (iv_range1 rfl T.z_range (av_cons (ev_name (i := 3) rfl (vis_of rfl)) av_nil)) (gv_name (i := 7) G rfl (loc_of rfl) (by decide)) (bv_cons (sv_set (i := 8) G rfl (loc_of rfl) (by decide) (ev_lst av_nil)) (bv_cons (sv_for G PassesOwn.never (iv_range1 rfl T.z_range (av_cons (ev_name (i := 4) rfl (vis_of rfl)) av_nil)) (gv_name (i := 9) G rfl (loc_of rfl) (by decide)) (bv_cons (sv_set (i := 10) G rfl (loc_of rfl) (by decide) (ev_if (tv_cmp (rule_ne G).op (by rfl) (ev_name (i := 8) rfl (vis_of rfl)) (ev_lst av_nil)) (ev_lst (av_cons (ev_ix (ev_name (i := 8) rfl (vis_of rfl)) (ev_un rule_neg.un ev_int)) av_nil)) (ev_if (tv_cmp (rule_ne G).op (by rfl) (ev_name (i := 5) rfl (vis_of rfl)) (ev_lst av_nil)) (ev_lst (av_cons (ev_ix (ev_ix (ev_name (i := 5) rfl (vis_of rfl)) (ev_un rule_neg.un ev_int)) ev_int) av_nil)) (ev_lst (av_cons (ev_call c_ulaw_draw hr (by decide) G rfl (av_cons (ev_name (i := 0) rfl (vis_of rfl)) (av_cons (ev_op rule_add.op (ev_name (i := 2) rfl (vis_of rfl)) ev_int) av_nil))) av_nil))))) (bv_cons (sv_set (i := 11) G rfl (loc_of rfl) (by decide) (ev_if (tv_cmp (rule_lt G).op (by rfl) (ev_name (i := 6) rfl (vis_of rfl)) (ev_name (i := 2) rfl (vis_of rfl))) (ev_op rule_sub.op (ev_op rule_add.op (ev_ix (ev_name (i := 10) rfl (vis_of rfl)) ev_int) (ev_call c_ulaw_draw hr (by decide) G rfl (av_cons (ev_name (i := 0) rfl (vis_of rfl)) (av_cons (ev_op rule_add.op (ev_op rule_mul.op ev_int (ev_name (i := 6) rfl (vis_of rfl))) ev_int) av_nil)))) (ev_name (i := 6) rfl (vis_of rfl))) (ev_call c_ulaw_draw hr (by decide) G rfl (av_cons (ev_name (i := 0) rfl (vis_of rfl)) (av_cons (ev_op rule_add.op (ev_name (i := 2) rfl (vis_of rfl)) ev_int) av_nil))))) (bv_one (sv_expr (ev_append (ev_name (i := 8) rfl (vis_of rfl)) (av_cons (ev_callB (rule_max G) rfl T.z_max rfl (av_cons ev_int (av_cons (ev_callB (rule_min G) rfl T.z_min rfl (av_cons (ev_name (i := 2) rfl (vis_of rfl)) (av_cons (ev_name (i := 11) rfl (vis_of rfl)) av_nil))) av_nil))) av_nil))))))) (bv_one (sv_expr (ev_append (ev_name (i := 5) rfl (vis_of rfl)) (av_cons (ev_callT rule_tuple rfl T.z_tuple rfl (av_cons (ev_name (i := 8) rfl (vis_of rfl)) av_nil)) av_nil))))))) (bv_one (sv_ret (ev_callT rule_tuple rfl T.z_tuple rfl (av_cons (ev_name (i := 5) rfl (vis_of rfl)) av_nil)))))))
theorem sc_ulaw_heap : FnScope ["hand", "kind", "high", "wide", "rows", "turn", "line", "at", "row", "column"] ["hand"] (defScope s_ulaw_heap) := ⟨rfl, rfl, rfl, by decide +kernel, rfl, by decide +kernel, by decide +kernel⟩
theorem c_ulaw_heap (T : Txt K mg) {f : Addr} {fd : FuncData} (Fn : L2.Fun K "_law_heap" "_law_heap" s_ulaw_heap f fd) (hm : mg "_law_heap" = some (.ref f)) (b : Binds K fd ["hand"] []) (c_ulaw_draw : CalG P w K mg base 1 "_law_draw" 2 f_ulaw_draw) (c_ulaw_land : CalG P w K mg base 3 "_law_land" 3 f_ulaw_land) : CalG P w K mg base 4 "_law_heap" 1 f_ulaw_heap := by
  refine calG (k := 3) (d := b_ulaw_heap) Fn hm b sc_ulaw_heap rfl rfl fun cdv A outs s H E vs hr0 hg => ?_
  have G := good_fn (P := P) (w := w) (K := K) (mg := mg) (base := base) (outs := outs) (H := H) (E := E) hr0 hg sc_ulaw_heap
  have hr : Room 3 (fnX P w K mg base ["hand", "kind", "high", "wide", "rows", "turn", "line", "at", "row", "column"] "_law_heap" s_ulaw_heap f cdv A outs s H E).A := hr0
  exact (bv_cons (sv_parT (is := [1, 2, 3]) G (pgs_names_cons (i := 1) G rfl (loc_of rfl) (pgs_names_cons (i := 2) G rfl (loc_of rfl) (pgs_names_cons (i := 3) G rfl (loc_of rfl) pgs_names_nil))) (av_cons (ev_call c_ulaw_draw hr (by decide) G rfl (av_cons (ev_name (i := 0) rfl (vis_of rfl)) (av_cons ev_int av_nil))) (av_cons (ev_op rule_add.op ev_int (ev_call c_ulaw_draw hr (by decide) G rfl (av_cons (ev_name (i := 0) rfl (vis_of rfl)) (av_cons ev_int av_nil)))) (av_cons (ev_op rule_add.op ev_int (ev_call c_ulaw_draw hr (by decide) G rfl (av_cons (ev_name (i := 0) rfl (vis_of rfl)) (av_cons ev_int av_nil)))) av_nil))) (hlt_of rfl) (by decide)) (bv_cons (sv_if (tv_cmp (rule_eq G).op (by rfl) (ev_name (i := 1) rfl (vis_of rfl)) ev_int) (bv_one (sv_ret (ev_call c_ulaw_land hr (by decide) G rfl (av_cons (ev_name (i := 0) rfl (vis_of rfl)) (av_cons ev_int (av_cons ev_int av_nil)))))) bv_nil) (bv_cons (sv_setLc (i := 4) (own := [("row", 8)]) (fb := [0, 1, 2, 3, 4, 5, 6, 7, 9]) G rfl rfl (by decide) rfl (iv_range1 rfl T.z_range (av_cons (ev_name (i := 2) rfl (vis_of rfl)) av_nil)) (blkOk_by rfl) (hfi_of rfl) (fun _ _ _ _ _ _ => (gv_name (i := 8) G.blk rfl (loc_of rfl) (by decide))) (fun _ _ _ _ _ => ptsv_nil) (fun _ _ _ _ _ => (ev_lc (own := [("column", 9)]) (fi := [0, 1, 2, 3, 4, 5, 6, 7, 8]) G.blk (iv_range1 rfl T.z_range (av_cons (ev_name (i := 3) rfl (vis_of rfl)) av_nil)) (blkOk_by rfl) (hfi_of rfl) (fun _ _ _ _ _ _ => (gv_name (i := 9) G.blk.blk rfl (loc_of rfl) (by decide))) (fun _ _ _ _ _ => ptsv_nil) (fun _ _ _ _ _ => (ev_call c_ulaw_draw hr (by decide) G.blk.blk rfl (av_cons (ev_name (i := 0) rfl (vis_of rfl)) (av_cons ev_int av_nil))))))) (bv_cons (sv_for G PassesOwn.never (iv_range1 rfl T.z_range (av_cons (ev_name (i := 1) rfl (vis_of rfl)) av_nil)) (gv_name (i := 5) G rfl (loc_of rfl) (by decide)) (bv_cons (sv_set (i := 6) G rfl (loc_of rfl) (by decide) (ev_ix (ev_name (i := 4) rfl (vis_of rfl)) (ev_call c_ulaw_draw hr (by decide) G rfl (av_cons (ev_name (i := 0) rfl (vis_of rfl)) (av_cons (ev_name (i := 2) rfl (vis_of rfl)) av_nil))))) (bv_cons (sv_set (i := 7) G rfl (loc_of rfl) (by decide) (ev_call c_ulaw_draw hr (by decide) G rfl (av_cons (ev_name (i := 0) rfl (vis_of rfl)) (av_cons (ev_name (i := 3) rfl (vis_of rfl)) av_nil)))) (bv_cons (sv_asg (gv_ix (ev_name (i := 6) rfl (vis_of rfl)) (ev_name (i := 7) rfl (vis_of rfl))) (ev_op rule_add.op (ev_ix (ev_name (i := 6) rfl (vis_of rfl)) (ev_name (i := 7) rfl (vis_of rfl))) (ev_call c_ulaw_draw hr (by decide) G rfl (av_cons (ev_name (i := 0) rfl (vis_of rfl)) (av_cons ev_int av_nil))))) (bv_one (sv_if (tv_cmp (rule_eq G).op (by rfl) (ev_name (i := 1) rfl (vis_of rfl)) ev_int) (bv_one (sv_asg (gv_tup (n := 2) G (gvs_cons (gv_ix (ev_name (i := 6) rfl (vis_of rfl)) ev_int) (gvs_cons (gv_ix (ev_name (i := 6) rfl (vis_of rfl)) (ev_un rule_neg.un ev_int)) gvs_nil))) (ev_tup (av_cons (ev_ix (ev_name (i := 6) rfl (vis_of rfl)) (ev_name (i := 7) rfl (vis_of rfl))) (av_cons (ev_ix (ev_name (i := 6) rfl (vis_of rfl)) ev_int) av_nil))))) bv_nil)))))) (bv_one (sv_ret (ev_callT rule_tuple rfl T.z_tuple rfl (av_cons (ev_lc (own := [("row", 8)]) (fi := [0, 1, 2, 3, 4, 5, 6, 7, 9]) G (iv_items (ev_name (i := 4) rfl (vis_of rfl))) (blkOk_by rfl) (hfi_of rfl) (fun _ _ _ _ _ _ => (gv_name (i := 8) G.blk rfl (loc_of rfl) (by decide))) (fun _ _ _ _ _ => ptsv_nil) (fun _ _ _ _ _ => (ev_callT rule_tuple rfl T.z_tuple rfl (av_cons (ev_name (i := 8) rfl (vis_of rfl)) av_nil)))) av_nil))))))))
theorem sc_law : FnScope ["script", "hand", "turn"] ["script"] (defScope s_law) := ⟨rfl, rfl, rfl, by decide +kernel, rfl, by decide +kernel, by decide +kernel⟩
theorem g_law (T : Txt K mg) {f : Addr} {fd : FuncData} (Fn : L2.Fun K "law" "law" s_law f fd) (c_ulaw_hand : CalG P w K mg base 1 "_law_hand" 1 f_ulaw_hand) (c_ulaw_is_land_right : CalG P w K mg base 10 "_law_is_land_right" 2 f_ulaw_is_land_right) (c_ulaw_heap : CalG P w K mg base 4 "_law_heap" 1 f_ulaw_heap) : FnG P w K mg base C8.CX0 11 f fd ["script"] (spI P w K 1 f_law) := by
  refine fnG_of (k := 10) (d := b_law) Fn sc_law rfl rfl fun cdv A outs s H E vs hr0 hg => ?_
  have G := good_fn (P := P) (w := w) (K := K) (mg := mg) (base := base) (outs := outs) (H := H) (E := E) hr0 hg sc_law
  have hr : Room 10 (fnX P w K mg base ["script", "hand", "turn"] "law" s_law f cdv A outs s H E).A := hr0
  exact (bv_cons (sv_set (i := 1) G rfl (loc_of rfl) (by decide) (ev_call c_ulaw_hand hr (by decide) G rfl (av_cons (ev_name (i := 0) rfl (vis_of rfl)) av_nil))) (bv_one (sv_ret (ev_callB (rule_all G) rfl T.z_all rfl (av_cons (ev_lc (own := [("turn", 2)]) (fi := [0, 1]) G (iv_range1 rfl T.z_range (av_cons ev_int av_nil)) (blkOk_by rfl) (hfi_of rfl) (fun _ _ _ _ _ _ => (gv_name (i := 2) G.blk rfl (loc_of rfl) (by decide))) (fun _ _ _ _ _ => ptsv_nil) (fun _ _ _ _ _ => (ev_call c_ulaw_is_land_right hr (by decide) G.blk rfl (av_cons (ev_name (i := 1) rfl (vis_of rfl)) (av_cons (ev_call c_ulaw_heap hr (by decide) G.blk rfl (av_cons (ev_name (i := 1) rfl (vis_of rfl)) av_nil)) av_nil))))) av_nil)))))
end
/-- a def of the text behind the top -/
def DefAt (K : PySem.W.Frag) (x : Str) (st : Stmt) : Prop := ∃ (f : Addr) (fd : FuncData), PySem.W.nsIn K mainGlobals x = some (some (.ref f)) ∧ L2.Fun K x x st f fd
theorem defAt {K : PySem.W.Frag} {x : Str} {st : Stmt} {f : Addr} {oc : Value} {od an : Option Addr} {osl : Array (Option Value)} {kV doc pm cdv ct : Value} (a : PySem.W.nsIn K mainGlobals x = some (some (.ref f)))
    (l : K.lookup f = some ⟨oc, od, .func (PySem.W.fnOf x x (defArgs st) (defBody st) (defScope st) .none kV doc pm an cdv ct), osl⟩) (c : PySem.W.codeIn K cdv x = true) (k : PySem.W.keepIn K (.ref f) = true) : DefAt K x st := ⟨f, _, a, fun_mk l c k⟩
def GT (K : PySem.W.Frag) (pv : PV) (u : Value) : Prop := ∃ v, RelV v u ∧ ∀ P w F, RepF P w K F pv v
def GTs (K : PySem.W.Frag) (pvs : List PV) (us : List Value) : Prop := ∃ vs, Vals vs us ∧ ∀ P w F, RepFs P w K F pvs vs
theorem gt_int {K : PySem.W.Frag} {i : Int} {t : Tok} : GT K (.int i) (.int i t) := ⟨.int i, ⟨t, rfl⟩, fun _ _ _ => by rw [RepF]⟩
theorem gt_str {K : PySem.W.Frag} {x : Str} {t : Tok} : GT K (.str x) (.str x t) := ⟨.str x, ⟨t, rfl⟩, fun _ _ _ => by rw [RepF]⟩
theorem gts_nil {K : PySem.W.Frag} : GTs K [] [] := ⟨[], .nil, fun _ _ _ => by rw [RepFs]⟩
theorem gts_cons {K : PySem.W.Frag} {p : PV} {ps : List PV} {u : Value} {us : List Value} (h : GT K p u) (h2 : GTs K ps us) : GTs K (p :: ps) (u :: us) := by
  obtain ⟨v, r, k⟩ := h
  obtain ⟨vs, r2, k2⟩ := h2
  exact ⟨v :: vs, .cons r r2, fun P w F => by rw [RepFs]; exact ⟨v, vs, rfl, k P w F, k2 P w F⟩⟩
theorem gt_tup {K : PySem.W.Frag} {a : Addr} {od : Option Addr} {its : Array Value} {n : Nat} {sl : Array (Option Value)} {ps : List PV} (l : K.lookup a = some ⟨.type "tuple", od, .seq its n, sl⟩) (z : its.size ≤ 1000) (h : GTs K ps its.toList) : GT K (.tup ps) (.ref a) := by
  obtain ⟨vs, r, k⟩ := h
  have hz : (16777216 : Nat) = sizeLine := sl24
  exact ⟨.ref a, rfl, fun P w F => by rw [RepF]; exact ⟨a, vs, rfl, .inr ⟨_, its, n, l, rfl, rfl, by omega, r⟩, k P w F⟩⟩
theorem gc_of {K : PySem.W.Frag} {h : Heap} {mg : Str → Option Value} {x : Str} {u : Value} {pv : PV} (X : K.In h) (G : h.Ns mainGlobals mg) (a : PySem.W.nsIn K mainGlobals x = some (some u)) (g : GT K pv u) : GC K mg x pv := by
  obtain ⟨v, r, k⟩ := g
  exact ⟨u, v, PySem.W.mg_of X G a, r, k⟩
theorem all_mk {P : Program} {w : World} {K : PySem.W.Frag} {h : Heap} {mg : Str → Option Value} {fa : Addr} (X : K.In h) (G : h.Ns mainGlobals mg) (hfa : mg "law" = some (.ref fa)) (T : Txt K mg)
    (D_ulaw_hand : DefAt K "_law_hand" s_ulaw_hand) (D_ulaw_spots : DefAt K "_law_spots" s_ulaw_spots) (D_ulaw_beside : DefAt K "_law_beside" s_ulaw_beside) (D_ulaw_climb : DefAt K "_law_climb" s_ulaw_climb) (D_ulaw_steep : DefAt K "_law_steep" s_ulaw_steep) (D_ulaw_behind : DefAt K "_law_behind" s_ulaw_behind) (D_ulaw_settled : DefAt K "_law_settled" s_ulaw_settled) (D_ulaw_draw : DefAt K "_law_draw" s_ulaw_draw) (D_ulaw_any : DefAt K "_law_any" s_ulaw_any) (D_ulaw_like : DefAt K "_law_like" s_ulaw_like) (D_ulaw_units : DefAt K "_law_units" s_ulaw_units) (D_is_integer : DefAt K "is_integer" s_is_integer) (D_is_within : DefAt K "is_within" s_is_within) (D_is_height : DefAt K "is_height" s_is_height) (D_is_row : DefAt K "is_row" s_is_row) (D_is_land : DefAt K "is_land" s_is_land) (D_check_land : DefAt K "check_land" s_check_land) (D_check_steep : DefAt K "check_steep" s_check_steep) (D_height_of : DefAt K "height_of" s_height_of) (D_step_between : DefAt K "step_between" s_step_between) (D_all_spots : DefAt K "all_spots" s_all_spots) (D_stepped : DefAt K "stepped" s_stepped) (D_is_on_land : DefAt K "is_on_land" s_is_on_land) (D_spots_beside : DefAt K "spots_beside" s_spots_beside) (D_pairs_beside : DefAt K "pairs_beside" s_pairs_beside) (D_raw_greatest_step : DefAt K "raw_greatest_step" s_raw_greatest_step) (D_all_heights : DefAt K "all_heights" s_all_heights) (D_is_settled : DefAt K "is_settled" s_is_settled) (D_ulaw_is_settled : DefAt K "_law_is_settled" s_ulaw_is_settled) (D_ulaw_are_things_right : DefAt K "_law_are_things_right" s_ulaw_are_things_right) (D_higher_first : DefAt K "higher_first" s_higher_first) (D_raw_steep_pairs : DefAt K "raw_steep_pairs" s_raw_steep_pairs) (D_steep_pairs : DefAt K "steep_pairs" s_steep_pairs) (D_with_height : DefAt K "with_height" s_with_height) (D_moved_unit : DefAt K "moved_unit" s_moved_unit) (D_raw_fall : DefAt K "raw_fall" s_raw_fall) (D_fall : DefAt K "fall" s_fall) (D_least_steep : DefAt K "least_steep" s_least_steep) (D_all_falls : DefAt K "all_falls" s_all_falls) (D_settled : DefAt K "settled" s_settled) (D_falls_many : DefAt K "falls_many" s_falls_many) (D_moved_by_falls : DefAt K "moved_by_falls" s_moved_by_falls) (D_ulaw_is_land_right : DefAt K "_law_is_land_right" s_ulaw_is_land_right) (D_ulaw_land : DefAt K "_law_land" s_ulaw_land) (D_ulaw_heap : DefAt K "_law_heap" s_ulaw_heap) (D_law : DefAt K "law" s_law) :
    ∃ fd : FuncData, (∀ (s : Shared) (v : Value), BindsTo s fd ⟨[v], []⟩ [("script", v)]) ∧ ∀ base : Heap, K.In base → base.Ns mainGlobals mg → FnG P w K mg base C8.CX0 11 fa fd ["script"] (spI P w K 1 f_law) := by
  obtain ⟨a_ulaw_hand, d_ulaw_hand, m_ulaw_hand, F_ulaw_hand⟩ := D_ulaw_hand
  obtain ⟨a_ulaw_spots, d_ulaw_spots, m_ulaw_spots, F_ulaw_spots⟩ := D_ulaw_spots
  obtain ⟨a_ulaw_beside, d_ulaw_beside, m_ulaw_beside, F_ulaw_beside⟩ := D_ulaw_beside
  obtain ⟨a_ulaw_climb, d_ulaw_climb, m_ulaw_climb, F_ulaw_climb⟩ := D_ulaw_climb
  obtain ⟨a_ulaw_steep, d_ulaw_steep, m_ulaw_steep, F_ulaw_steep⟩ := D_ulaw_steep
  obtain ⟨a_ulaw_behind, d_ulaw_behind, m_ulaw_behind, F_ulaw_behind⟩ := D_ulaw_behind
  obtain ⟨a_ulaw_settled, d_ulaw_settled, m_ulaw_settled, F_ulaw_settled⟩ := D_ulaw_settled
  obtain ⟨a_ulaw_draw, d_ulaw_draw, m_ulaw_draw, F_ulaw_draw⟩ := D_ulaw_draw
  obtain ⟨a_ulaw_any, d_ulaw_any, m_ulaw_any, F_ulaw_any⟩ := D_ulaw_any
  obtain ⟨a_ulaw_like, d_ulaw_like, m_ulaw_like, F_ulaw_like⟩ := D_ulaw_like
  obtain ⟨a_ulaw_units, d_ulaw_units, m_ulaw_units, F_ulaw_units⟩ := D_ulaw_units
  obtain ⟨a_is_integer, d_is_integer, m_is_integer, F_is_integer⟩ := D_is_integer
  obtain ⟨a_is_within, d_is_within, m_is_within, F_is_within⟩ := D_is_within
  obtain ⟨a_is_height, d_is_height, m_is_height, F_is_height⟩ := D_is_height
  obtain ⟨a_is_row, d_is_row, m_is_row, F_is_row⟩ := D_is_row
  obtain ⟨a_is_land, d_is_land, m_is_land, F_is_land⟩ := D_is_land
  obtain ⟨a_check_land, d_check_land, m_check_land, F_check_land⟩ := D_check_land
  obtain ⟨a_check_steep, d_check_steep, m_check_steep, F_check_steep⟩ := D_check_steep
  obtain ⟨a_height_of, d_height_of, m_height_of, F_height_of⟩ := D_height_of
  obtain ⟨a_step_between, d_step_between, m_step_between, F_step_between⟩ := D_step_between
  obtain ⟨a_all_spots, d_all_spots, m_all_spots, F_all_spots⟩ := D_all_spots
  obtain ⟨a_stepped, d_stepped, m_stepped, F_stepped⟩ := D_stepped
  obtain ⟨a_is_on_land, d_is_on_land, m_is_on_land, F_is_on_land⟩ := D_is_on_land
  obtain ⟨a_spots_beside, d_spots_beside, m_spots_beside, F_spots_beside⟩ := D_spots_beside
  obtain ⟨a_pairs_beside, d_pairs_beside, m_pairs_beside, F_pairs_beside⟩ := D_pairs_beside
  obtain ⟨a_raw_greatest_step, d_raw_greatest_step, m_raw_greatest_step, F_raw_greatest_step⟩ := D_raw_greatest_step
  obtain ⟨a_all_heights, d_all_heights, m_all_heights, F_all_heights⟩ := D_all_heights
  obtain ⟨a_is_settled, d_is_settled, m_is_settled, F_is_settled⟩ := D_is_settled
  obtain ⟨a_ulaw_is_settled, d_ulaw_is_settled, m_ulaw_is_settled, F_ulaw_is_settled⟩ := D_ulaw_is_settled
  obtain ⟨a_ulaw_are_things_right, d_ulaw_are_things_right, m_ulaw_are_things_right, F_ulaw_are_things_right⟩ := D_ulaw_are_things_right
  obtain ⟨a_higher_first, d_higher_first, m_higher_first, F_higher_first⟩ := D_higher_first
  obtain ⟨a_raw_steep_pairs, d_raw_steep_pairs, m_raw_steep_pairs, F_raw_steep_pairs⟩ := D_raw_steep_pairs
  obtain ⟨a_steep_pairs, d_steep_pairs, m_steep_pairs, F_steep_pairs⟩ := D_steep_pairs
  obtain ⟨a_with_height, d_with_height, m_with_height, F_with_height⟩ := D_with_height
  obtain ⟨a_moved_unit, d_moved_unit, m_moved_unit, F_moved_unit⟩ := D_moved_unit
  obtain ⟨a_raw_fall, d_raw_fall, m_raw_fall, F_raw_fall⟩ := D_raw_fall
  obtain ⟨a_fall, d_fall, m_fall, F_fall⟩ := D_fall
  obtain ⟨a_least_steep, d_least_steep, m_least_steep, F_least_steep⟩ := D_least_steep
  obtain ⟨a_all_falls, d_all_falls, m_all_falls, F_all_falls⟩ := D_all_falls
  obtain ⟨a_settled, d_settled, m_settled, F_settled⟩ := D_settled
  obtain ⟨a_falls_many, d_falls_many, m_falls_many, F_falls_many⟩ := D_falls_many
  obtain ⟨a_moved_by_falls, d_moved_by_falls, m_moved_by_falls, F_moved_by_falls⟩ := D_moved_by_falls
  obtain ⟨a_ulaw_is_land_right, d_ulaw_is_land_right, m_ulaw_is_land_right, F_ulaw_is_land_right⟩ := D_ulaw_is_land_right
  obtain ⟨a_ulaw_land, d_ulaw_land, m_ulaw_land, F_ulaw_land⟩ := D_ulaw_land
  obtain ⟨a_ulaw_heap, d_ulaw_heap, m_ulaw_heap, F_ulaw_heap⟩ := D_ulaw_heap
  obtain ⟨a_law, d_law, m_law, F_law⟩ := D_law
  obtain rfl : a_law = fa := by
    have e := (PySem.W.mg_of X G m_law).symm.trans hfa
    cases e
    rfl
  refine ⟨d_law, ?_, fun base _ _ => ?_⟩
  · obtain ⟨oc, od, kV, doc, pm, an, cdv, ct, osl, rfl, lk, hcd⟩ := F_law.ex
    exact fun s v => .of_eq rfl
  · have C_ulaw_hand := c_ulaw_hand (P := P) (w := w) (base := base) T F_ulaw_hand (PySem.W.mg_of X G m_ulaw_hand) (F_ulaw_hand.binds (ps := ["script"]) fun _ _ _ _ _ _ us hl => match us, hl with | [_], _ => rfl) 
    have C_ulaw_spots := c_ulaw_spots (P := P) (w := w) (base := base) T F_ulaw_spots (PySem.W.mg_of X G m_ulaw_spots) (F_ulaw_spots.binds (ps := ["land"]) fun _ _ _ _ _ _ us hl => match us, hl with | [_], _ => rfl) 
    have C_ulaw_beside := c_ulaw_beside (P := P) (w := w) (base := base) T F_ulaw_beside (PySem.W.mg_of X G m_ulaw_beside) (F_ulaw_beside.binds (ps := ["land", "spot"]) fun _ _ _ _ _ _ us hl => match us, hl with | [_, _], _ => rfl) 
    have C_ulaw_climb := c_ulaw_climb (P := P) (w := w) (base := base) T F_ulaw_climb (PySem.W.mg_of X G m_ulaw_climb) (F_ulaw_climb.binds (ps := ["land", "one", "other"]) fun _ _ _ _ _ _ us hl => match us, hl with | [_, _, _], _ => rfl) 
    have C_ulaw_steep := c_ulaw_steep (P := P) (w := w) (base := base) T F_ulaw_steep (PySem.W.mg_of X G m_ulaw_steep) (F_ulaw_steep.binds (ps := ["land", "s"]) fun _ _ _ _ _ _ us hl => match us, hl with | [_, _], _ => rfl) C_ulaw_spots C_ulaw_beside C_ulaw_climb
    have C_ulaw_behind := c_ulaw_behind (P := P) (w := w) (base := base) T F_ulaw_behind (PySem.W.mg_of X G m_ulaw_behind) (F_ulaw_behind.binds (ps := ["land", "pair"]) fun _ _ _ _ _ _ us hl => match us, hl with | [_, _], _ => rfl) 
    have C_ulaw_settled := c_ulaw_settled (P := P) (w := w) (base := base) T F_ulaw_settled (PySem.W.mg_of X G m_ulaw_settled) (F_ulaw_settled.binds (ps := ["land", "s"]) fun _ _ _ _ _ _ us hl => match us, hl with | [_, _], _ => rfl) C_ulaw_steep C_ulaw_behind
    have C_ulaw_draw := c_ulaw_draw (P := P) (w := w) (base := base) T F_ulaw_draw (PySem.W.mg_of X G m_ulaw_draw) (F_ulaw_draw.binds (ps := ["hand", "many"]) fun _ _ _ _ _ _ us hl => match us, hl with | [_, _], _ => rfl) 
    have C_ulaw_any := c_ulaw_any (P := P) (w := w) (base := base) T F_ulaw_any (PySem.W.mg_of X G m_ulaw_any) (F_ulaw_any.binds (ps := ["hand", "things"]) fun _ _ _ _ _ _ us hl => match us, hl with | [_, _], _ => rfl) C_ulaw_draw
    have C_ulaw_like := c_ulaw_like (P := P) (w := w) (base := base) T F_ulaw_like (PySem.W.mg_of X G m_ulaw_like) (F_ulaw_like.binds (ps := ["told", "due"]) fun _ _ _ _ _ _ us hl => match us, hl with | [_, _], _ => rfl) 
    have C_ulaw_units := c_ulaw_units (P := P) (w := w) (base := base) T F_ulaw_units (PySem.W.mg_of X G m_ulaw_units) (F_ulaw_units.binds (ps := ["land"]) fun _ _ _ _ _ _ us hl => match us, hl with | [_], _ => rfl) 
    have C_is_integer := c_is_integer (P := P) (w := w) (base := base) T F_is_integer (PySem.W.mg_of X G m_is_integer) (F_is_integer.binds (ps := ["thing"]) fun _ _ _ _ _ _ us hl => match us, hl with | [_], _ => rfl) 
    have C_is_within := c_is_within (P := P) (w := w) (base := base) T F_is_within (PySem.W.mg_of X G m_is_within) (F_is_within.binds (ps := ["thing", "least", "most"]) fun _ _ _ _ _ _ us hl => match us, hl with | [_, _, _], _ => rfl) C_is_integer
    have C_is_height := c_is_height (P := P) (w := w) (base := base) T F_is_height (PySem.W.mg_of X G m_is_height) (F_is_height.binds (ps := ["thing"]) fun _ _ _ _ _ _ us hl => match us, hl with | [_], _ => rfl) C_is_within
    have C_is_row := c_is_row (P := P) (w := w) (base := base) T F_is_row (PySem.W.mg_of X G m_is_row) (F_is_row.binds (ps := ["thing"]) fun _ _ _ _ _ _ us hl => match us, hl with | [_], _ => rfl) C_is_height
    have C_is_land := c_is_land (P := P) (w := w) (base := base) T F_is_land (PySem.W.mg_of X G m_is_land) (F_is_land.binds (ps := ["thing"]) fun _ _ _ _ _ _ us hl => match us, hl with | [_], _ => rfl) C_is_row
    have C_check_land := c_check_land (P := P) (w := w) (base := base) T F_check_land (PySem.W.mg_of X G m_check_land) (F_check_land.binds (ps := ["land"]) fun _ _ _ _ _ _ us hl => match us, hl with | [_], _ => rfl) C_is_land
    have C_check_steep := c_check_steep (P := P) (w := w) (base := base) T F_check_steep (PySem.W.mg_of X G m_check_steep) (F_check_steep.binds (ps := ["land", "s"]) fun _ _ _ _ _ _ us hl => match us, hl with | [_, _], _ => rfl) C_check_land C_is_within
    have C_height_of := c_height_of (P := P) (w := w) (base := base) T F_height_of (PySem.W.mg_of X G m_height_of) (F_height_of.binds (ps := ["land", "spot"]) fun _ _ _ _ _ _ us hl => match us, hl with | [_, _], _ => rfl) 
    have C_step_between := c_step_between (P := P) (w := w) (base := base) T F_step_between (PySem.W.mg_of X G m_step_between) (F_step_between.binds (ps := ["land", "one", "other"]) fun _ _ _ _ _ _ us hl => match us, hl with | [_, _, _], _ => rfl) C_height_of
    have C_all_spots := c_all_spots (P := P) (w := w) (base := base) T F_all_spots (PySem.W.mg_of X G m_all_spots) (F_all_spots.binds (ps := ["land"]) fun _ _ _ _ _ _ us hl => match us, hl with | [_], _ => rfl) 
    have C_stepped := c_stepped (P := P) (w := w) (base := base) T F_stepped (PySem.W.mg_of X G m_stepped) (F_stepped.binds (ps := ["spot", "step", "times"]) fun _ _ _ _ _ _ us hl => match us, hl with | [_, _, _], _ => rfl) 
    have C_is_on_land := c_is_on_land (P := P) (w := w) (base := base) T F_is_on_land (PySem.W.mg_of X G m_is_on_land) (F_is_on_land.binds (ps := ["land", "spot"]) fun _ _ _ _ _ _ us hl => match us, hl with | [_, _], _ => rfl) 
    have C_spots_beside := c_spots_beside (P := P) (w := w) (base := base) T F_spots_beside (PySem.W.mg_of X G m_spots_beside) (F_spots_beside.binds (ps := ["land", "spot"]) fun _ _ _ _ _ _ us hl => match us, hl with | [_, _], _ => rfl) C_stepped C_is_on_land
    have C_pairs_beside := c_pairs_beside (P := P) (w := w) (base := base) T F_pairs_beside (PySem.W.mg_of X G m_pairs_beside) (F_pairs_beside.binds (ps := ["land"]) fun _ _ _ _ _ _ us hl => match us, hl with | [_], _ => rfl) C_all_spots C_spots_beside
    have C_raw_greatest_step := c_raw_greatest_step (P := P) (w := w) (base := base) T F_raw_greatest_step (PySem.W.mg_of X G m_raw_greatest_step) (F_raw_greatest_step.binds (ps := ["land"]) fun _ _ _ _ _ _ us hl => match us, hl with | [_], _ => rfl) C_step_between C_pairs_beside
    have C_all_heights := c_all_heights (P := P) (w := w) (base := base) T F_all_heights (PySem.W.mg_of X G m_all_heights) (F_all_heights.binds (ps := ["land"]) fun _ _ _ _ _ _ us hl => match us, hl with | [_], _ => rfl) 
    have C_is_settled := c_is_settled (P := P) (w := w) (base := base) T F_is_settled (PySem.W.mg_of X G m_is_settled) (F_is_settled.binds (ps := ["land", "s", "thing"]) fun _ _ _ _ _ _ us hl => match us, hl with | [_, _, _], _ => rfl) C_check_steep C_is_land C_raw_greatest_step C_all_heights
    have C_ulaw_is_settled := c_ulaw_is_settled (P := P) (w := w) (base := base) T F_ulaw_is_settled (PySem.W.mg_of X G m_ulaw_is_settled) (F_ulaw_is_settled.binds (ps := ["land", "s", "thing"]) fun _ _ _ _ _ _ us hl => match us, hl with | [_, _, _], _ => rfl) C_ulaw_units C_ulaw_steep
    have C_ulaw_are_things_right := c_ulaw_are_things_right (P := P) (w := w) (base := base) T F_ulaw_are_things_right (PySem.W.mg_of X G m_ulaw_are_things_right) (F_ulaw_are_things_right.binds (ps := ["hand", "land", "s", "last"]) fun _ _ _ _ _ _ us hl => match us, hl with | [_, _, _, _], _ => rfl) C_ulaw_spots C_ulaw_behind C_ulaw_any C_ulaw_units C_ulaw_like C_is_settled C_ulaw_is_settled
    have C_higher_first := c_higher_first (P := P) (w := w) (base := base) T F_higher_first (PySem.W.mg_of X G m_higher_first) (F_higher_first.binds (ps := ["land", "one", "other"]) fun _ _ _ _ _ _ us hl => match us, hl with | [_, _, _], _ => rfl) C_height_of
    have C_raw_steep_pairs := c_raw_steep_pairs (P := P) (w := w) (base := base) T F_raw_steep_pairs (PySem.W.mg_of X G m_raw_steep_pairs) (F_raw_steep_pairs.binds (ps := ["land", "s"]) fun _ _ _ _ _ _ us hl => match us, hl with | [_, _], _ => rfl) C_pairs_beside C_higher_first C_step_between
    have C_steep_pairs := c_steep_pairs (P := P) (w := w) (base := base) T F_steep_pairs (PySem.W.mg_of X G m_steep_pairs) (F_steep_pairs.binds (ps := ["land", "s"]) fun _ _ _ _ _ _ us hl => match us, hl with | [_, _], _ => rfl) C_check_steep C_raw_steep_pairs
    have C_with_height := c_with_height (P := P) (w := w) (base := base) T F_with_height (PySem.W.mg_of X G m_with_height) (F_with_height.binds (ps := ["land", "spot", "high"]) fun _ _ _ _ _ _ us hl => match us, hl with | [_, _, _], _ => rfl) 
    have C_moved_unit := c_moved_unit (P := P) (w := w) (base := base) T F_moved_unit (PySem.W.mg_of X G m_moved_unit) (F_moved_unit.binds (ps := ["land", "one", "other"]) fun _ _ _ _ _ _ us hl => match us, hl with | [_, _, _], _ => rfl) C_with_height C_height_of
    have C_raw_fall := c_raw_fall (P := P) (w := w) (base := base) T F_raw_fall (PySem.W.mg_of X G m_raw_fall) (F_raw_fall.binds (ps := ["land", "s"]) fun _ _ _ _ _ _ us hl => match us, hl with | [_, _], _ => rfl) C_raw_steep_pairs C_moved_unit
    have C_fall := c_fall (P := P) (w := w) (base := base) T F_fall (PySem.W.mg_of X G m_fall) (F_fall.binds (ps := ["land", "s"]) fun _ _ _ _ _ _ us hl => match us, hl with | [_, _], _ => rfl) C_check_steep C_raw_fall
    have C_least_steep := c_least_steep (P := P) (w := w) (base := base) T F_least_steep (PySem.W.mg_of X G m_least_steep) (F_least_steep.binds (ps := ["land"]) fun _ _ _ _ _ _ us hl => match us, hl with | [_], _ => rfl) C_check_land C_raw_greatest_step
    have C_all_falls := c_all_falls (P := P) (w := w) (base := base) T F_all_falls (PySem.W.mg_of X G m_all_falls) (F_all_falls.binds (ps := ["land", "s"]) fun _ _ _ _ _ _ us hl => match us, hl with | [_, _], _ => rfl) C_raw_fall
    have C_settled := c_settled (P := P) (w := w) (base := base) T F_settled (PySem.W.mg_of X G m_settled) (F_settled.binds (ps := ["land", "s"]) fun _ _ _ _ _ _ us hl => match us, hl with | [_, _], _ => rfl) C_check_steep C_all_falls
    have C_falls_many := c_falls_many (P := P) (w := w) (base := base) T F_falls_many (PySem.W.mg_of X G m_falls_many) (F_falls_many.binds (ps := ["land", "s"]) fun _ _ _ _ _ _ us hl => match us, hl with | [_, _], _ => rfl) C_check_steep C_all_falls
    have C_moved_by_falls := c_moved_by_falls (P := P) (w := w) (base := base) T F_moved_by_falls (PySem.W.mg_of X G m_moved_by_falls) (F_moved_by_falls.binds (ps := ["land", "s"]) fun _ _ _ _ _ _ us hl => match us, hl with | [_, _], _ => rfl) C_check_steep C_all_falls C_all_heights
    have C_ulaw_is_land_right := c_ulaw_is_land_right (P := P) (w := w) (base := base) T F_ulaw_is_land_right (PySem.W.mg_of X G m_ulaw_is_land_right) (F_ulaw_is_land_right.binds (ps := ["hand", "land"]) fun _ _ _ _ _ _ us hl => match us, hl with | [_, _], _ => rfl) C_ulaw_spots C_ulaw_settled C_ulaw_any C_ulaw_steep C_ulaw_like C_ulaw_are_things_right C_steep_pairs C_fall C_least_steep C_ulaw_units C_settled C_falls_many C_moved_by_falls C_ulaw_climb C_ulaw_beside C_ulaw_behind
    have C_ulaw_land := c_ulaw_land (P := P) (w := w) (base := base) T F_ulaw_land (PySem.W.mg_of X G m_ulaw_land) (F_ulaw_land.binds (ps := ["hand", "most", "heights"]) fun _ _ _ _ _ _ us hl => match us, hl with | [_, _, _], _ => rfl) C_ulaw_any C_ulaw_draw
    have C_ulaw_heap := c_ulaw_heap (P := P) (w := w) (base := base) T F_ulaw_heap (PySem.W.mg_of X G m_ulaw_heap) (F_ulaw_heap.binds (ps := ["hand"]) fun _ _ _ _ _ _ us hl => match us, hl with | [_], _ => rfl) C_ulaw_draw C_ulaw_land
    exact g_law T F_law C_ulaw_hand C_ulaw_is_land_right C_ulaw_heap
end Wk
namespace Pv
open PySem PySem.Spec PyProof.Rows L2

/-! ### reckoning with denotations -/
@[irreducible] def WP {α : Type} (d : D α) (env : PEnv) (Q : α → PEnv → Prop) : Prop := match d env with
  | .ok a e => Q a e
  | _ => False
/-- a continuation as an instance: so simp leaves it as it stands -/
class Cont (β : Type) where run : β → Prop
def gateI {β : Type} (o : Option β) [k : Cont β] : Prop := match o with
  | some b => k.run b
  | none => False
def gate {β : Type} (o : Option β) (k : β → Prop) : Prop := @gateI β o ⟨k⟩
@[simp ↓ low] theorem gate_in {β : Type} {o : Option β} {k : β → Prop} : gate o k = @gateI β o ⟨k⟩ := rfl
@[simp] theorem gateI_some {β : Type} {b : β} {k : β → Prop} : @gateI β (some b) ⟨k⟩ = k b := rfl
@[simp] theorem gateI_none {β : Type} {k : β → Prop} : @gateI β none ⟨k⟩ = False := rfl
@[simp] theorem gateI_ite {β : Type} {c : Prop} [Decidable c] {b : β} {k : β → Prop} : @gateI β (if c then some b else none) ⟨k⟩ = (c ∧ k b) := by
  by_cases h : c <;> simp [h]
@[simp ↓] theorem ite_bnot {k : Bool} {a b : Prop} : (if (!k) = true then a else b) = (if k = true then b else a) := by cases k <;> rfl
/-- one that does not go on for now -/
def gateO {β : Type} (o : Option β) (k : β → Prop) : Prop := @gateI β o ⟨k⟩
@[simp low] theorem gateI_out {β : Type} {o : Option β} {k : β → Prop} : @gateI β o ⟨k⟩ = gateO o k := rfl
@[simp] theorem gateO_some {β : Type} {b : β} {k : β → Prop} : gateO (some b) k = k b := rfl
@[simp] theorem gateO_none {β : Type} {k : β → Prop} : gateO none k = False := rfl
@[simp] theorem gateO_ite {β : Type} {c : Prop} [Decidable c] {b : β} {k : β → Prop} : gateO (if c then some b else none) k = (c ∧ k b) := gateI_ite
theorem gate_some {β : Type} {b : β} {k : β → Prop} : gate (some b) k = k b := rfl
theorem gate_none {β : Type} {k : β → Prop} : gate (none : Option β) k = False := rfl
theorem gate_ite {β : Type} {c : Prop} [Decidable c] {b : β} {k : β → Prop} : gate (if c then some b else none) k = (c ∧ k b) := by
  by_cases h : c <;> simp [h]
theorem wp_of {α : Type} {d : D α} {env : PEnv} {Q : α → PEnv → Prop} (h : WP d env Q) : ∃ a e, d env = .ok a e ∧ Q a e := by
  unfold WP at h
  cases e : d env with
  | ok a e' => rw [e] at h; exact ⟨a, e', rfl, h⟩
  | no => rw [e] at h; exact h.elim
  | ex _ _ => rw [e] at h; exact h.elim
theorem wp_mono {α : Type} {d : D α} {env : PEnv} {Q Q' : α → PEnv → Prop} (h : WP d env Q) (k : ∀ a e, Q a e → Q' a e) : WP d env Q' := by
  obtain ⟨a, e, h1, h2⟩ := wp_of h
  unfold WP
  rw [h1]
  exact k a e h2
section
variable {α β : Type} {env : PEnv}
@[simp ↓] theorem wp_bind {d : D α} {f : α → D β} {Q : β → PEnv → Prop} : WP (dbind d f) env Q = WP d env fun a e => WP (f a) e Q := by
  unfold WP dbind
  cases d env <;> rfl
@[simp ↓] theorem wp_pure {a : α} {Q : α → PEnv → Prop} : WP (dpure a) env Q = Q a env := by unfold WP; rfl
@[simp ↓] theorem wp_no {Q : α → PEnv → Prop} : WP dno env Q = False := by unfold WP; rfl
@[simp ↓] theorem wp_con {pv : PV} {Q : Sl → PEnv → Prop} : WP (dcon pv) env Q = Q (.val pv) env := by unfold WP; rfl
@[simp ↓] theorem wp_nil {Q : PEnv → PEnv → Prop} : WP dnil env Q = Q [] env := by unfold WP; rfl
@[simp ↓] theorem wp_cons {d : D Sl} {r : D PEnv} {Q : PEnv → PEnv → Prop} : WP (dcons d r) env Q = WP d env fun a e => WP r e fun es e2 => Q (a :: es) e2 := by
  unfold dcons
  rw [wp_bind]
  congr
  funext a e
  rw [wp_bind]
  congr
  all_goals (repeat funext _); (first | rfl | simp only [wp_pure, wp_con])
def nameV (i : Nat) : Option Sl → Option Sl
  | some (.val pv) => if pv.fz = true then some (.val pv) else some (.al i [])
  | some (.al j (k :: p)) => some (.al j (k :: p))
  | _ => none
@[simp] theorem nameV_val {i : Nat} {pv : PV} : nameV i (some (.val pv)) = if pv.fz = true then some (.val pv) else some (.al i []) := rfl
@[simp] theorem nameV_al {i j k : Nat} {p : Path} : nameV i (some (.al j (k :: p))) = some (.al j (k :: p)) := rfl
@[simp ↓] theorem wp_name {i : Nat} {Q : Sl → PEnv → Prop} : WP (dname i) env Q = gate (nameV i env[i]?) fun e => Q e env := by
  unfold WP dname
  cases e : env[i]? with
  | none => (first | rfl | (unfold WP; rfl))
  | some s =>
    cases s with
    | un => (first | rfl | (unfold WP; rfl))
    | al j p => cases p <;> (first | rfl | (unfold WP; rfl))
    | val pv =>
      dsimp only
      rw [nameV_val]
      by_cases h : pv.fz = true
      · rw [if_pos h, if_pos h]; (first | rfl | (unfold WP; rfl))
      · rw [if_neg h, if_neg h]; (first | rfl | (unfold WP; rfl))
@[simp ↓] theorem wp_op {f : Sl → Sl → D Sl} {a b : D Sl} {Q : Sl → PEnv → Prop} : WP (dop f a b) env Q = WP a env fun x e => WP b e fun y e2 => WP (f x y) e2 Q := by
  unfold dop
  rw [wp_bind]
  congr
  funext x e
  rw [wp_bind]
@[simp ↓] theorem wp_un {f : Sl → D Sl} {a : D Sl} {Q : Sl → PEnv → Prop} : WP (dun f a) env Q = WP a env fun x e => WP (f x) e Q := by unfold dun; rw [wp_bind]
@[simp ↓] theorem wp_dcall {f : PEnv → D Sl} {a : D PEnv} {Q : Sl → PEnv → Prop} : WP (dcall f a) env Q = WP a env fun x e => WP (f x) e Q := by unfold dcall; rw [wp_bind]
@[simp ↓] theorem wp_fn {g : List PV → Option PV} {es : PEnv} {Q : Sl → PEnv → Prop} : WP (dfn g es) env Q = gate (conts env es) fun ps => gate (g ps) fun r => Q (.val r) env := by
  unfold WP dfn
  cases conts env es with
  | none => (first | rfl | (unfold WP; rfl))
  | some ps =>
    dsimp only
    rw [gate_some]
    cases e : g ps <;> (first | rfl | (unfold WP; rfl))
@[simp ↓] theorem wp_get {f : PEnv → Option α} {Q : α → PEnv → Prop} : WP (dget f) env Q = gate (f env) fun a => Q a env := by
  unfold WP dget
  cases e : f env <;> (first | rfl | (unfold WP; rfl))
@[simp ↓] theorem wp_bool {a : Sl} {Q : Bool → PEnv → Prop} : WP (dbool a) env Q = gate (boolOf (cont env a)) fun b => Q b env := by unfold dbool; rw [wp_get]
@[simp ↓] theorem wp_tst {d : D Sl} {Q : Bool → PEnv → Prop} : WP (dtst d) env Q = WP d env fun a e => gate (boolOf (cont e a)) fun b => Q b e := by
  unfold dtst
  rw [wp_bind]
  congr
  funext a e
  rw [wp_bool]
@[simp ↓] theorem wp_ite {c : Prop} [Decidable c] {a b : D α} {Q : α → PEnv → Prop} : WP (if c then a else b) env Q = if c then WP a env Q else WP b env Q := by
  by_cases h : c <;> simp only [h, if_true, if_false]
@[simp ↓] theorem wp_and {a b : D Sl} {Q : Sl → PEnv → Prop} : WP (dand a b) env Q = WP a env fun x e => gate (boolOf (cont e x)) fun k => if k = true then WP b e Q else Q (.val (.bl false)) e := by
  unfold dand
  rw [wp_bind]
  congr
  funext x e
  rw [wp_bind, wp_bool]
  congr
  funext k
  rw [wp_ite, wp_con]
@[simp ↓] theorem wp_or {a b : D Sl} {Q : Sl → PEnv → Prop} : WP (dor a b) env Q = WP a env fun x e => gate (boolOf (cont e x)) fun k => if k = true then Q (.val (.bl true)) e else WP b e Q := by
  unfold dor
  rw [wp_bind]
  congr
  funext x e
  rw [wp_bind, wp_bool]
  congr
  funext k
  rw [wp_ite, wp_con]
@[simp ↓] theorem wp_not {a : D Sl} {Q : Sl → PEnv → Prop} : WP (dnot a) env Q = WP a env fun x e => gate (boolOf (cont e x)) fun k => Q (.val (.bl (!k))) e := by
  unfold dnot
  rw [wp_bind]
  congr
  funext x e
  rw [wp_bind, wp_bool]
  congr
  all_goals (repeat funext _); (first | rfl | simp only [wp_pure, wp_con])
@[simp ↓] theorem wp_tand {a b : D Bool} {Q : Bool → PEnv → Prop} : WP (dtand a b) env Q = WP a env fun k e => if k = true then WP b e Q else Q false e := by
  unfold dtand
  rw [wp_bind]
  congr
  funext k e
  rw [wp_ite, wp_pure]
@[simp ↓] theorem wp_tor {a b : D Bool} {Q : Bool → PEnv → Prop} : WP (dtor a b) env Q = WP a env fun k e => if k = true then Q true e else WP b e Q := by
  unfold dtor
  rw [wp_bind]
  congr
  funext k e
  rw [wp_ite, wp_pure]
@[simp ↓] theorem wp_tnot {a : D Bool} {Q : Bool → PEnv → Prop} : WP (dtnot a) env Q = WP a env fun k e => Q (!k) e := by
  unfold dtnot
  rw [wp_bind]
  congr
  all_goals (repeat funext _); (first | rfl | simp only [wp_pure, wp_con])
@[simp ↓] theorem wp_dif {t : D Bool} {a b : D Sl} {Q : Sl → PEnv → Prop} : WP (dif t a b) env Q = WP t env fun k e => if k = true then WP a e Q else WP b e Q := by
  unfold dif
  rw [wp_bind]
  congr
  funext k e
  rw [wp_ite]
@[simp ↓] theorem wp_chain {f g : List PV → Option PV} {a b c : D Sl} {Q : Sl → PEnv → Prop} : WP (dchain f g a b c) env Q = WP a env fun x e => WP b e fun y e2 => gate (conts e2 [x, y]) fun ps => gate (boolOf (f ps)) fun k => if k = true then WP c e2 fun z e3 => WP (dfn g [y, z]) e3 Q else Q (.val (.bl false)) e2 := by
  unfold dchain
  rw [wp_bind]
  congr
  funext x e
  rw [wp_bind]
  congr
  funext y e2
  rw [wp_bind]
  unfold dcmp
  rw [wp_get]
  cases conts e2 [x, y] with
  | none => (first | rfl | (unfold WP; rfl))
  | some ps =>
    dsimp only
    rw [gate_some]
    congr
    funext k
    rw [wp_ite, wp_con, wp_bind]
@[simp ↓] theorem wp_tup {d : D PEnv} {Q : Sl → PEnv → Prop} : WP (dtup d) env Q = WP d env fun es e => gate (frzEs e es) fun r => es.length ≤ 1000 ∧ Q (.val (.tup r.1)) r.2 := by
  unfold dtup
  rw [wp_bind]
  congr
  funext es e
  unfold WP dtupE
  cases frzEs e es with
  | none => (first | rfl | (unfold WP; rfl))
  | some r =>
    dsimp only
    rw [gate_some]
    by_cases h : es.length ≤ 1000 <;> simp [h]
@[simp ↓] theorem wp_lst {d : D PEnv} {Q : Sl → PEnv → Prop} : WP (dlst d) env Q = WP d env fun es e => gate (frzEs e es) fun r => es.length ≤ 1000 ∧ Q (.val (.lst true r.1)) r.2 := by
  unfold dlst
  rw [wp_bind]
  congr
  funext es e
  unfold WP dlstE
  cases frzEs e es with
  | none => (first | rfl | (unfold WP; rfl))
  | some r =>
    dsimp only
    rw [gate_some]
    by_cases h : es.length ≤ 1000 <;> simp [h]
/-- a subscript's entry -/
def ixV (a : Sl) : Option PV → Option PV → Option Sl
  | some (.lst _ xs), some (.int i) => match ixN xs.length i with
    | some k => match xs[k]? with
      | some x => if x.fz = true then some (.val x) else match a with
        | .al j p => some (.al j (p ++ [k]))
        | _ => none
      | none => none
    | none => none
  | some (.tup xs), some (.int i) => (atI xs i).map .val
  | _, _ => none
@[simp ↓] theorem wp_ix {a b : Sl} {Q : Sl → PEnv → Prop} : WP (dixE a b) env Q = gate (ixV a (cont env a) (cont env b)) fun e => Q e env := by
  unfold WP dixE
  cases cont env a with
  | none => (first | rfl | (unfold WP; rfl))
  | some pa =>
    cases cont env b with
    | none => cases pa <;> (first | rfl | (unfold WP; rfl))
    | some pb =>
      cases pb with
      | int i =>
        cases pa with
        | lst o xs =>
          dsimp only [ixV]
          cases ixN xs.length i with
          | none => (first | rfl | (unfold WP; rfl))
          | some k =>
            dsimp only
            cases xs[k]? with
            | none => (first | rfl | (unfold WP; rfl))
            | some x =>
              dsimp only
              by_cases h : x.fz = true
              · rw [if_pos h, if_pos h]; (first | rfl | (unfold WP; rfl))
              · rw [if_neg h, if_neg h]
                cases a <;> (first | rfl | (unfold WP; rfl))
        | tup xs =>
          dsimp only [ixV]
          cases atI xs i <;> (first | rfl | (unfold WP; rfl))
        | _ => (first | rfl | (unfold WP; rfl))
      | _ => cases pa <;> (first | rfl | (unfold WP; rfl))
def cutO (p : Option PV) (lo hi : Option Int) : Option PV := match p with
  | some (.lst _ xs) => if PV.fzs xs = true then some (.lst true (cutP xs lo hi)) else none
  | some (.frl xs) => some (.lst true (cutP xs lo hi))
  | some (.tup xs) => some (.tup (cutP xs lo hi))
  | _ => none
def revO (p : Option PV) : Option PV := match p with
  | some (.lst _ xs) => if PV.fzs xs = true then some (.lst true xs.reverse) else none
  | some (.tup xs) => some (.tup xs.reverse)
  | _ => none
@[simp ↓] theorem wp_cut {a : Sl} {lo hi : Option Int} {Q : Sl → PEnv → Prop} : WP (dcut a lo hi) env Q = gate (cutO (cont env a) lo hi) fun r => Q (.val r) env := by
  unfold WP dcut
  cases cont env a with
  | none => (first | rfl | (unfold WP; rfl))
  | some pa =>
    cases pa with
    | lst o xs =>
      dsimp only [cutO]
      by_cases h : PV.fzs xs = true
      · rw [if_pos h, if_pos h]; (first | rfl | (unfold WP; rfl))
      · rw [if_neg h, if_neg h]; (first | rfl | (unfold WP; rfl))
    | _ => (first | rfl | (unfold WP; rfl))
@[simp ↓] theorem wp_rev {a : Sl} {Q : Sl → PEnv → Prop} : WP (drev a) env Q = gate (revO (cont env a)) fun r => Q (.val r) env := by
  unfold WP drev
  cases cont env a with
  | none => (first | rfl | (unfold WP; rfl))
  | some pa =>
    cases pa with
    | lst o xs =>
      dsimp only [revO]
      by_cases h : PV.fzs xs = true
      · rw [if_pos h, if_pos h]; (first | rfl | (unfold WP; rfl))
      · rw [if_neg h, if_neg h]; (first | rfl | (unfold WP; rfl))
    | _ => (first | rfl | (unfold WP; rfl))
@[simp ↓] theorem wp_part0 {Q : Option Int → PEnv → Prop} : WP (dpart none) env Q = Q none env := by unfold WP; rfl
@[simp ↓] theorem wp_part1 {d : D Sl} {Q : Option Int → PEnv → Prop} : WP (dpart (some d)) env Q = WP d env fun a e => gate (intOf (cont e a)) fun i => Q (some i) e := by
  unfold dpart
  rw [wp_bind]
  congr
  funext a e
  rw [wp_bind]
  unfold dint
  rw [wp_get]
  congr
  all_goals (repeat funext _); (first | rfl | simp only [wp_pure, wp_con])
@[simp ↓] theorem wp_slice {d : D Sl} {lo hi : Option (D Sl)} {Q : Sl → PEnv → Prop} : WP (dslice d lo hi) env Q = WP d env fun a e => WP (dpart lo) e fun l e2 => WP (dpart hi) e2 fun h e3 => WP (dcut a l h) e3 Q := by
  unfold dslice
  rw [wp_bind]
  congr
  funext a e
  rw [wp_bind]
  congr
  funext l e2
  rw [wp_bind]
/-! statements -/
@[simp ↓] theorem wp_ret {d : D Sl} {Q : Fl → PEnv → Prop} : WP (dret d) env Q = WP d env fun e env' => Q (.rt e) env' := by
  unfold dret
  rw [wp_bind]
  congr
  all_goals (repeat funext _); (first | rfl | simp only [wp_pure, wp_con])
@[simp ↓] theorem wp_dite {t : D Bool} {a b : D Fl} {Q : Fl → PEnv → Prop} : WP (dite t a b) env Q = WP t env fun k e => if k = true then WP a e Q else WP b e Q := by
  unfold dite
  rw [wp_bind]
  congr
  funext k e
  rw [wp_ite]
@[simp ↓] theorem wp_expr {d : D Sl} {Q : Fl → PEnv → Prop} : WP (dexpr d) env Q = WP d env fun _ env' => Q .nx env' := by
  unfold dexpr
  rw [wp_bind]
  congr
  all_goals (repeat funext _); (first | rfl | simp only [wp_pure, wp_con])
@[simp ↓] theorem wp_skip {Q : Fl → PEnv → Prop} : WP dskip env Q = Q .nx env := by unfold WP; rfl
/-- going on behind a statement -/
def thenF (f : Fl) (b : PEnv → (Fl → PEnv → Prop) → Prop) (Q : Fl → PEnv → Prop) (e : PEnv) : Prop := match f with
  | .nx => b e Q
  | f => Q f e
@[simp ↓] theorem thenF_nx {b : PEnv → (Fl → PEnv → Prop) → Prop} {Q : Fl → PEnv → Prop} {e : PEnv} : thenF .nx b Q e = b e Q := rfl
@[simp ↓] theorem thenF_rt {b : PEnv → (Fl → PEnv → Prop) → Prop} {Q : Fl → PEnv → Prop} {e : PEnv} {r : Sl} : thenF (.rt r) b Q e = Q (.rt r) e := rfl
@[simp ↓] theorem thenF_bk {b : PEnv → (Fl → PEnv → Prop) → Prop} {Q : Fl → PEnv → Prop} {e : PEnv} : thenF .bk b Q e = Q .bk e := rfl
@[simp ↓] theorem thenF_ct {b : PEnv → (Fl → PEnv → Prop) → Prop} {Q : Fl → PEnv → Prop} {e : PEnv} : thenF .ct b Q e = Q .ct e := rfl
@[simp ↓] theorem wp_seq {a b : D Fl} {Q : Fl → PEnv → Prop} : WP (dseq a b) env Q = WP a env fun f e => thenF f (fun e Q => WP b e Q) Q e := by
  unfold dseq
  rw [wp_bind]
  congr
  funext f e
  cases f <;> (first | rfl | (unfold WP; rfl))
@[simp ↓] theorem wp_set {i : Nat} {d : D Sl} {Q : Fl → PEnv → Prop} : WP (dset i d) env Q = WP d env fun e env' => WP (dstore i e) env' Q := by
  unfold dset
  rw [wp_bind]
@[simp ↓] theorem wp_store {i : Nat} {pv : PV} {Q : Fl → PEnv → Prop} : WP (dstore i (.val pv)) env Q = Q .nx (setE env i (.val pv)) := by unfold WP; rfl
@[simp ↓] theorem wp_storeA {i j k : Nat} {p : Path} {Q : Fl → PEnv → Prop} : WP (dstore i (.al j (k :: p))) env Q = if j = i then gate (frzE env (.al j (k :: p))) fun r => Q .nx (setE r.2 i (.val r.1)) else Q .nx (setE env i (.al j (k :: p))) := by
  unfold WP dstore
  dsimp only
  by_cases h : j = i
  · rw [if_pos (.inr h), if_pos h]
    cases frzE env (.al j (k :: p)) <;> (first | rfl | (unfold WP; rfl))
  · rw [if_neg (by simp [h]), if_neg h]
@[simp ↓] theorem wp_storeW {i j : Nat} {Q : Fl → PEnv → Prop} : WP (dstore i (.al j [])) env Q = gate (frzE env (.al j [])) fun r => Q .nx (setE r.2 i (.val r.1)) := by
  unfold WP dstore
  dsimp only
  rw [if_pos (.inl rfl)]
  cases frzE env (.al j []) <;> (first | rfl | (unfold WP; rfl))
@[simp] theorem setE_def {i : Nat} {e : Sl} : setE env i e = (env.map (killR i)).set i e := rfl
@[simp] theorem killR_val {i : Nat} {pv : PV} : killR i (.val pv) = .val pv := rfl
@[simp] theorem killR_un {i : Nat} : killR i .un = .un := rfl
@[simp] theorem killR_al {i j : Nat} {p : Path} : killR i (.al j p) = if j = i then .un else .al j p := rfl
@[simp ↓] theorem wp_pars {is : List Nat} {d : D PEnv} {Q : Fl → PEnv → Prop} : WP (dpars is d) env Q = WP d env fun es e => gate (unalEs e es) fun r => gate (setAll r.2 is r.1) fun e2 => Q .nx e2 := by
  unfold dpars
  rw [wp_bind]
  congr
  funext es e
  unfold WP dparsE
  cases unalEs e es with
  | none => (first | rfl | (unfold WP; rfl))
  | some r =>
    dsimp only
    rw [gate_some]
    cases setAll r.2 is r.1 <;> (first | rfl | (unfold WP; rfl))
@[simp ↓] theorem wp_asg {t : Tg} {d : D Sl} {Q : Fl → PEnv → Prop} : WP (dasg t d) env Q = WP d env fun a e => gate (frzE e a) fun r => gate (setT t r.1 r.2) fun e2 => Q .nx e2 := by
  unfold dasg
  rw [wp_bind]
  congr
  funext a e
  unfold WP dunpack
  cases frzE e a with
  | none => (first | rfl | (unfold WP; rfl))
  | some r =>
    dsimp only
    rw [gate_some]
    cases setT t r.1 r.2 <;> (first | rfl | (unfold WP; rfl))
@[simp ↓] theorem wp_items {d : D Sl} {Q : List PV → PEnv → Prop} : WP (ditems d) env Q = WP d env fun a e => WP (itemsE a) e Q := by
  unfold ditems
  rw [wp_bind]
def itemsO (r : PV) : Option (List PV) := match r with
  | .lst _ xs => some xs
  | .tup xs => some xs
  | .frl xs => some xs
  | _ => none
@[simp ↓] theorem wp_itemsE {a : Sl} {Q : List PV → PEnv → Prop} : WP (itemsE a) env Q = gate (frzE env a) fun r => gate (itemsO r.1) fun xs => Q xs r.2 := by
  unfold WP itemsE
  cases frzE env a with
  | none => (first | rfl | (unfold WP; rfl))
  | some r =>
    obtain ⟨p, e⟩ := r
    cases p <;> (first | rfl | (unfold WP; rfl))
@[simp ↓] theorem wp_range1 {d : D PEnv} {Q : List PV → PEnv → Prop} : WP (drange1 d) env Q = WP d env fun es e => match es with
    | [a] => gate (intOf (cont e a)) fun i => okB i ∧ Q (rangeP 0 i.toNat 1) e
    | _ => False := by
  unfold drange1
  rw [wp_bind]
  congr
  funext es e
  match es with
  | [] => (first | rfl | (unfold WP; rfl))
  | _ :: _ :: _ => (first | rfl | (unfold WP; rfl))
  | [a] =>
    unfold WP
    dsimp only
    cases intOf (cont e a) with
    | none => (first | rfl | (unfold WP; rfl))
    | some i =>
      dsimp only
      rw [gate_some]
      by_cases h : okB i <;> simp [h]
@[simp ↓] theorem wp_range2 {d : D PEnv} {Q : List PV → PEnv → Prop} : WP (drange2 d) env Q = WP d env fun es e => match es with
    | [a, b] => gate (intOf (cont e a)) fun i => gate (intOf (cont e b)) fun j => (okB i ∧ okB j) ∧ Q (rangeP i (j - i).toNat 1) e
    | _ => False := by
  unfold drange2
  rw [wp_bind]
  congr
  funext es e
  match es with
  | [] => (first | rfl | (unfold WP; rfl))
  | [_] => (first | rfl | (unfold WP; rfl))
  | _ :: _ :: _ :: _ => (first | rfl | (unfold WP; rfl))
  | [a, b] =>
    unfold WP
    dsimp only
    cases intOf (cont e a) with
    | none => (first | rfl | (unfold WP; rfl))
    | some i =>
      cases intOf (cont e b) with
      | none => (first | rfl | (unfold WP; rfl))
      | some j =>
        dsimp only
        rw [gate_some, gate_some]
        by_cases h : okB i ∧ okB j
        · rw [if_pos h]; simp [h]
        · rw [if_neg h]; simp [h]
def zipO (r : List PV) : Option (List PV) := match r with
  | [.lst _ xs, .lst _ ys] => some ((xs.zip ys).map fun p => .tup [p.1, p.2])
  | [.tup xs, .tup ys] => some ((xs.zip ys).map fun p => .tup [p.1, p.2])
  | _ => none
@[simp ↓] theorem wp_zip {d : D PEnv} {Q : List PV → PEnv → Prop} : WP (dzip d) env Q = WP d env fun es e => gate (frzEs e es) fun r => gate (zipO r.1) fun xs => Q xs r.2 := by
  unfold dzip
  rw [wp_bind]
  congr
  funext es e
  unfold WP
  dsimp only
  generalize frzEs e es = z
  match z with
  | none => (first | rfl | (unfold WP; rfl))
  | some ([], _) => (first | rfl | (unfold WP; rfl))
  | some ([x], _) => cases x <;> (first | rfl | (unfold WP; rfl))
  | some ([x, y], _) => cases x <;> cases y <;> (first | rfl | (unfold WP; rfl))
  | some (x :: y :: _ :: _, _) => cases x <;> cases y <;> (first | rfl | (unfold WP; rfl))
@[simp ↓] theorem wp_for {t : Tg} {di : D (List PV)} {b : D Fl} {Q : Fl → PEnv → Prop} : WP (dfor t di b) env Q = WP di env fun ps e => WP (forP (setT t) b ps) e Q := by
  unfold dfor
  rw [wp_bind]
@[simp ↓] theorem wp_callF {f : FnD} {d : D PEnv} {Q : Sl → PEnv → Prop} : WP (dcallF f d) env Q = WP d env fun es e => gate (argEs e es) fun r => dBor r.1 = true ∧ gate (conts r.2 r.1) fun args => gate (f args) fun z => okW r.1 z.2 = true ∧ Q (.val z.1) (wbG r.1 z.2 0 r.2) := by
  unfold dcallF
  rw [wp_bind]
  congr
  funext es e
  unfold WP dcallE
  cases argEs e es with
  | none => (first | rfl | (unfold WP; rfl))
  | some r =>
    obtain ⟨es1, e1⟩ := r
    rw [gate_some]
    dsimp only
    by_cases h : dBor es1 = true
    · rw [if_pos h]
      cases conts e1 es1 with
      | none => simp
      | some args =>
        dsimp only
        rw [gate_some]
        cases f args with
        | none => simp
        | some z =>
          obtain ⟨r, as⟩ := z
          dsimp only
          rw [gate_some]
          by_cases h2 : okW es1 as = true <;> simp [h, h2]
    · rw [if_neg h]; simp [h]
@[simp ↓] theorem wp_meth {g : List PV → List PV → Option (List PV × PV)} {o : D Sl} {ds : D PEnv} {Q : Sl → PEnv → Prop} : WP (dmeth g o ds) env Q = WP o env fun a e => WP (dlk a) e fun _ e2 => WP ds e2 fun es e3 => WP (dmethE g a es) e3 Q := by
  unfold dmeth
  rw [wp_bind]
  congr
  funext a e
  rw [wp_bind]
  congr
  funext u e2
  rw [wp_bind]
@[simp ↓] theorem wp_lk {j : Nat} {p : Path} {Q : Unit → PEnv → Prop} : WP (dlk (.al j p)) env Q = gate (look env j p) fun x => (match x with | .lst true _ => True | _ => False) ∧ Q () env := by
  unfold dlk
  rw [wp_get]
  dsimp only
  cases look env j p with
  | none => (first | rfl | (unfold WP; rfl))
  | some x =>
    rw [gate_some]
    cases x with
    | lst o xs => cases o <;> simp
    | _ => simp
@[simp ↓] theorem wp_methE {g : List PV → List PV → Option (List PV × PV)} {j : Nat} {p : Path} {es : PEnv} {Q : Sl → PEnv → Prop} : WP (dmethE g (.al j p) es) env Q = gate (frzEs env es) fun r => gate (look r.2 j p) fun x => match x with
    | .lst true xs => PV.fzs xs = true ∧ gate (g xs r.1) fun z => PV.fzs z.1 = true ∧ Q (.val z.2) (putE r.2 j p (.lst true z.1))
    | _ => False := by
  unfold WP dmethE
  cases frzEs env es with
  | none => (first | rfl | (unfold WP; rfl))
  | some r =>
    obtain ⟨ps, e1⟩ := r
    rw [gate_some]
    dsimp only
    cases look e1 j p with
    | none => (first | rfl | (unfold WP; rfl))
    | some x =>
      rw [gate_some]
      cases x with
      | lst o xs =>
        cases o with
        | false => (first | rfl | (unfold WP; rfl))
        | true =>
          dsimp only
          by_cases h : PV.fzs xs = true
          · rw [if_pos h]
            cases g xs ps with
            | none => simp
            | some z =>
              obtain ⟨ys, r⟩ := z
              dsimp only
              rw [gate_some]
              by_cases h2 : PV.fzs ys = true <;> simp [h, h2]
          · rw [if_neg h]; simp [h]
      | _ => (first | rfl | (unfold WP; rfl))
end

/-! ### loops, comprehensions -/
section
variable {t : PV → PEnv → Option PEnv} {b : D Fl} {Q : Fl → PEnv → Prop}
/-- a loop by an invariant over the turns -/
theorem wp_forP (I : Nat → PEnv → Prop) : ∀ {ps : List PV} {n : Nat} {env : PEnv}, I n env → (∀ (i : Nat) p e, ps[i]? = some p → I (n + i) e → gate (t p e) fun e1 => WP b e1 fun f e2 => match f with
      | .nx => I (n + i + 1) e2
      | .ct => I (n + i + 1) e2
      | .bk => Q .nx e2
      | .rt r => Q (.rt r) e2) → (∀ e, I (n + ps.length) e → Q .nx e) → WP (forP t b ps) env Q
  | [], n, env, h0, hs, hd => by
    unfold WP
    exact hd env h0
  | p :: ps, n, env, h0, hs, hd => by
    have h1 := hs 0 p env rfl h0
    unfold WP forP
    cases e1 : t p env with
    | none => rw [e1] at h1; exact h1.elim
    | some env1 =>
      rw [e1, gate_some] at h1
      obtain ⟨f, e2, h2, h3⟩ := wp_of h1
      dsimp only
      rw [h2]
      have go : I (n + 1) e2 → WP (forP t b ps) e2 Q := fun hi => wp_forP I hi (fun i q e hq hI => by
        have := hs (i + 1) q e (by simpa using hq) (by have e4 : n + (i + 1) = n + 1 + i := by omega
                                                       rw [e4]; exact hI)
        have e5 : n + (i + 1) + 1 = n + 1 + i + 1 := by omega
        rw [e5] at this
        exact this) (fun e he => hd e (by rw [List.length_cons]; have e6 : n + (ps.length + 1) = n + 1 + ps.length := by omega
                                          rw [e6]; exact he))
      cases f with
      | nx => have g := go h3; unfold WP at g; exact g
      | ct => have g := go h3; unfold WP at g; exact g
      | bk => exact h3
      | rt r => exact h3
end
/-- a comprehension that leaves the state as it is -/
theorem lcP_pure {t : PV → PEnv → Option PEnv} {vs : List Nat} {tt : D Bool} {te : D Sl} {env : PEnv} (c : PV → Bool) (g : PV → PV) : ∀ {ps acc : List PV}, (∀ p ∈ ps, gate (t p env) fun e1 => WP tt e1 fun k e2 => k = c p ∧ if c p = true then WP te e2 fun r e3 => r = .val (g p) ∧ wipeE e3 vs = env else wipeE e2 vs = env) →
    lcP t vs tt te ps acc env = .ok (acc ++ (ps.filter c).map g) env
  | [], acc, _ => by rw [lcP]; simp
  | p :: ps, acc, h => by
    have h1 := h p (by simp)
    have ih := fun acc => lcP_pure (t := t) (vs := vs) (tt := tt) (te := te) (env := env) c g (ps := ps) (acc := acc) fun q hq => h q (by simp [hq])
    rw [lcP]
    cases e1 : t p env with
    | none => rw [e1] at h1; exact h1.elim
    | some env1 =>
      rw [e1, gate_some] at h1
      obtain ⟨k, e2, h2, rfl, h3⟩ := wp_of h1
      dsimp only
      rw [h2]
      cases hc : c p with
      | false =>
        rw [hc, if_neg Bool.false_ne_true] at h3
        dsimp only
        rw [h3, ih, List.filter_cons_of_neg (by simp [hc])]
      | true =>
        rw [hc, if_pos rfl] at h3
        obtain ⟨r, e3, h4, rfl, h5⟩ := wp_of h3
        dsimp only
        rw [h4]
        dsimp only [unalV]
        rw [h5, ih, List.filter_cons_of_pos hc]
        simp
end Pv
namespace Pv
open PySem PySem.Spec PyProof.Rows L2

@[simp] theorem fz_non : PV.fz .non = true := rfl
@[simp] theorem fz_bl {b : Bool} : PV.fz (.bl b) = true := rfl
@[simp] theorem fz_int {i : Int} : PV.fz (.int i) = true := rfl
@[simp] theorem fz_str {s : Str} : PV.fz (.str s) = true := rfl
@[simp] theorem fz_ty {s : String} : PV.fz (.ty s) = true := rfl
@[simp] theorem fz_tup {xs : List PV} : PV.fz (.tup xs) = PV.fzs xs := by rw [PV.fz]
@[simp] theorem fz_frl {xs : List PV} : PV.fz (.frl xs) = PV.fzs xs := by rw [PV.fz]
@[simp] theorem fz_lst {o : Bool} {xs : List PV} : PV.fz (.lst o xs) = (!o && PV.fzs xs) := by rw [PV.fz]
@[simp] theorem fzs_nil : PV.fzs [] = true := rfl
@[simp] theorem fzs_cons {x : PV} {xs : List PV} : PV.fzs (x :: xs) = (x.fz && PV.fzs xs) := by rw [PV.fzs]
@[simp] theorem fzs_app {xs ys : List PV} : PV.fzs (xs ++ ys) = (PV.fzs xs && PV.fzs ys) := PV.fzs_append xs ys
@[simp] theorem fzs_map {α : Type} {f : α → PV} (h : ∀ a, (f a).fz = true) : ∀ {l : List α}, PV.fzs (l.map f) = true
  | [] => rfl
  | a :: l => by rw [List.map_cons, PV.fzs, h a, fzs_map h]; rfl
@[simp] theorem fzs_ints {l : List Int} : PV.fzs (l.map .int) = true := fzs_map fun _ => rfl
@[simp] theorem fzs_bls {l : List Bool} : PV.fzs (l.map .bl) = true := fzs_map fun _ => rfl
@[simp] theorem frz_non : PV.frz .non = .non := rfl
@[simp] theorem frz_bl {b : Bool} : PV.frz (.bl b) = .bl b := rfl
@[simp] theorem frz_int {i : Int} : PV.frz (.int i) = .int i := rfl
@[simp] theorem frz_str {s : Str} : PV.frz (.str s) = .str s := rfl
@[simp] theorem frz_lst {o : Bool} {xs : List PV} : PV.frz (.lst o xs) = .lst false (PV.frzs xs) := by rw [PV.frz]
@[simp] theorem frz_tup {xs : List PV} : PV.frz (.tup xs) = .tup (PV.frzs xs) := by rw [PV.frz]
@[simp] theorem frzs_nil : PV.frzs [] = [] := rfl
theorem frzs_of {xs : List PV} (h : PV.fzs xs = true) : PV.frzs xs = xs := PV.frzs_of_fzs xs h
@[simp] theorem frzs_map {α : Type} {f : α → PV} {l : List α} (h : ∀ a, (f a).fz = true) : PV.frzs (l.map f) = l.map f := frzs_of (fzs_map h)
@[simp] theorem fzs_frzs {xs : List PV} : PV.fzs (PV.frzs xs) = true := PV.fzs_frzs xs
theorem frzs_len : ∀ {xs : List PV}, (PV.frzs xs).length = xs.length
  | [] => rfl
  | x :: xs => by rw [PV.frzs, List.length_cons, List.length_cons, frzs_len]
@[simp] theorem filt_true {α : Type} {l : List α} : l.filter (fun _ => true) = l := List.filter_eq_self.mpr fun _ _ => rfl
@[simp] theorem frzs_ints {l : List Int} : PV.frzs (l.map .int) = l.map .int := frzs_of fzs_ints
@[simp] theorem frzs_cons {x : PV} {xs : List PV} : PV.frzs (x :: xs) = x.frz :: PV.frzs xs := by rw [PV.frzs]

@[simp] theorem frzE_val {env : PEnv} {pv : PV} : frzE env (.val pv) = some (pv.frz, env) := rfl
@[simp] theorem frzE_al {env : PEnv} {j : Nat} {p : Path} : frzE env (.al j p) = (match look env j p, env[j]? with
      | some q, some (.val pv) => some (q.frz, env.set j (.val pv.frz))
      | _, _ => none) := rfl
@[simp] theorem frzEs_nil {env : PEnv} : frzEs env [] = some ([], env) := rfl
@[simp] theorem frzEs_val {env : PEnv} {pv : PV} {es : PEnv} : frzEs env (.val pv :: es) = (frzEs env es).map fun r => (pv.frz :: r.1, r.2) := by
  rw [frzEs, frzE_val]
  dsimp only
  cases frzEs env es <;> rfl
@[simp] theorem frzEs_al {env : PEnv} {j : Nat} {p : Path} {es : PEnv} : frzEs env (.al j p :: es) = (frzE env (.al j p)).bind fun q => (frzEs q.2 es).map fun r => (q.1 :: r.1, r.2) := by
  rw [frzEs]
  cases frzE env (.al j p) with
  | none => rfl
  | some q =>
    dsimp only [Option.bind]
    cases frzEs q.2 es <;> rfl
@[simp] theorem conts_nil {env : PEnv} : conts env [] = some [] := rfl
@[simp] theorem conts_val {env : PEnv} {pv : PV} {es : PEnv} : conts env (.val pv :: es) = (conts env es).map fun r => pv :: r := by
  rw [conts]
  show (match some pv, conts env es with | some p, some ps => some (p :: ps) | _, _ => none) = _
  cases conts env es <;> rfl
@[simp] theorem conts_al {env : PEnv} {j : Nat} {p : Path} {es : PEnv} : conts env (.al j p :: es) = (look env j p).bind fun q => (conts env es).map fun r => q :: r := by
  rw [conts]
  show (match look env j p, conts env es with | some p, some ps => some (p :: ps) | _, _ => none) = _
  cases look env j p <;> cases conts env es <;> rfl
@[simp] theorem cont_val {env : PEnv} {pv : PV} : cont env (.val pv) = some pv := rfl
@[simp] theorem cont_al {env : PEnv} {j : Nat} {p : Path} : cont env (.al j p) = look env j p := rfl
@[simp] theorem look_def {env : PEnv} {j : Nat} {p : Path} : look env j p = (match env[j]? with
  | some (.val pv) => (match PV.at p pv with
    | some q => if q.fz = true then none else some q
    | none => none)
  | _ => none) := rfl
@[simp] theorem at_nil {x : PV} : PV.at [] x = some x := by rw [PV.at]
@[simp] theorem at_lst' {i : Nat} {q : Path} {o : Bool} {xs : List PV} : PV.at (i :: q) (.lst o xs) = xs[i]?.bind fun x => PV.at q x := by
  rw [at_lst]
  cases xs[i]? <;> rfl
@[simp] theorem boolOf_bl {b : Bool} : boolOf (some (.bl b)) = some b := rfl
@[simp] theorem intOf_int {i : Int} : intOf (some (.int i)) = some i := rfl
@[simp] theorem argEs_nil {env : PEnv} : argEs env [] = some ([], env) := rfl
@[simp] theorem argEs_val {env : PEnv} {pv : PV} {es : PEnv} : argEs env (.val pv :: es) = (argEs env es).map fun r => (Sl.val pv :: r.1, r.2) := by
  rw [argEs]
  show (match argEs env es with | some (es', env2) => some (Sl.val pv :: es', env2) | none => none) = _
  cases argEs env es <;> rfl
@[simp] theorem argEs_al {env : PEnv} {j : Nat} {es : PEnv} : argEs env (.al j [] :: es) = (argEs env es).map fun r => (Sl.al j [] :: r.1, r.2) := by
  rw [argEs]
  show (match argEs env es with | some (es', env2) => some (Sl.al j [] :: es', env2) | none => none) = _
  cases argEs env es <;> rfl
@[simp] theorem dBor_n : dBor [] = true := rfl
@[simp] theorem dBor_val {pv : PV} {es : PEnv} : dBor (.val pv :: es) = dBor es := by rw [dBor]; all_goals (intros; simp_all)
@[simp] theorem dBor_al {j : Nat} {es : PEnv} : dBor (.al j [] :: es) = (es.all (fun e => match e with
      | .al i _ => i != j
      | _ => true) && dBor es) := rfl
@[simp] theorem okW_nil : okW [] [] = true := rfl
@[simp] theorem okW_val {pv a : PV} {es : PEnv} {as : List PV} : okW (.val pv :: es) (a :: as) = okW es as := by rw [okW]; all_goals (intros; simp_all)
@[simp] theorem okW_al {j : Nat} {p : Path} {a : PV} {es : PEnv} {as : List PV} : okW (.al j p :: es) (a :: as) = (flatP a && okW es as) := by rw [okW]
@[simp] theorem bpos_n {as : List PV} {i : Nat} : bpos [] as i = none := by cases as <;> rfl
@[simp] theorem bpos_val {pv a : PV} {es : PEnv} {as : List PV} {i : Nat} : bpos (.val pv :: es) (a :: as) i = bpos es as i := by rw [bpos]; all_goals (intros; simp_all)
@[simp] theorem bpos_al {j : Nat} {p : Path} {a : PV} {es : PEnv} {as : List PV} {i : Nat} : bpos (.al j p :: es) (a :: as) i = if j = i then some a else bpos es as i := by rw [bpos]
@[simp] theorem wbG_n {es : PEnv} {as : List PV} {i : Nat} : wbG es as i [] = [] := rfl
@[simp] theorem wbG_c {es : PEnv} {as : List PV} {i : Nat} {e : Sl} {env : PEnv} : wbG es as i (e :: env) = wbS es as i e :: wbG es as (i + 1) env := rfl
@[simp] theorem wbS_val {es : PEnv} {as : List PV} {i : Nat} {pv : PV} : wbS es as i (.val pv) = .val ((bpos es as i).getD pv) := by
  unfold wbS
  cases bpos es as i <;> rfl
@[simp] theorem wbS_un {es : PEnv} {as : List PV} {i : Nat} : wbS es as i .un = (match bpos es as i with | some a => .val a | none => .un) := by
  unfold wbS
  cases bpos es as i <;> rfl
@[simp] theorem wbS_al {es : PEnv} {as : List PV} {i j : Nat} {p : Path} : wbS es as i (.al j p) = (match bpos es as i with
  | some a => .val a
  | none => match bpos es as j with
      | some _ => .un
      | none => .al j p) := rfl
@[simp] theorem flatP_lst {o : Bool} {xs : List PV} : flatP (.lst o xs) = PV.fzs xs := rfl
@[simp] theorem unalEs_nil {env : PEnv} : unalEs env [] = some ([], env) := rfl
@[simp] theorem unalEs_val {env : PEnv} {pv : PV} {es : PEnv} : unalEs env (.val pv :: es) = (unalEs env es).map fun r => (pv :: r.1, r.2) := by
  rw [unalEs]
  cases unalEs env es <;> rfl
@[simp] theorem unalEs_al {env : PEnv} {j : Nat} {p : Path} {es : PEnv} : unalEs env (.al j p :: es) = (frzE env (.al j p)).bind fun q => (unalEs q.2 es).map fun r => (q.1 :: r.1, r.2) := by
  rw [unalEs]
  · cases frzE env (.al j p) with
    | none => rfl
    | some q =>
      dsimp only [Option.bind]
      cases unalEs q.2 es <;> rfl
  · intro pv h
    cases h
@[simp] theorem setAll_nil {env : PEnv} : setAll env [] [] = some env := rfl
@[simp] theorem setAll_cons {env : PEnv} {i : Nat} {is : List Nat} {p : PV} {ps : List PV} : setAll env (i :: is) (p :: ps) = setAll (setE env i (.val p)) is ps := rfl
@[simp] theorem setT_nm {i : Nat} {p : PV} {env : PEnv} : setT (.nm i) p env = some (setE env i (.val p)) := by rw [setT]
@[simp] theorem setT_tp {ts : List Tg} {ps : List PV} {env : PEnv} : setT (.tp ts) (.tup ps) env = setTs ts ps env := by rw [setT]
@[simp] theorem setTs_nil {env : PEnv} : setTs [] [] env = some env := by rw [setTs]
@[simp] theorem setTs_cons {t : Tg} {ts : List Tg} {p : PV} {ps : List PV} {env : PEnv} : setTs (t :: ts) (p :: ps) env = (setT t p env).bind fun e => setTs ts ps e := by
  rw [setTs]
  cases setT t p env <;> rfl
@[simp] theorem itemsO_lst {o : Bool} {xs : List PV} : itemsO (.lst o xs) = some xs := rfl
@[simp] theorem itemsO_tup {xs : List PV} : itemsO (.tup xs) = some xs := rfl
@[simp] theorem itemsO_frl {xs : List PV} : itemsO (.frl xs) = some xs := rfl
@[simp] theorem wipeE_nil {env : PEnv} : wipeE env [] = env := rfl
@[simp] theorem wipeE_cons {env : PEnv} {v : Nat} {vs : List Nat} : wipeE env (v :: vs) = (wipeE env vs).set v .un := rfl
@[simp] theorem backE_nil {env0 env : PEnv} : backE env0 env [] = env := rfl
@[simp] theorem backE_cons {env0 env : PEnv} {v : Nat} {vs : List Nat} : backE env0 env (v :: vs) = (match env0[v]? with
    | some e => (backE env0 env vs).set v (backS e)
    | none => backE env0 env vs) := rfl
@[simp] theorem backS_val {pv : PV} : backS (.val pv) = .val pv := rfl
@[simp] theorem backS_un : backS .un = .un := rfl
@[simp] theorem backS_al {j : Nat} {p : Path} : backS (.al j p) = .un := rfl
@[simp] theorem plainS_al {j : Nat} {p : Path} : plainS (.al j p) = true := rfl
@[simp] theorem plainS_val {pv : PV} : plainS (.val pv) = pv.fz := rfl
@[simp] theorem plainS_un : plainS .un = true := rfl
@[simp] theorem plainE_nil {env : PEnv} : plainE env [] = true := rfl
@[simp] theorem plainE_cons {env : PEnv} {v : Nat} {vs : List Nat} : plainE env (v :: vs) = ((match env[v]? with
  | some e => plainS e
  | none => true) && plainE env vs) := rfl
@[simp] theorem inE_n {fi : List Nat} {i : Nat} : inE fi i [] = [] := rfl
@[simp] theorem inE_c {fi : List Nat} {i : Nat} {a : PV} {as : List PV} : inE fi i (a :: as) = (if i ∈ fi then .val a else .val a.frz) :: inE fi (i + 1) as := rfl
@[simp] theorem outP_n {fi : List Nat} {env : PEnv} {i : Nat} : outP fi env i [] = some [] := rfl
@[simp] theorem outP_c {fi : List Nat} {env : PEnv} {i : Nat} {a : PV} {as : List PV} : outP fi env i (a :: as) = (if i ∈ fi then (match env[i]? with | some (.val b) => some b | _ => none) else some a.frz).bind fun b => (outP fi env (i + 1) as).map (b :: ·) := by
  rw [outP]
  cases (if i ∈ fi then (match env[i]? with | some (.val b) => some b | _ => none) else some a.frz : Option PV) <;> rfl
@[simp] theorem exitE_val {fi : List Nat} {env : PEnv} {pv : PV} : exitE fi env (.val pv) = some (pv, env) := rfl
@[simp] theorem exitE_al {fi : List Nat} {env : PEnv} {k : Nat} : exitE fi env (.al k []) = if k ∈ fi then frzE env (.al k []) else (look env k []).map fun pv => (pv, env.set k .un) := by
  rw [exitE]
  by_cases h : k ∈ fi
  · rw [if_pos h, if_pos h]
  · rw [if_neg h, if_neg h]
    cases look env k [] <;> rfl
theorem wp_exit {n np : Nat} {fi : List Nat} {b : D Fl} {args : List PV} {R : PV → List PV → Prop} (hl : args.length = np)
    (h : WP b (inE fi 0 args ++ List.replicate (n - np) .un) fun f env => match f with
      | .rt e => gate (exitE fi env e) fun z => gate (outP fi z.2 0 args) fun as => R z.1 as
      | .nx => gate (outP fi env 0 args) fun as => R .non as
      | _ => False) : ∃ r as, mkfn n np fi b args = some (r, as) ∧ R r as := by
  obtain ⟨f, env, h1, h2⟩ := wp_of h
  unfold mkfn
  rw [if_pos hl, h1]
  cases f with
  | bk => exact h2.elim
  | ct => exact h2.elim
  | nx =>
    dsimp only at h2 ⊢
    cases e : outP fi env 0 args with
    | none => rw [e] at h2; exact h2.elim
    | some as => rw [e] at h2; exact ⟨_, _, rfl, h2⟩
  | rt r =>
    dsimp only at h2 ⊢
    cases e : exitE fi env r with
    | none => rw [e] at h2; exact h2.elim
    | some z =>
      rw [e] at h2
      obtain ⟨q, env1⟩ := z
      dsimp only at h2 ⊢
      rw [gate_some] at h2
      cases e2 : outP fi env1 0 args with
      | none => rw [e2] at h2; exact h2.elim
      | some as => rw [e2] at h2; exact ⟨_, _, rfl, h2⟩
/-- what a def tells of kept arguments -/
theorem fn_val {f : FnD} {args as : List PV} {r : PV} (h : ∃ q bs, f args = some (q, bs) ∧ q = r ∧ bs = as) : f args = some (r, as) := by
  obtain ⟨q, bs, h1, rfl, rfl⟩ := h
  exact h1
end Pv
namespace Pv
open PySem PySem.Spec PyProof.Rows L2
section
variable {a b : Int} {p q : PV} {xs ys : List PV} {o o' : Bool}
@[simp] theorem gAdd_int : gAdd [.int a, .int b] = some (.int (a + b)) := rfl
@[simp] theorem gAdd_tup : gAdd [.tup xs, .tup ys] = if xs.length + ys.length ≤ 16777216 then some (.tup (xs ++ ys)) else none := rfl
@[simp] theorem gAdd_lst : gAdd [.lst o xs, .lst o' ys] = if PV.fzs xs = true ∧ PV.fzs ys = true ∧ xs.length + ys.length ≤ 16777216 then some (.lst true (xs ++ ys)) else none := rfl
@[simp] theorem gSub_int : Pv.gSub [.int a, .int b] = some (.int (a - b)) := rfl
@[simp] theorem gMul_int : gMul [.int a, .int b] = if mulOk a b = true then some (.int (a * b)) else none := rfl
@[simp] theorem gMod_int : gMod [.int a, .int b] = if 0 < b then some (.int (a % b)) else none := rfl
@[simp] theorem gDiv_int : gDiv [.int a, .int b] = if 0 < b ∧ b.natAbs.log2 < 9000 then some (.int (a / b)) else none := rfl
@[simp] theorem gNeg_int : gNeg [.int a] = some (.int (-a)) := rfl
@[simp] theorem gLt_int : gLt [.int a, .int b] = some (.bl (decide (a < b))) := rfl
@[simp] theorem gGt_int : gGt [.int a, .int b] = some (.bl (decide (b < a))) := rfl
@[simp] theorem gLe_int : gLe [.int a, .int b] = some (.bl (decide (a ≤ b))) := rfl
@[simp] theorem gGe_int : gGe [.int a, .int b] = some (.bl (decide (b ≤ a))) := rfl
theorem peq_int : peq (.int a) (.int b) = some (decide (a = b)) := by
  have e : (a == b) = decide (a = b) := by rw [Bool.eq_iff_iff]; simp
  unfold peq
  simp [pd, SeqAt.shaped, PyData.eqv, PyData.canLay0, PyData.depth, e]
@[simp] theorem gEq_int : gEq [.int a, .int b] = some (.bl (decide (a = b))) := by
  show ((peq (.int a) (.int b)).map PV.bl) = _
  rw [peq_int]
  rfl
@[simp] theorem gNe_int : gNe [.int a, .int b] = some (.bl (!decide (a = b))) := by
  show ((peq (.int a) (.int b)).map fun b => PV.bl (!b)) = _
  rw [peq_int]
  rfl
@[simp] theorem gIs_non : gIs [p, .non] = some (.bl (isN p)) := by cases p <;> rfl
@[simp] theorem gIsNot_non : gIsNot [p, .non] = some (.bl (!isN p)) := by cases p <;> rfl
@[simp] theorem isN_non : isN .non = true := rfl
@[simp] theorem isN_int : isN (.int a) = false := rfl
@[simp] theorem isN_tup : isN (.tup xs) = false := rfl
@[simp] theorem isN_lst : isN (.lst o xs) = false := rfl
@[simp] theorem gLen_lst : gLen [.lst o xs] = some (.int xs.length) := rfl
@[simp] theorem gLen_tup : gLen [.tup xs] = some (.int xs.length) := rfl
@[simp] theorem gAbs_int : gAbs [.int a] = some (.int (if a < 0 then -a else a)) := rfl
@[simp] theorem gInt_int : gInt [.int a] = some (.int a) := rfl
@[simp] theorem gInt_bl {k : Bool} : gInt [.bl k] = some (.int (if k = true then 1 else 0)) := rfl
@[simp] theorem intsP_map {l : List Int} : intsP (l.map .int) = some l := by
  induction l with
  | nil => rfl
  | cons i l ih => rw [List.map_cons, intsP, ih]
@[simp] theorem blsP_map {l : List Bool} : blsP (l.map .bl) = some l := by
  induction l with
  | nil => rfl
  | cons i l ih => rw [List.map_cons, blsP, ih]
theorem blsP_of {α : Type} {f : α → Bool} {l : List α} : blsP (l.map fun x => .bl (f x)) = some (l.map f) := by
  have := blsP_map (l := l.map f)
  rwa [List.map_map] at this
@[simp] theorem gSum_lst : gSum [.lst o xs] = (intsP xs).map fun is => .int is.sum := rfl
@[simp] theorem gSum_tup : gSum [.tup xs] = (intsP xs).map fun is => .int is.sum := rfl
@[simp] theorem gAll_lst : gAll [.lst o xs] = (blsP xs).map fun bs => .bl (bs.all id) := rfl
@[simp] theorem gAny_lst : gAny [.lst o xs] = (blsP xs).map fun bs => .bl (bs.any id) := rfl
@[simp] theorem gTuple_lst : gTuple [.lst o xs] = if PV.fzs xs = true then some (.tup xs) else none := rfl
@[simp] theorem gTuple_tup : gTuple [.tup xs] = some (.tup xs) := rfl
@[simp] theorem gList_lst : gList [.lst o xs] = if PV.fzs xs = true then some (.lst true xs) else none := rfl
@[simp] theorem gList_tup : gList [.tup xs] = some (.lst true xs) := rfl
@[simp] theorem gMin_int : gMin [.int a, .int b] = some (.int (if b < a then b else a)) := rfl
@[simp] theorem gMax_int : gMax [.int a, .int b] = some (.int (if b > a then b else a)) := rfl
@[simp] theorem gAppend_one : gAppend xs [p] = if xs.length < 1000000 then some (xs ++ [p], .non) else none := rfl
@[simp] theorem gExtend_lst {zs : List PV} : gExtend xs [.lst o zs] = if xs.length + zs.length < 1000000 then some (xs ++ zs, .non) else none := rfl
@[simp] theorem cutO_tup {lo hi : Option Int} : cutO (some (.tup xs)) lo hi = some (.tup (cutP xs lo hi)) := rfl
@[simp] theorem cutO_lst {lo hi : Option Int} : cutO (some (.lst o xs)) lo hi = if PV.fzs xs = true then some (.lst true (cutP xs lo hi)) else none := rfl
@[simp] theorem revO_tup : revO (some (.tup xs)) = some (.tup xs.reverse) := rfl
@[simp] theorem revO_lst : revO (some (.lst o xs)) = if PV.fzs xs = true then some (.lst true xs.reverse) else none := rfl
@[simp] theorem zipO_lst : zipO [.lst o xs, .lst o' ys] = some ((xs.zip ys).map fun p => .tup [p.1, p.2]) := rfl
@[simp] theorem zipO_tup : zipO [.tup xs, .tup ys] = some ((xs.zip ys).map fun p => .tup [p.1, p.2]) := rfl
end
@[simp] theorem putE_def {env : PEnv} {j : Nat} {p : Path} {y : PV} : putE env j p y = (match env[j]? with
  | some (.val pv) => (env.map (kill j p)).set j (.val (pv.put p y))
  | _ => env) := rfl
@[simp] theorem kill_val {j : Nat} {p : Path} {pv : PV} : kill j p (.val pv) = .val pv := rfl
@[simp] theorem kill_un {j : Nat} {p : Path} : kill j p .un = .un := rfl
@[simp] theorem put_nil {x y : PV} : PV.put [] x y = y := by rw [PV.put]
/-- the comprehension's value -/
@[simp ↓] theorem wp_lc {di : D (List PV)} {t : Tg} {vs : List Nat} {tt : D Bool} {te : D Sl} {env : PEnv} {Q : Sl → PEnv → Prop} : WP (dlc di t vs tt te) env Q = WP di env fun ps e => WP (lcE t vs tt te ps) e Q := by
  unfold dlc
  rw [wp_bind]
@[simp ↓] theorem wp_lcE {t : Tg} {vs : List Nat} {tt : D Bool} {te : D Sl} {ps : List PV} {env : PEnv} {Q : Sl → PEnv → Prop} : WP (lcE t vs tt te ps) env Q = ((plainE env vs = true ∧ ps.length ≤ 1000000) ∧ WP (lcP (setT t) vs tt te ps []) (wipeE env vs) fun acc e => Q (.val (.lst true acc)) (backE env e vs)) := by
  unfold WP lcE
  by_cases h : plainE env vs = true ∧ ps.length ≤ 1000000
  · rw [if_pos h]
    cases lcP (setT t) vs tt te ps [] (wipeE env vs) <;> simp [h]
  · rw [if_neg h]; simp [h]

theorem wp_lcP {t : PV → PEnv → Option PEnv} {vs : List Nat} {tt : D Bool} {te : D Sl} {env : PEnv} {ps acc : List PV} {Q : List PV → PEnv → Prop} (c : PV → Bool) (g : PV → PV) (h : ∀ p ∈ ps, gate (t p env) fun e1 => WP tt e1 fun k e2 => k = c p ∧ if c p = true then WP te e2 fun r e3 => r = .val (g p) ∧ wipeE e3 vs = env else wipeE e2 vs = env)
    (q : Q (acc ++ (ps.filter c).map g) env) : WP (lcP t vs tt te ps acc) env Q := by
  unfold WP
  rw [lcP_pure c g h]
  exact q
/-- .. over things of a type -/
theorem wp_lcT {α : Type} {t : PV → PEnv → Option PEnv} {vs : List Nat} {tt : D Bool} {te : D Sl} {env : PEnv} {l : List α} {f : α → PV} {Q : List PV → PEnv → Prop} (c : α → Bool) (g : α → PV)
    (h : ∀ x ∈ l, gate (t (f x) env) fun e1 => WP tt e1 fun k e2 => k = c x ∧ if c x = true then WP te e2 fun r e3 => r = .val (g x) ∧ wipeE e3 vs = env else wipeE e2 vs = env)
    (q : Q ((l.filter c).map g) env) : WP (lcP t vs tt te (l.map f) []) env Q := by
  have go : ∀ (l : List α) (acc : List PV), (∀ x ∈ l, gate (t (f x) env) fun e1 => WP tt e1 fun k e2 => k = c x ∧ if c x = true then WP te e2 fun r e3 => r = .val (g x) ∧ wipeE e3 vs = env else wipeE e2 vs = env) → lcP t vs tt te (l.map f) acc env = .ok (acc ++ (l.filter c).map g) env := by
    intro l
    induction l with
    | nil => intro acc _; rw [List.map_nil, lcP]; simp
    | cons x l ih =>
      intro acc h
      have h1 := h x (by simp)
      have ih := fun acc => ih acc fun y hy => h y (by simp [hy])
      rw [List.map_cons, lcP]
      cases e1 : t (f x) env with
      | none => rw [e1] at h1; exact h1.elim
      | some env1 =>
        rw [e1, gate_some] at h1
        obtain ⟨k, e2, h2, rfl, h3⟩ := wp_of h1
        dsimp only
        rw [h2]
        cases hc : c x with
        | false =>
          rw [hc, if_neg Bool.false_ne_true] at h3
          dsimp only
          rw [h3, ih, List.filter_cons_of_neg (by simp [hc])]
        | true =>
          rw [hc, if_pos rfl] at h3
          obtain ⟨r, e3, h4, rfl, h5⟩ := wp_of h3
          dsimp only
          rw [h4]
          dsimp only [unalV]
          rw [h5, ih, List.filter_cons_of_pos hc]
          simp
  unfold WP
  rw [go l [] h]
  exact q
end Pv
namespace Pv
open PySem PySem.Spec PyProof.Rows L2
/-! ### how long a thing's text is -/
mutual
def tidy : PyData → Bool
  | .none | .bool _ => true
  | .int i => decide (i.natAbs < 10 ^ 12)
  | .str _ => false
  | .list xs | .tuple xs => tidyAll xs
  | .dict _ => false
def tidyAll : List PyData → Bool
  | [] => true
  | x :: xs => tidy x && tidyAll xs
end
mutual
def tx : PyData → Nat
  | .list xs | .tuple xs => txAll xs + 3
  | _ => 13
def txAll : List PyData → Nat
  | [] => 0
  | x :: xs => tx x + 2 + txAll xs
end
def Low (x : Str) : Prop := ∀ c ∈ x.cps.toList, c < 0x110000
theorem strOk_of {x : Str} (h : Low x) : PyData.strOk x = true := by
  unfold PyData.strOk
  rw [Array.all_eq_true_iff_forall_mem]
  intro c hc
  simpa using h c (Array.mem_toList_iff.mpr hc)
theorem low_app {x y : Str} (h : Low x) (k : Low y) : Low (x ++ y) := fun c hc => by
  rcases mem_cps_append.mp hc with h1 | h1
  · exact h c h1
  · exact k c h1
theorem low_of (s : String) : Low (Str.ofString s) := fun c hc => by
  rw [signs_ofString] at hc
  obtain ⟨ch, _, rfl⟩ := List.mem_map.mp hc
  have := ch.valid
  have e : ch.toNat = ch.val.toNat := rfl
  rw [e]
  rcases this with h | ⟨_, h⟩
  · have h' : ch.val.toNat < 55296 := h
    omega
  · exact h
theorem low_join {sep : Str} {ts : List Str} (hs : Low sep) (h : ∀ t ∈ ts, Low t) : Low (Str.join sep ts) := fun c hc => by
  rcases (mem_join sep c ts).mp hc with ⟨t, ht, h1⟩ | ⟨_, h1⟩
  · exact h t ht c h1
  · exact hs c h1
mutual
theorem low_shown : ∀ d : PyData, tidy d = true → Low d.shown
  | .none, _ => low_of "None"
  | .bool b, _ => by
    rw [PyData.shown_bool]
    cases b
    · exact low_of "False"
    · exact low_of "True"
  | .int i, _ => by
    rw [PyData.shown_int]
    exact low_of _
  | .str _, h => by simp [tidy] at h
  | .dict _, h => by simp [tidy] at h
  | .list xs, h => by
    simp only [PyData.shown]
    rw [listText_eq_join]
    exact low_app (low_app (low_of "[") (low_join (low_of ", ") (low_all xs (by simpa [tidy] using h)))) (low_of "]")
  | .tuple xs, h => by
    simp only [PyData.shown, tupleText]
    refine low_app (low_app (low_of "(") (low_join (low_of ", ") (low_all xs (by simpa [tidy] using h)))) ?_
    split
    · exact low_of ",)"
    · exact low_of ")"
theorem low_all : ∀ xs : List PyData, tidyAll xs = true → ∀ t ∈ PyData.shownAll xs, Low t
  | [], _, t, ht => by rw [PyData.shownAll_nil] at ht; exact absurd ht (by simp)
  | x :: xs, h, t, ht => by
    have h' : tidy x = true ∧ tidyAll xs = true := by simpa [tidyAll] using h
    rw [PyData.shownAll_cons, List.mem_cons] at ht
    rcases ht with rfl | ht
    · exact low_shown x h'.1
    · exact low_all xs h'.2 t ht
end
mutual
theorem tx_len : ∀ d : PyData, tidy d = true → d.shown.length ≤ tx d
  | .none, _ => by
    have e : (PyData.shown .none).length = 4 := rfl
    rw [e]; simp [tx]
  | .bool b, _ => by
    have e : (PyData.shown (.bool b)).length ≤ 5 := by cases b <;> decide
    simp only [tx]; omega
  | .int i, h => by
    have e : (PyData.shown (.int i)).length ≤ 13 := PyData.shown_int_le (by simpa [tidy] using h)
    simpa only [tx] using e
  | .str _, h => by simp [tidy] at h
  | .dict _, h => by simp [tidy] at h
  | .list xs, h => by
    have h1 := tx_lens xs (by simpa [tidy] using h)
    have h2 := listText_len_le (PyData.shownAll xs)
    have h3 := PyData.shownAll_length xs
    simp only [PyData.shown, tx]
    omega
  | .tuple xs, h => by
    have h1 := tx_lens xs (by simpa [tidy] using h)
    have h2 := tupleText_len_le (PyData.shownAll xs)
    have h3 := PyData.shownAll_length xs
    simp only [PyData.shown, tx]
    omega
theorem tx_lens : ∀ xs : List PyData, tidyAll xs = true → ((PyData.shownAll xs).map (·.length)).sum + 2 * xs.length ≤ txAll xs
  | [], _ => by simp [PyData.shownAll, txAll]
  | x :: xs, h => by
    have h' : tidy x = true ∧ tidyAll xs = true := by simpa [tidyAll] using h
    have h1 := tx_len x h'.1
    have h2 := tx_lens xs h'.2
    simp only [PyData.shownAll, txAll, List.map_cons, List.sum_cons, List.length_cons]
    omega
end
mutual
theorem tidy_show : ∀ d : PyData, tidy d = true → d.showable = true ∧ d.hasDict = false
  | .none, _ => ⟨rfl, rfl⟩
  | .bool b, _ => ⟨rfl, rfl⟩
  | .int i, h => by
    have h' : i.natAbs < 10 ^ 12 := by simpa [tidy] using h
    refine ⟨?_, rfl⟩
    simp only [PyData.showable, decide_eq_true_eq]
    by_cases h0 : i.natAbs = 0
    · rw [h0]; decide
    · rw [Nat.log2_lt h0]
      exact Nat.lt_of_lt_of_le h' (Nat.le_trans (by decide : (10 : Nat) ^ 12 ≤ 2 ^ 40) (Nat.pow_le_pow_right (by decide) (by decide)))
  | .str _, h => by simp [tidy] at h
  | .dict _, h => by simp [tidy] at h
  | .list xs, h => by
    have := tidy_shows xs (by simpa [tidy] using h)
    simpa only [PyData.showable, PyData.hasDict] using this
  | .tuple xs, h => by
    have := tidy_shows xs (by simpa [tidy] using h)
    simpa only [PyData.showable, PyData.hasDict] using this
theorem tidy_shows : ∀ xs : List PyData, tidyAll xs = true → PyData.showableAll xs = true ∧ PyData.hasDictAll xs = false
  | [], _ => ⟨rfl, rfl⟩
  | x :: xs, h => by
    have h' : tidy x = true ∧ tidyAll xs = true := by simpa [tidyAll] using h
    have h1 := tidy_show x h'.1
    have h2 := tidy_shows xs h'.2
    simp only [PyData.showableAll, PyData.hasDictAll, h1.1, h1.2, h2.1, h2.2]
    exact ⟨rfl, rfl⟩
end
/-- small, with a text of at most n signs, at most k deep -/
structure Tidy (d : PyData) (n k : Nat) : Prop where
  t : tidy d = true
  l : tx d ≤ n
  d : d.depth ≤ k
structure TidyAll (ds : List PyData) (n k : Nat) : Prop where
  t : tidyAll ds = true
  l : txAll ds ≤ n
  d : PyData.depthAll ds ≤ k
theorem Tidy.none : Tidy .none 13 0 := ⟨rfl, Nat.le_refl _, by simp [PyData.depth]⟩
theorem Tidy.bool {b : Bool} : Tidy (.bool b) 13 0 := ⟨rfl, Nat.le_refl _, by simp [PyData.depth]⟩
theorem Tidy.int {i : Int} (h1 : -1000000000000 < i) (h2 : i < 1000000000000) : Tidy (.int i) 13 0 := ⟨by
  simp only [tidy, decide_eq_true_eq]
  have : (10 : Nat) ^ 12 = 1000000000000 := by decide
  omega, Nat.le_refl _, by simp [PyData.depth]⟩
theorem TidyAll.nil {k : Nat} : TidyAll [] 0 k := ⟨rfl, Nat.le_refl _, by simp [PyData.depthAll]⟩
theorem TidyAll.cons {d : PyData} {ds : List PyData} {n m k : Nat} (h : Tidy d n k) (h2 : TidyAll ds m k) : TidyAll (d :: ds) (n + 2 + m) k :=
  ⟨by simp [tidyAll, h.t, h2.t], by have := h.l; have := h2.l; simp only [txAll]; omega, by have := h.d; have := h2.d; simp only [PyData.depthAll]; omega⟩
theorem Tidy.le {d : PyData} {n k n' k' : Nat} (h : Tidy d n k) (hn : n ≤ n') (hk : k ≤ k') : Tidy d n' k' := ⟨h.t, Nat.le_trans h.l hn, Nat.le_trans h.d hk⟩
theorem Tidy.tuple {ds : List PyData} {n k : Nat} (h : TidyAll ds n k) : Tidy (.tuple ds) (n + 3) (k + 1) := ⟨by simp [tidy, h.t], by have := h.l; simp only [tx]; omega, by have := h.d; simp only [PyData.depth]; omega⟩
theorem Tidy.list {ds : List PyData} {n k : Nat} (h : TidyAll ds n k) : Tidy (.list ds) (n + 3) (k + 1) := ⟨by simp [tidy, h.t], by have := h.l; simp only [tx]; omega, by have := h.d; simp only [PyData.depth]; omega⟩
theorem TidyAll.map {α : Type} {f : α → PyData} {n k : Nat} : ∀ {l : List α}, (∀ x ∈ l, Tidy (f x) n k) → TidyAll (l.map f) (l.length * (n + 2)) k
  | [], _ => by simpa using (TidyAll.nil (k := k))
  | a :: l, h => by
    have h1 := h a (by simp)
    have h2 := TidyAll.map (l := l) fun x hx => h x (by simp [hx])
    have h3 := TidyAll.cons h1 h2
    refine ⟨h3.t, Nat.le_trans h3.l ?_, h3.d⟩
    rw [List.length_cons, Nat.add_mul, Nat.one_mul]
    omega
theorem TidyAll.mapN {α : Type} {f : α → PyData} {n k m : Nat} {l : List α} (h : ∀ x ∈ l, Tidy (f x) n k) (hl : l.length ≤ m) : TidyAll (l.map f) (m * (n + 2)) k := by
  have h1 := TidyAll.map h
  exact ⟨h1.t, Nat.le_trans h1.l (Nat.mul_le_mul_right _ hl), h1.d⟩
theorem Tidy.small {d : PyData} {n k : Nat} (h : Tidy d n k) (hn : n ≤ 16777216) (hk : k ≤ 60) : isSmall d = true ∧ PyData.strOk d.shown = true := by
  have h1 := tidy_show d h.t
  have h2 := tx_len d h.t
  have := h.l
  have := h.d
  refine ⟨?_, strOk_of (low_shown d h.t)⟩
  unfold isSmall
  simp [h1.1, h1.2]
  omega
end Pv
namespace Pv
open PySem PySem.Spec PyProof.Rows L2
@[simp ↓] theorem wp_frz {d : D Sl} {env : PEnv} {Q : Sl → PEnv → Prop} : WP (dfrz d) env Q = WP d env fun a e => gate (frzE e a) fun r => Q (.val r.1) r.2 := by
  unfold dfrz
  rw [wp_bind]
  congr
  funext a e
  unfold WP dfrzE
  rw [frzEs]
  cases frzE e a with
  | none => rfl
  | some r => rfl
end Pv
namespace Pv
open PySem PySem.Spec PyProof.Rows L2
def isValS : Sl → Bool
  | .val _ => true
  | _ => false
@[simp] theorem isValS_val {p : PV} : isValS (.val p) = true := rfl
theorem bpos_vals {i : Nat} : ∀ {es : PEnv} {as : List PV}, es.all isValS = true → bpos es as i = none
  | [], as, _ => bpos_n
  | .val p :: es, [], _ => by unfold bpos; rfl
  | .val p :: es, a :: as, h => by
    rw [bpos_val]
    exact bpos_vals (by simpa using h)
  | .un :: es, _, h => by simp [isValS] at h
  | .al _ _ :: es, _, h => by simp [isValS] at h
@[simp] theorem wbS_vals {es : PEnv} {as : List PV} {i : Nat} {x : Sl} (h : es.all isValS = true) : wbS es as i x = x := by
  cases x with
  | val p => rw [wbS_val, bpos_vals h]; rfl
  | un => rw [wbS_un, bpos_vals h]
  | al j p => rw [wbS_al, bpos_vals h, bpos_vals h]
end Pv
namespace Pv
open PySem PySem.Spec PyProof.Rows L2
theorem outP_len {fi : List Nat} {env : PEnv} : ∀ {as bs : List PV} {i : Nat}, outP fi env i as = some bs → bs.length = as.length
  | [], bs, i, h => by
    rw [outP_n] at h
    cases h
    rfl
  | a :: as, bs, i, h => by
    rw [outP_c] at h
    obtain ⟨b, _, h⟩ := Option.bind_eq_some_iff.mp h
    obtain ⟨cs, e2, rfl⟩ := Option.map_eq_some_iff.mp h
    simp [outP_len e2]
theorem mkfn_out {n np : Nat} {fi : List Nat} {body : D Fl} {args as : List PV} {r : PV} (h : mkfn n np fi body args = some (r, as)) : as.length = args.length := by
  unfold mkfn at h
  split at h
  · split at h
    · split at h
      · split at h
        · rename_i h2
          cases h
          exact outP_len h2
        · cases h
      · cases h
    · split at h
      · rename_i h2
        cases h
        exact outP_len h2
      · cases h
    · cases h
  · cases h
end Pv
namespace Wk
open PySem PySem.Spec PyProof.Rows L2 Pv
abbrev Land := List (List Int)
/-- lists of things as trees, shut -/
def pis (l : List Int) : List PV := l.map .int
def pvRow (r : List Int) : PV := .tup (pis r)
def rowsP (L : Land) : List PV := L.map pvRow
def pvLand (L : Land) : PV := .tup (rowsP L)
def pvS (s : Int × Int) : PV := .tup [.int s.1, .int s.2]
def sps (l : List (Int × Int)) : List PV := l.map pvS
def rowAt (L : Land) (i : Int) : List Int := L.getD i.toNat []
def cellAt (r : List Int) (i : Int) : Int := r.getD i.toNat 0
def ht (L : Land) (s : Int × Int) : Int := cellAt (rowAt L s.1) s.2
@[simp] theorem fzs_i {l : List Int} : PV.fzs (pis l) = true := fzs_ints
@[simp] theorem fz_row {r : List Int} : (pvRow r).fz = true := by simp [pvRow]
@[simp] theorem fzs_r {L : Land} : PV.fzs (rowsP L) = true := fzs_map fun _ => fz_row
@[simp] theorem fz_land {L : Land} : (pvLand L).fz = true := by simp [pvLand]
@[simp] theorem fz_S {s : Int × Int} : (pvS s).fz = true := by simp [pvS]
@[simp] theorem fzs_s {l : List (Int × Int)} : PV.fzs (sps l) = true := fzs_map fun _ => fz_S
@[simp] theorem frz_row {r : List Int} : (pvRow r).frz = pvRow r := PV.frz_of_fz _ fz_row
@[simp] theorem frz_land {L : Land} : (pvLand L).frz = pvLand L := PV.frz_of_fz _ fz_land
@[simp] theorem frz_S {s : Int × Int} : (pvS s).frz = pvS s := PV.frz_of_fz _ fz_S
@[simp] theorem frzs_i {l : List Int} : PV.frzs (pis l) = pis l := frzs_of fzs_i
@[simp] theorem frzs_r {l : Land} : PV.frzs (rowsP l) = rowsP l := frzs_of fzs_r
@[simp] theorem frzs_s {l : List (Int × Int)} : PV.frzs (sps l) = sps l := frzs_of fzs_s
@[simp] theorem len_i {l : List Int} : (pis l).length = l.length := by simp [pis]
@[simp] theorem len_r {l : Land} : (rowsP l).length = l.length := by simp [rowsP]
@[simp] theorem len_s {l : List (Int × Int)} : (sps l).length = l.length := by simp [sps]
@[simp] theorem pis_app {a b : List Int} : pis a ++ pis b = pis (a ++ b) := by simp [pis]
@[simp] theorem rows_app {a b : Land} : rowsP a ++ rowsP b = rowsP (a ++ b) := by simp [rowsP]
@[simp] theorem sps_app {a b : List (Int × Int)} : sps a ++ sps b = sps (a ++ b) := by simp [sps]
@[simp] theorem pis_snoc {a : List Int} {v : Int} : pis a ++ [PV.int v] = pis (a ++ [v]) := by simp [pis]
@[simp] theorem pis_mid {a b : List Int} {v : Int} : pis a ++ PV.int v :: pis b = pis (a ++ v :: b) := by simp [pis]
@[simp] theorem rows_snoc {a : Land} {v : List Int} : rowsP a ++ [pvRow v] = rowsP (a ++ [v]) := by simp [rowsP]
@[simp] theorem rows_mid {a b : Land} {v : List Int} : rowsP a ++ pvRow v :: rowsP b = rowsP (a ++ v :: b) := by simp [rowsP]
@[simp] theorem intsP_i {l : List Int} : intsP (pis l) = some l := intsP_map
theorem atI_nat {α : Type} {xs : List α} {i : Int} (h0 : 0 ≤ i) (h1 : i < xs.length) (d : α) : atI xs i = some (xs.getD i.toNat d) := by
  unfold atI ixN
  rw [if_pos h0, if_pos h1]
  have : i.toNat < xs.length := by omega
  simp [List.getD, List.getElem?_eq_getElem this]
@[simp] theorem ixV_S0 {a : Sl} {s : Int × Int} : ixV a (some (pvS s)) (some (.int 0)) = some (.val (.int s.1)) := rfl
@[simp] theorem ixV_S1 {a : Sl} {s : Int × Int} : ixV a (some (pvS s)) (some (.int 1)) = some (.val (.int s.2)) := rfl
def InL (L : Land) (s : Int × Int) : Prop := 0 ≤ s.1 ∧ s.1 < L.length ∧ 0 ≤ s.2 ∧ s.2 < (rowAt L s.1).length
theorem ixV_land {a : Sl} {L : Land} {i : Int} (h0 : 0 ≤ i) (h1 : i < L.length) : ixV a (some (pvLand L)) (some (.int i)) = some (.val (pvRow (rowAt L i))) := by
  unfold pvLand ixV rowAt rowsP
  have e : atI (L.map pvRow) i = some (pvRow (L.getD i.toNat [])) := by
    rw [atI_nat h0 (by simpa using h1) (pvRow [])]
    simp [List.getD, List.getElem?_map]
  dsimp only
  rw [e]
  rfl
theorem ixV_row {a : Sl} {r : List Int} {i : Int} (h0 : 0 ≤ i) (h1 : i < r.length) : ixV a (some (pvRow r)) (some (.int i)) = some (.val (.int (cellAt r i))) := by
  unfold pvRow ixV cellAt pis
  have e : atI (r.map PV.int) i = some (.int (r.getD i.toNat 0)) := by
    rw [atI_nat h0 (by simpa using h1) (.int 0)]
    simp [List.getD, List.getElem?_map]
  dsimp only
  rw [e]
  rfl
set_option trace.profiler false
theorem sp_climb {L : Land} {a b : Int × Int} (ha : InL L a) (hb : InL L b) : f_ulaw_climb [pvLand L, pvS a, pvS b] = some (.int (ht L b - ht L a), [pvLand L, pvS a, pvS b]) := by
  obtain ⟨a1, a2, a3, a4⟩ := ha
  obtain ⟨b1, b2, b3, b4⟩ := hb
  refine fn_val (wp_exit rfl ?_)
  unfold b_ulaw_climb
  simp [ixV_land, ixV_row, ht, *]
end Wk
namespace Wk
open PySem PySem.Spec PyProof.Rows L2 Pv
def rowS (w : Nat) (r : Nat) : List (Int × Int) := (List.range w).map fun (c : Nat) => ((r : Int), (c : Int))
def spotsTo (w : Nat) : Nat → List (Int × Int)
  | 0 => []
  | n + 1 => spotsTo w n ++ rowS w n
def wid (L : Land) : Nat := (rowAt L 0).length
def spots (L : Land) : List (Int × Int) := spotsTo (wid L) L.length
@[simp] theorem gLen_land {L : Land} : gLen [pvLand L] = some (.int L.length) := by simp [pvLand]
@[simp] theorem gLen_row {r : List Int} : gLen [pvRow r] = some (.int r.length) := by simp [pvRow]
theorem rangeP0 {n : Nat} : rangeP 0 n 1 = (List.range n).map fun (k : Nat) => PV.int (k : Int) := by
  unfold rangeP
  refine List.map_congr_left fun k _ => ?_
  simp
theorem okB_nat {n : Nat} (h : n ≤ 1000000) : okB (n : Int) := by
  unfold okB
  constructor
  · omega
  · omega
theorem spotsTo_len {w : Nat} : ∀ n, (spotsTo w n).length = n * w
  | 0 => by simp [spotsTo]
  | n + 1 => by rw [spotsTo, List.length_append, spotsTo_len n, rowS, List.length_map, List.length_range, Nat.add_mul, Nat.one_mul]
theorem sp_all_spots {L : Land} (h1 : 0 < L.length) (h2 : L.length ≤ 100) (h3 : wid L ≤ 100) : f_all_spots [pvLand L] = some (.lst true (sps (spots L)), [pvLand L]) := by
  refine fn_val (wp_exit rfl ?_)
  unfold b_all_spots
  have hb : okB (L.length : Int) := okB_nat (by omega)
  have hw : okB ((rowAt L 0).length : Int) := okB_nat (by have : (rowAt L 0).length = wid L := rfl; omega)
  have h0 : (0 : Int) < L.length := by omega
  simp [hb, rangeP0]
  refine wp_forP (fun i e => ∃ x, e = [.val (pvLand L), .val (.lst true (sps (spotsTo (wid L) i))), x, .un]) (n := 0) ⟨.un, rfl⟩ (fun i p e hp ⟨x, he⟩ => ?_) (fun e ⟨x, he⟩ => ?_)
  · subst he
    obtain ⟨hi, rfl⟩ : i < L.length ∧ p = .int (i : Int) := by
      rw [List.getElem?_map] at hp
      cases e : (List.range L.length)[i]? with
      | none => rw [e] at hp; cases hp
      | some k =>
        rw [e] at hp
        obtain ⟨h1, h2⟩ := List.getElem?_eq_some_iff.mp e
        simp at h1 h2
        subst h2
        exact ⟨h1, (Option.some.inj hp).symm⟩
    have hw2 : wid L = (rowAt L 0).length := rfl
    simp [ixV_land, h1, hw, rangeP0]
    refine ⟨by omega, ?_⟩
    refine wp_lcT (f := fun (k : Nat) => PV.int (k : Int)) (fun _ => true) (fun k => pvS ((i : Int), (k : Int))) (fun k hk => ?_) ?_
    · simp [pvS]
    · have e5 : ((List.range (rowAt L 0).length).filter fun _ => true).map (fun (k : Nat) => pvS ((i : Int), (k : Int))) = sps (rowS (wid L) i) := by simp [sps, rowS, hw2]
      rw [e5]
      have h4 : (rowAt L 0).length ≤ 100 := h3
      have h5 : i * (rowAt L 0).length ≤ 100 * 100 := Nat.mul_le_mul (by omega) h4
      have e6 : (rowS (wid L) i).length = wid L := by simp [rowS]
      simp [spotsTo, spotsTo_len, e6]
      rw [hw2]
      omega
  · subst he
    simp [spots]
end Wk
namespace Wk
open PySem PySem.Spec PyProof.Rows L2 Pv
@[simp] theorem isi_int_int {i : Int} : gIsi [.int i, .ty "int"] = some (.bl true) := rfl
@[simp] theorem isi_int_bool {i : Int} : gIsi [.int i, .ty "bool"] = some (.bl false) := rfl
@[simp] theorem isi_tup_tuple {xs : List PV} : gIsi [.tup xs, .ty "tuple"] = some (.bl true) := rfl
@[simp] theorem isi_lst_tuple {o : Bool} {xs : List PV} : gIsi [.lst o xs, .ty "tuple"] = some (.bl false) := rfl
@[simp] theorem isi_non_tuple : gIsi [.non, .ty "tuple"] = some (.bl false) := rfl
theorem sp_is_integer {i : Int} : f_is_integer [.int i] = some (.bl true, [.int i]) := by
  refine fn_val (wp_exit rfl ?_)
  unfold b_is_integer
  simp
theorem sp_is_within {i a b : Int} : f_is_within [.int i, .int a, .int b] = some (.bl (decide (a ≤ i ∧ i ≤ b)), [.int i, .int a, .int b]) := by
  refine fn_val (wp_exit rfl ?_)
  unfold b_is_within
  simp [sp_is_integer]
  by_cases h : a ≤ i <;> simp [h]
theorem sp_is_height {i : Int} : f_is_height [.int i] = some (.bl (decide (0 ≤ i ∧ i ≤ 1000)), [.int i]) := by
  refine fn_val (wp_exit rfl ?_)
  unfold b_is_height
  simp [sp_is_within]
def rowOk (r : List Int) : Bool := decide (1 ≤ r.length ∧ r.length ≤ 8) && r.all fun i => decide (0 ≤ i ∧ i ≤ 1000)
theorem fn_ex {f : FnD} {args : List PV} {R : PV → List PV → Prop} (h : ∃ r as, f args = some (r, as) ∧ R r as) : gate (f args) fun z => R z.1 z.2 := by
  obtain ⟨r, as, h1, h2⟩ := h
  rw [h1]
  exact h2
theorem sp_is_row {r : List Int} (hr : r.length ≤ 1000) : f_is_row [pvRow r] = some (.bl (rowOk r), [pvRow r]) := by
  refine fn_val (wp_exit rfl ?_)
  unfold b_is_row
  simp [pvRow]
  by_cases h : 1 ≤ r.length
  · by_cases h8 : r.length ≤ 8
    · have e1 : (1 : Int) ≤ r.length := by omega
      have e2 : (r.length : Int) ≤ 8 := by omega
      simp [e1, e2]
      refine ⟨by omega, ?_⟩
      refine wp_lcT (fun _ => true) (fun i => .bl (decide (0 ≤ i ∧ i ≤ 1000))) (fun k hk => ?_) ?_
      · simp [sp_is_height]
      · simp [rowOk, h, h8, blsP_of]
    · have e1 : (1 : Int) ≤ r.length := by omega
      have e2 : ¬ (r.length : Int) ≤ 8 := by omega
      simp [e1, e2, rowOk, h8]
  · have e1 : ¬ (1 : Int) ≤ r.length := by omega
    simp [e1, rowOk, h]
end Wk
namespace Wk
open PySem PySem.Spec PyProof.Rows L2 Pv
def landOk (L : Land) : Bool := decide (1 ≤ L.length ∧ L.length ≤ 8) && (L.all rowOk && L.all fun r => decide (r.length = wid L))
theorem rowOk_len {r : List Int} (h : rowOk r = true) : r.length ≤ 8 := by
  simp [rowOk] at h
  exact h.1.2
theorem rowOk_pos {r : List Int} (h : rowOk r = true) : 1 ≤ r.length := by
  simp [rowOk] at h
  exact h.1.1
theorem sp_is_land {L : Land} (hr : ∀ r ∈ L, r.length ≤ 1000) (hl : L.length ≤ 1000) : f_is_land [pvLand L] = some (.bl (landOk L), [pvLand L]) := by
  refine fn_val (wp_exit rfl ?_)
  unfold b_is_land
  simp [pvLand]
  by_cases h : 1 ≤ L.length
  · by_cases h8 : L.length ≤ 8
    · have e1 : (1 : Int) ≤ L.length := by omega
      have e2 : (L.length : Int) ≤ 8 := by omega
      simp [e1, e2]
      refine ⟨by omega, ?_⟩
      refine wp_lcT (fun _ => true) (fun r => .bl (rowOk r)) (fun k hk => ?_) ?_
      · simp [sp_is_row (hr k hk)]
      · simp [blsP_of]
        by_cases ha : L.all rowOk = true
        · have ha' : ∀ x ∈ L, rowOk x = true := by simpa using ha
          rw [if_pos ha']
          refine ⟨by omega, ?_⟩
          refine wp_lcT (fun _ => true) (fun r => .bl (decide (r.length = wid L))) (fun k hk => ?_) ?_
          · have e3 := ixV_land (L := L) (a := .val (pvLand L)) (i := 0) (by omega) (by omega)
            unfold pvLand at e3
            simp [e3, wid]
            exact decide_eq_decide.mpr (by omega)
          · have ha2 : (L.all rowOk) = true := ha
            simp [blsP_of, landOk, h, h8]
            intro _
            exact ha'
        · have ha' : ¬ ∀ x ∈ L, rowOk x = true := by simpa using ha
          rw [if_neg ha']
          simp [landOk]
          intro _ _ h
          exact absurd h ha'
    · have e1 : (1 : Int) ≤ L.length := by omega
      have e2 : ¬ (L.length : Int) ≤ 8 := by omega
      simp [e1, e2, landOk, h8]
  · have e1 : ¬ (1 : Int) ≤ L.length := by omega
    simp [e1, landOk, h]
end Wk
namespace Wk
open PySem PySem.Spec PyProof.Rows L2 Pv
theorem landOk_len {L : Land} (h : landOk L = true) : 1 ≤ L.length ∧ L.length ≤ 8 := by
  simp [landOk] at h
  exact h.1
theorem landOk_row {L : Land} (h : landOk L = true) : ∀ r ∈ L, r.length = wid L ∧ rowOk r = true := by
  simp [landOk] at h
  exact fun r hr => ⟨h.2.2 r hr, h.2.1 r hr⟩
theorem rowAt_mem {L : Land} {i : Int} (h0 : 0 ≤ i) (h1 : i < L.length) : rowAt L i ∈ L := by
  unfold rowAt
  have : i.toNat < L.length := by omega
  simp [List.getD, List.getElem?_eq_getElem this]
theorem landOk_wid {L : Land} (h : landOk L = true) : 1 ≤ wid L ∧ wid L ≤ 8 := by
  have h1 := landOk_len h
  have h2 := landOk_row h (rowAt L 0) (rowAt_mem (by omega) (by omega))
  have h3 := rowOk_len h2.2
  have h4 := rowOk_pos h2.2
  exact ⟨h4, h3⟩
theorem sp_is_land' {L : Land} (h : landOk L = true) : f_is_land [pvLand L] = some (.bl true, [pvLand L]) := by
  rw [sp_is_land (fun r hr => by have := rowOk_len (landOk_row h r hr).2; omega) (by have := landOk_len h; omega), h]
theorem sp_check_land {L : Land} (h : landOk L = true) : f_check_land [pvLand L] = some (.non, [pvLand L]) := by
  refine fn_val (wp_exit rfl ?_)
  unfold b_check_land
  simp [sp_is_land' h]
theorem sp_height_of {L : Land} {s : Int × Int} (h : InL L s) : f_height_of [pvLand L, pvS s] = some (.int (ht L s), [pvLand L, pvS s]) := by
  obtain ⟨a1, a2, a3, a4⟩ := h
  refine fn_val (wp_exit rfl ?_)
  unfold b_height_of
  simp [ixV_land, ixV_row, ht, *]
/-- within the land's sides -/
def inB (L : Land) (s : Int × Int) : Bool := decide ((0 ≤ s.1 ∧ s.1 < L.length) ∧ (0 ≤ s.2 ∧ s.2 < wid L))
theorem ixV_land0 {a : Sl} {L : Land} (h : 1 ≤ L.length) : ixV a (some (pvLand L)) (some (.int 0)) = some (.val (pvRow (rowAt L 0))) := ixV_land (by omega) (by omega)
theorem sp_is_on_land {L : Land} {s : Int × Int} (h : 1 ≤ L.length) : f_is_on_land [pvLand L, pvS s] = some (.bl (inB L s), [pvLand L, pvS s]) := by
  have hw : wid L = (rowAt L 0).length := rfl
  refine fn_val (wp_exit rfl ?_)
  unfold b_is_on_land
  simp [ixV_land0 h]
  by_cases h1 : 0 ≤ s.1
  · by_cases h2 : s.1 < (L.length : Int)
    · by_cases h3 : 0 ≤ s.2
      · simp [h1, h2, h3, inB, hw]
      · simp [h1, h2, h3, inB, hw]
    · simp [h1, h2, inB, hw]
  · simp [h1, inB, hw]
@[simp] theorem mulOk_one {a : Int} : mulOk 1 a = true := by simp [mulOk]
theorem sp_stepped {s d : Int × Int} : f_stepped [pvS s, pvS d, .int 1] = some (pvS (s.1 + d.1, s.2 + d.2), [pvS s, pvS d, .int 1]) := by
  refine fn_val (wp_exit rfl ?_)
  unfold b_stepped
  simp
  simp [pvS]
def sidesL : List (Int × Int) := [(-1, 0), (0, -1), (0, 1), (1, 0)]
def sidesOf (s : Int × Int) : List (Int × Int) := sidesL.map fun d => (s.1 + d.1, s.2 + d.2)
def beside (L : Land) (s : Int × Int) : List (Int × Int) := (sidesOf s).filter (inB L)
theorem sides_pv : ([.tup [.int (-1), .int 0], .tup [.int 0, .int (-1)], .tup [.int 0, .int 1], .tup [.int 1, .int 0]] : List PV) = sidesL.map pvS := rfl
theorem sp_spots_beside {L : Land} {s : Int × Int} (h : 1 ≤ L.length) : f_spots_beside [pvLand L, pvS s] = some (.lst true (sps (beside L s)), [pvLand L, pvS s]) := by
  refine fn_val (wp_exit rfl ?_)
  unfold b_spots_beside
  simp
  rw [sides_pv]
  refine wp_lcT (fun _ => true) (fun d => pvS (s.1 + d.1, s.2 + d.2)) (fun k hk => ?_) ?_
  · simp [sp_stepped]
  · simp
    refine ⟨by simp [sidesL], ?_⟩
    have e : (sidesL.map fun d => pvS (s.1 + d.1, s.2 + d.2)) = (sidesOf s).map pvS := by simp [sidesOf]
    rw [e]
    refine wp_lcT (inB L) (fun d => pvS d) (fun k hk => ?_) ?_
    · simp [sp_is_on_land h]
    · simp [beside, sps]
end Wk
namespace Wk
open PySem PySem.Spec PyProof.Rows L2 Pv
def ltS (a b : Int × Int) : Bool := decide (a.1 < b.1) || (decide (a.1 = b.1) && decide (a.2 < b.2))
theorem dataLt_S {a b : Int × Int} : PySem.W.dataLt (.tuple [.int a.1, .int a.2]) (.tuple [.int b.1, .int b.2]) = ltS a b := by
  unfold PySem.W.dataLt
  simp only [PySem.W.keyToks, PySem.W.keyToksAll, List.cons_append, List.nil_append]
  rw [PyProof.Rows.lex_self, PyProof.Rows.lex_cons]
  have e : ∀ x y : Int, itemOrd.blt (Sum.inl x) (Sum.inl y) = decide (x < y) := fun x y => rfl
  rw [e, e, PyProof.Rows.lex_self, PyProof.Rows.lex_cons, e, e]
  unfold ltS
  by_cases h1 : a.1 < b.1
  · simp [h1]
  · by_cases h2 : b.1 < a.1
    · have : ¬ a.1 = b.1 := by omega
      simp [h1, h2, this]
    · have : a.1 = b.1 := by omega
      simp [h1, h2, this]
      by_cases h3 : a.2 < b.2
      · simp [h3]
      · simp [h3]
        intro _
        rfl
theorem gLt_S {a b : Int × Int} : gLt [pvS a, pvS b] = some (.bl (ltS a b)) := by
  have h1 : pd (pvS a) = some (.tuple [.int a.1, .int a.2]) := rfl
  have h2 : pd (pvS b) = some (.tuple [.int b.1, .int b.2]) := rfl
  show (match pd (pvS a), pd (pvS b) with
    | some x, some y => if cmpOk x y = true then some (PV.bl (PySem.W.dataLt x y)) else none
    | _, _ => none) = _
  rw [h1, h2]
  have h3 : cmpOk (.tuple [.int a.1, .int a.2]) (.tuple [.int b.1, .int b.2]) = true := by
    simp [cmpOk, ndN, PySem.W.alike, PySem.W.alikeAll, PyData.depth, PyData.depthAll]
  dsimp only
  rw [if_pos h3]
  rw [dataLt_S]
theorem cutP_to {xs : List PV} {i : Int} (h0 : 0 ≤ i) (h1 : i ≤ xs.length) : cutP xs none (some i) = xs.take i.toNat := by
  have h2 : ¬ i < 0 := by omega
  unfold cutP HT.sIx
  simp [h2]
theorem cutP_from {xs : List PV} {i : Int} (h0 : 0 ≤ i) (h1 : i ≤ xs.length) : cutP xs (some i) none = xs.drop i.toNat := by
  have h2 : ¬ i < 0 := by omega
  unfold cutP HT.sIx
  simp [h2]
  rw [Nat.min_eq_left (by omega)]
  exact List.take_of_length_le (by rw [List.length_drop]; exact Nat.le_refl _)
end Wk
namespace Wk
open PySem PySem.Spec PyProof.Rows L2 Pv
theorem map_get {α : Type} {f : α → PV} {l : List α} {i : Nat} {p : PV} (h : (l.map f)[i]? = some p) : ∃ x, l[i]? = some x ∧ p = f x := by
  rw [List.getElem?_map] at h
  cases e : l[i]? with
  | none => rw [e] at h; cases h
  | some x => rw [e] at h; exact ⟨x, rfl, (Option.some.inj h).symm⟩
theorem take_snoc {α : Type} {l : List α} {i : Nat} {x : α} (h : l[i]? = some x) : l.take (i + 1) = l.take i ++ [x] := by
  rw [List.take_add_one, h]
  rfl
def hts (L : Land) : List Int := L.flatten
theorem sp_all_heights {L : Land} (h : L.flatten.length ≤ 10000) : f_all_heights [pvLand L] = some (.lst true (pis (hts L)), [pvLand L]) := by
  refine fn_val (wp_exit rfl ?_)
  unfold b_all_heights
  simp [pvLand]
  refine wp_forP (fun i e => ∃ x, e = [.val (.tup (rowsP L)), .val (.lst true (pis ((L.take i).flatten))), x]) (n := 0) ⟨.un, by simp [pis]⟩ (fun i p e hp ⟨x, he⟩ => ?_) (fun e ⟨x, he⟩ => ?_)
  · subst he
    obtain ⟨r, hr, rfl⟩ := map_get hp
    have hle : (L.take i).flatten.length + r.length ≤ L.flatten.length := by
      have e1 : L = L.take (i + 1) ++ L.drop (i + 1) := (List.take_append_drop _ _).symm
      have e2 : L.flatten.length = (L.take (i + 1)).flatten.length + (L.drop (i + 1)).flatten.length := by
        rw [← List.length_append, ← List.flatten_append, ← e1]
      rw [take_snoc hr, List.flatten_append, List.length_append] at e2
      have e3 : ([r] : Land).flatten.length = r.length := by rw [List.flatten_singleton]
      omega
    have e4 : (L.take i).flatten ++ r = (L.take (i + 1)).flatten := by rw [take_snoc hr, List.flatten_append, List.flatten_singleton]
    generalize hA : (L.take i).flatten = A at hle e4
    have hb : A.length + r.length < 1000000 := by omega
    simp [pvRow, hA, hb, e4]
  · subst he
    simp [hts]
theorem gAdd_row1 {a : List Int} {v : Int} : gAdd [pvRow a, .tup [.int v]] = if a.length + 1 ≤ 16777216 then some (pvRow (a ++ [v])) else none := by
  unfold pvRow
  rw [gAdd_tup, len_i, pis_snoc]
  rfl
theorem gAdd_row {a b : List Int} : gAdd [pvRow a, pvRow b] = if a.length + b.length ≤ 16777216 then some (pvRow (a ++ b)) else none := by
  unfold pvRow
  rw [gAdd_tup, len_i, len_i, pis_app]
theorem gAdd_land1 {a : Land} {v : List Int} : gAdd [pvLand a, .tup [pvRow v]] = if a.length + 1 ≤ 16777216 then some (pvLand (a ++ [v])) else none := by
  unfold pvLand
  rw [gAdd_tup, len_r, rows_snoc]
  rfl
theorem gAdd_land {a b : Land} : gAdd [pvLand a, pvLand b] = if a.length + b.length ≤ 16777216 then some (pvLand (a ++ b)) else none := by
  unfold pvLand
  rw [gAdd_tup, len_r, len_r, rows_app]
def setC (L : Land) (s : Int × Int) (v : Int) : Land := L.set s.1.toNat ((rowAt L s.1).set s.2.toNat v)
theorem sp_with_height {L : Land} {s : Int × Int} {v : Int} (h : InL L s) (h8 : L.length ≤ 100) (hw : (rowAt L s.1).length ≤ 100) : f_with_height [pvLand L, pvS s, .int v] = some (pvLand (setC L s v), [pvLand L, pvS s, .int v]) := by
  obtain ⟨a1, a2, a3, a4⟩ := h
  refine fn_val (wp_exit rfl ?_)
  unfold b_with_height
  simp [ixV_land, *]
  have hs : (s.2 + 1).toNat = s.2.toNat + 1 := by omega
  have hs1 : (s.1 + 1).toNat = s.1.toNat + 1 := by omega
  have e1 : cutO (some (pvRow (rowAt L s.1))) none (some s.2) = some (pvRow ((rowAt L s.1).take s.2.toNat)) := by
    unfold pvRow pis
    rw [cutO_tup, cutP_to a3 (by simp; omega), List.map_take]
  have e2 : cutO (some (pvRow (rowAt L s.1))) (some (s.2 + 1)) none = some (pvRow ((rowAt L s.1).drop (s.2.toNat + 1))) := by
    unfold pvRow pis
    rw [cutO_tup, cutP_from (by omega) (by simp; omega), List.map_drop, hs]
  have e3 : cutO (some (pvLand L)) none (some s.1) = some (pvLand (L.take s.1.toNat)) := by
    unfold pvLand rowsP
    rw [cutO_tup, cutP_to a1 (by simp; omega), List.map_take]
  have e4 : cutO (some (pvLand L)) (some (s.1 + 1)) none = some (pvLand (L.drop (s.1.toNat + 1))) := by
    unfold pvLand rowsP
    rw [cutO_tup, cutP_from (by omega) (by simp; omega), List.map_drop, hs1]
  have t1 : (rowAt L s.1).take s.2.toNat ++ v :: (rowAt L s.1).drop (s.2.toNat + 1) = (rowAt L s.1).set s.2.toNat v := by
    rw [List.set_eq_take_append_cons_drop, if_pos (by omega)]
  have t2 : L.take s.1.toNat ++ (rowAt L s.1).set s.2.toNat v :: L.drop (s.1.toNat + 1) = setC L s v := by
    unfold setC
    generalize (rowAt L s.1).set s.2.toNat v = R
    rw [List.set_eq_take_append_cons_drop, if_pos (by omega)]
  have l1 : ((rowAt L s.1).take s.2.toNat).length ≤ 100 := by rw [List.length_take]; omega
  have l2 : ((rowAt L s.1).drop (s.2.toNat + 1)).length ≤ 100 := by rw [List.length_drop]; omega
  have l3 : (L.take s.1.toNat).length ≤ 100 := by rw [List.length_take]; omega
  have l4 : (L.drop (s.1.toNat + 1)).length ≤ 100 := by rw [List.length_drop]; omega
  generalize (rowAt L s.1).take s.2.toNat = A at e1 t1 l1
  generalize (rowAt L s.1).drop (s.2.toNat + 1) = B at e2 t1 l2
  generalize L.take s.1.toNat = C at e3 t2 l3
  generalize L.drop (s.1.toNat + 1) = E at e4 t2 l4
  have b1 : A.length + 1 ≤ 16777216 := by omega
  have b2 : (A ++ [v]).length + B.length ≤ 16777216 := by simp; omega
  have b3 : C.length + 1 ≤ 16777216 := by omega
  have t1' : A ++ [v] ++ B = (rowAt L s.1).set s.2.toNat v := by rw [← t1]; simp
  have t2' : ∀ R, C ++ [R] ++ E = C ++ R :: E := fun R => by simp
  simp only [e1, gateO_some, gAdd_row1, if_pos b1, e2, gAdd_row, if_pos b2, t1', e3, fz_row, if_true, frzEs_val, frzEs_nil, Option.map_some, frz_row, gAdd_land1, if_pos b3]
  simp [e4, gAdd_land, t2', t2]
  omega
end Wk
namespace Wk
open PySem PySem.Spec PyProof.Rows L2 Pv
abbrev Spt := Int × Int
abbrev Pr := Spt × Spt
def pvP (p : Pr) : PV := .tup [pvS p.1, pvS p.2]
def prs (l : List Pr) : List PV := l.map pvP
@[simp] theorem fz_P {p : Pr} : (pvP p).fz = true := by simp [pvP]
@[simp] theorem frz_P {p : Pr} : (pvP p).frz = pvP p := PV.frz_of_fz _ fz_P
@[simp] theorem fzs_P {l : List Pr} : PV.fzs (prs l) = true := fzs_map fun _ => fz_P
@[simp] theorem frzs_P {l : List Pr} : PV.frzs (prs l) = prs l := frzs_of fzs_P
@[simp] theorem len_P {l : List Pr} : (prs l).length = l.length := by simp [prs]
@[simp] theorem prs_app {a b : List Pr} : prs a ++ prs b = prs (a ++ b) := by simp [prs]
theorem spots_in {L : Land} {w : Nat} (hr : ∀ r ∈ L, r.length = w) (hw : w = wid L) {s : Spt} (h : s ∈ spots L) : InL L s ∧ inB L s = true := by
  have key : ∀ n, n ≤ L.length → ∀ s ∈ spotsTo (wid L) n, (0 ≤ s.1 ∧ s.1 < n) ∧ 0 ≤ s.2 ∧ s.2 < wid L := by
    intro n
    induction n with
    | zero => intro _ s hs; simp [spotsTo] at hs
    | succ n ih =>
      intro hn s hs
      rw [spotsTo, List.mem_append] at hs
      rcases hs with hs | hs
      · obtain ⟨⟨h1, h2⟩, h3⟩ := ih (by omega) s hs
        exact ⟨⟨h1, by omega⟩, h3⟩
      · simp [rowS] at hs
        obtain ⟨c, hc, rfl⟩ := hs
        exact ⟨⟨by simp, by simp; omega⟩, by simp, by simpa using hc⟩
  obtain ⟨⟨h1, h2⟩, h3, h4⟩ := key L.length (Nat.le_refl _) s h
  have h5 : (rowAt L s.1).length = wid L := by rw [← hw]; exact hr _ (rowAt_mem h1 h2)
  exact ⟨⟨h1, h2, h3, by rw [h5]; exact h4⟩, by simp [inB, h1, h2, h3, h4]⟩
theorem inB_in {L : Land} {w : Nat} (hr : ∀ r ∈ L, r.length = w) (hw : w = wid L) {s : Spt} (h : inB L s = true) : InL L s := by
  simp [inB] at h
  obtain ⟨⟨h1, h2⟩, h3, h4⟩ := h
  have h5 : (rowAt L s.1).length = wid L := by rw [← hw]; exact hr _ (rowAt_mem h1 h2)
  exact ⟨h1, h2, h3, by rw [h5]; exact h4⟩
/-- a land as the program takes it -/
structure LandIs (L : Land) (w : Nat) : Prop where
  row : ∀ r ∈ L, r.length = w
  wd : w = wid L
  h1 : 1 ≤ L.length
  h2 : L.length ≤ 8
  w2 : w ≤ 8
def pairsAt (L : Land) (s : Spt) : List Pr := ((beside L s).filter (ltS s)).map fun o => (s, o)
def pairsTo (L : Land) (l : List Spt) : List Pr := (l.map (pairsAt L)).flatten
def pairs (L : Land) : List Pr := pairsTo L (spots L)
theorem beside_len {L : Land} {s : Spt} : (beside L s).length ≤ 4 := by
  unfold beside
  refine Nat.le_trans (List.length_filter_le _ _) ?_
  simp [sidesOf, sidesL]
theorem pairsAt_len {L : Land} {s : Spt} : (pairsAt L s).length ≤ 4 := by
  unfold pairsAt
  rw [List.length_map]
  exact Nat.le_trans (List.length_filter_le _ _) beside_len
theorem flat_len {α β : Type} {f : α → List β} {k : Nat} (h : ∀ a, (f a).length ≤ k) : ∀ l : List α, (l.map f).flatten.length ≤ k * l.length
  | [] => by simp
  | a :: l => by
    rw [List.map_cons, List.flatten_cons, List.length_append, List.length_cons, Nat.mul_add, Nat.mul_one]
    have := flat_len h l
    have := h a
    omega
theorem spots_len {L : Land} {w : Nat} (h : LandIs L w) : (spots L).length ≤ 64 := by
  unfold spots
  rw [spotsTo_len]
  have h3 := h.wd
  have h4 := h.w2
  have := Nat.mul_le_mul h.h2 h4
  rw [← h3]
  omega
theorem sp_pairs_beside {L : Land} {w : Nat} (h : LandIs L w) : f_pairs_beside [pvLand L] = some (.lst true (prs (pairs L)), [pvLand L]) := by
  have hw := h.wd
  have h8 := h.w2
  have hn := spots_len h
  refine fn_val (wp_exit rfl ?_)
  unfold b_pairs_beside
  simp [sp_all_spots (L := L) (by have := h.h1; omega) (by have := h.h2; omega) (by omega)]
  refine wp_forP (fun i e => ∃ x, e = [.val (pvLand L), .val (.lst true (prs (pairsTo L ((spots L).take i)))), x, .un]) (n := 0) ⟨.un, by simp [pairsTo, prs]⟩ (fun i p e hp ⟨x, he⟩ => ?_) (fun e ⟨x, he⟩ => ?_)
  · subst he
    obtain ⟨s, hs, rfl⟩ := map_get hp
    have e1 : pairsTo L ((spots L).take (i + 1)) = pairsTo L ((spots L).take i) ++ pairsAt L s := by
      rw [take_snoc hs]
      simp [pairsTo]
    have e2 : (pairsTo L ((spots L).take i)).length ≤ 256 := by
      refine Nat.le_trans (flat_len (fun a => pairsAt_len) _) ?_
      rw [List.length_take]
      omega
    have e3 := pairsAt_len (L := L) (s := s)
    have e4 := beside_len (L := L) (s := s)
    simp [sp_spots_beside h.h1]
    refine ⟨by omega, ?_⟩
    refine wp_lcT (ltS s) (fun o => pvP (s, o)) (fun k hk => ?_) ?_
    · simp [gLt_S]
      simp [pvP]
    · have e5 : ((beside L s).filter (ltS s)).map (fun o => pvP (s, o)) = prs (pairsAt L s) := by simp [prs, pairsAt]
      rw [e5]
      generalize pairsTo L ((spots L).take i) = A at e1 e2
      generalize pairsAt L s = B at e1 e3
      simp [e1]
      omega
  · subst he
    simp [pairs]
def iabs (a : Int) : Int := if a < 0 then -a else a
def stepB (L : Land) (p : Pr) : Int := iabs (ht L p.1 - ht L p.2)
theorem sp_step_between {L : Land} {a b : Spt} (ha : InL L a) (hb : InL L b) : f_step_between [pvLand L, pvS a, pvS b] = some (.int (stepB L (a, b)), [pvLand L, pvS a, pvS b]) := by
  refine fn_val (wp_exit rfl ?_)
  unfold b_step_between
  simp [sp_height_of ha, sp_height_of hb, stepB, iabs]
end Wk
namespace Wk
open PySem PySem.Spec PyProof.Rows L2 Pv
theorem dataLt_int {a b : Int} : PySem.W.dataLt (.int a) (.int b) = decide (a < b) := by
  unfold PySem.W.dataLt
  simp only [PySem.W.keyToks]
  rw [PyProof.Rows.lex_cons]
  have e : ∀ x y : Int, itemOrd.blt (Sum.inl x) (Sum.inl y) = decide (x < y) := fun x y => rfl
  rw [e, e]
  by_cases h : a < b
  · simp [h]
  · simp [h]
    intro _
    rfl
def maxL (i : Int) (is : List Int) : Int := is.foldl (fun a y => if a < y then y else a) i
theorem maxP_i {i : Int} {is : List Int} : maxP (.int i) (pis is) = .int (maxL i is) := by
  unfold maxP maxL
  induction is generalizing i with
  | nil => rfl
  | cons y is ih =>
    show List.foldl _ (if PySem.W.dataLt (pdD (.int i)) (pdD (.int y)) = true then PV.int y else .int i) (pis is) = _
    have e : PySem.W.dataLt (pdD (.int i)) (pdD (.int y)) = decide (i < y) := dataLt_int
    rw [e, List.foldl_cons]
    by_cases h : i < y
    · simp only [h, decide_true, if_true]; exact ih
    · simp only [h, decide_false, Bool.false_eq_true, if_false]; exact ih
theorem pds_i : ∀ l : List Int, pds (pis l) = some (l.map .int)
  | [] => rfl
  | i :: l => by
    show pds (.int i :: pis l) = _
    rw [pds, pds_i l]
    rfl
theorem cmpAll_i {l : List Int} : cmpAll (pis l) = true := by
  unfold cmpAll
  rw [pds_i]
  have h1 : alikes (l.map PyData.int) = true := by
    unfold alikes
    simp [List.all_map]
    intro x _ y _
    rfl
  have h2 : (l.map PyData.int).all ndN = true := by
    simp [List.all_map]
    intro x _
    rfl
  have h3 : PyData.depthAll (l.map PyData.int) ≤ 60 := by
    have : ∀ l : List Int, PyData.depthAll (l.map PyData.int) ≤ 1 := by
      intro l
      induction l with
      | nil => simp [PyData.depthAll]
      | cons i l ih =>
        simp only [List.map_cons, PyData.depthAll]
        simp [PyData.depth]
        omega
    exact Nat.le_trans (this l) (by omega)
  simp [h1, h2, h3]
theorem gMax_i {o : Bool} {i : Int} {is : List Int} : gMax [.lst o (PV.int i :: pis is)] = some (.int (maxL i is)) := by
  have h : cmpAll (PV.int i :: pis is) = true := cmpAll_i (l := i :: is)
  show (if cmpAll (PV.int i :: pis is) = true then some (maxP (.int i) (pis is)) else none) = _
  rw [if_pos h, maxP_i]
theorem pairs_in {L : Land} {w : Nat} (h : LandIs L w) {p : Pr} (hp : p ∈ pairs L) : InL L p.1 ∧ InL L p.2 := by
  unfold pairs pairsTo at hp
  simp [pairsAt] at hp
  obtain ⟨l, ⟨a, b, hs, rfl⟩, hp⟩ := hp
  simp at hp
  obtain ⟨o, c, ⟨hb, _⟩, rfl⟩ := hp
  have h1 := (spots_in h.row h.wd hs).1
  unfold beside at hb
  rw [List.mem_filter] at hb
  exact ⟨h1, inB_in h.row h.wd hb.2⟩
@[simp] theorem setT_P {i j : Nat} {p : Pr} {env : PEnv} : setT (.tp [.nm i, .nm j]) (pvP p) env = some (setE (setE env i (.val (pvS p.1))) j (.val (pvS p.2))) := by
  unfold pvP
  simp
def greatest (L : Land) : Int := maxL 0 ((pairs L).map (stepB L))
theorem pairs_len {L : Land} {w : Nat} (h : LandIs L w) : (pairs L).length ≤ 256 := by
  refine Nat.le_trans (flat_len (fun a => pairsAt_len) _) ?_
  have := spots_len h
  omega
theorem sp_raw_greatest {L : Land} {w : Nat} (h : LandIs L w) : f_raw_greatest_step [pvLand L] = some (.int (greatest L), [pvLand L]) := by
  have hl := pairs_len h
  refine fn_val (wp_exit rfl ?_)
  unfold b_raw_greatest_step
  simp [sp_pairs_beside h]
  refine ⟨by omega, ?_⟩
  refine wp_lcT (fun _ => true) (fun p => .int (stepB L p)) (fun k hk => ?_) ?_
  · obtain ⟨h1, h2⟩ := pairs_in h hk
    simp [sp_step_between h1 h2]
  · have e : ((pairs L).filter fun _ => true).map (fun p => PV.int (stepB L p)) = pis ((pairs L).map (stepB L)) := by simp [pis]
    rw [e]
    simp [gMax_i, greatest]
    omega
theorem sp_check_steep {L : Land} {s : Int} (h : landOk L = true) (h1 : 1 ≤ s) (h2 : s ≤ 1000) : f_check_steep [pvLand L, .int s] = some (.non, [pvLand L, .int s]) := by
  refine fn_val (wp_exit rfl ?_)
  unfold b_check_steep
  simp [sp_check_land h, sp_is_within, h1, h2]
def hf (L : Land) (p : Pr) : Pr := if ht L p.2 < ht L p.1 then p else (p.2, p.1)
theorem sp_higher_first {L : Land} {a b : Spt} (ha : InL L a) (hb : InL L b) : f_higher_first [pvLand L, pvS a, pvS b] = some (pvP (hf L (a, b)), [pvLand L, pvS a, pvS b]) := by
  refine fn_val (wp_exit rfl ?_)
  unfold b_higher_first
  simp [sp_height_of ha, sp_height_of hb]
  by_cases h : ht L b < ht L a
  · simp [h, hf, pvP]
  · simp [h, hf, pvP]
end Wk
namespace Wk
open PySem PySem.Spec PyProof.Rows L2 Pv
def ltP (p q : Pr) : Bool := ltS p.1 q.1 || (decide (p.1 = q.1) && ltS p.2 q.2)
def dS (s : Spt) : PyData := .tuple [.int s.1, .int s.2]
def dP (p : Pr) : PyData := .tuple [dS p.1, dS p.2]
theorem pdD_P {p : Pr} : pdD (pvP p) = dP p := rfl
theorem dataLt_P {p q : Pr} : PySem.W.dataLt (dP p) (dP q) = ltP p q := by
  obtain ⟨⟨a, b⟩, c, d⟩ := p
  obtain ⟨⟨a', b'⟩, c', d'⟩ := q
  unfold PySem.W.dataLt dP dS
  have e : ∀ x y : Int, itemOrd.blt (Sum.inl x) (Sum.inl y) = decide (x < y) := fun x y => rfl
  have e0 : PyProof.Rows.lexLt itemOrd ([] : List itemOrd.α) [] = false := rfl
  simp only [PySem.W.keyToks, PySem.W.keyToksAll, List.cons_append, List.nil_append]
  rw [PyProof.Rows.lex_self, PyProof.Rows.lex_self, PyProof.Rows.lex_cons, e, e, PyProof.Rows.lex_self, PyProof.Rows.lex_cons, e, e, PyProof.Rows.lex_self, PyProof.Rows.lex_self, PyProof.Rows.lex_self, PyProof.Rows.lex_cons, e, e,
    PyProof.Rows.lex_self, PyProof.Rows.lex_cons, e, e, PyProof.Rows.lex_self, PyProof.Rows.lex_self, e0, Bool.eq_iff_iff]
  simp [ltP, ltS]
  omega
theorem pds_P : ∀ l : List Pr, pds (prs l) = some (l.map dP)
  | [] => rfl
  | i :: l => by
    show pds (pvP i :: prs l) = _
    rw [pds, pds_P l]
    rfl
theorem sortOk_P {l : List Pr} : sortOk (prs l) = true := by
  have h0 : cmpAll (prs l) = true := by
    unfold cmpAll
    rw [pds_P]
    have h1 : alikes (l.map dP) = true := by
      unfold alikes
      simp [List.all_map]
      intro a b c d _ e f g h _
      rfl
    have h2 : (l.map dP).all ndN = true := by
      simp [List.all_map]
      intro a b c d _
      rfl
    have h3 : PyData.depthAll (l.map dP) ≤ 60 := by
      have : ∀ l : List Pr, PyData.depthAll (l.map dP) ≤ 10 := by
        intro l
        induction l with
        | nil => simp [PyData.depthAll]
        | cons i l ih =>
          simp only [List.map_cons, PyData.depthAll]
          simp [PyData.depth, PyData.depthAll, dP, dS]
          omega
      exact Nat.le_trans (this l) (by omega)
    simp [h1, h2, h3]
  unfold sortOk
  have h4 : ((prs l).map pdD).all isTupC = true := by
    simp [prs, List.all_map]
    intro a b c d _
    rfl
  simp [h0, h4]
def leP (p q : Pr) : Bool := !ltP q p
theorem sortP_P {l : List Pr} : sortP (prs l) = prs (l.mergeSort leP) := by
  unfold sortP prs
  refine (List.map_mergeSort fun a _ b _ => ?_).symm
  show leP a b = PySem.W.dataLe false pdD (pvP a) (pvP b)
  show _ = !(PySem.W.dataLt (dP b) (dP a))
  rw [dataLt_P]
  rfl
/-- two strictly rising lists with the same members are one -/
theorem rise_eq : ∀ {l m : List Pr}, l.Pairwise (fun a b => ltP a b = true) → m.Pairwise (fun a b => ltP a b = true) → (∀ x, x ∈ l ↔ x ∈ m) → l = m
  | [], [], _, _, _ => rfl
  | [], b :: m, _, _, h => by have := (h b).mpr (by simp); simp at this
  | a :: l, [], _, _, h => by have := (h a).mp (by simp); simp at this
  | a :: l, b :: m, hl, hm, h => by
    have irr : ∀ x : Pr, ltP x x = false := fun x => by simp [ltP, ltS]
    have asym : ∀ x y : Pr, ltP x y = true → ltP y x = true → False := fun x y h1 h2 => by
      obtain ⟨⟨a, b⟩, c, d⟩ := x
      obtain ⟨⟨a', b'⟩, c', d'⟩ := y
      simp [ltP, ltS] at h1 h2
      omega
    rw [List.pairwise_cons] at hl hm
    have hab : a = b := by
      rcases List.mem_cons.mp ((h a).mp (by simp)) with e | e
      · exact e
      · rcases List.mem_cons.mp ((h b).mpr (by simp)) with e' | e'
        · exact e'.symm
        · exact (asym _ _ (hm.1 a e) (hl.1 b e')).elim
    subst hab
    have : l = m := rise_eq hl.2 hm.2 fun x => by
      constructor
      · intro hx
        rcases List.mem_cons.mp ((h x).mp (by simp [hx])) with e | e
        · subst e; have := hl.1 x hx; rw [irr] at this; cases this
        · exact e
      · intro hx
        rcases List.mem_cons.mp ((h x).mpr (by simp [hx])) with e | e
        · subst e; have := hm.1 x hx; rw [irr] at this; cases this
        · exact e
    rw [this]
/-- what sorting makes of a list of unlike pairs -/
theorem sort_is {l m : List Pr} (hn : l.Nodup) (hm : m.Pairwise (fun a b => ltP a b = true)) (h : ∀ x, x ∈ l ↔ x ∈ m) : l.mergeSort leP = m := by
  have tot : ∀ a b : Pr, (leP a b || leP b a) = true := fun a b => by
    obtain ⟨⟨a1, a2⟩, a3, a4⟩ := a
    obtain ⟨⟨b1, b2⟩, b3, b4⟩ := b
    simp [leP, ltP, ltS]
    omega
  have tr : ∀ a b c : Pr, leP a b = true → leP b c = true → leP a c = true := fun a b c => by
    obtain ⟨⟨a1, a2⟩, a3, a4⟩ := a
    obtain ⟨⟨b1, b2⟩, b3, b4⟩ := b
    obtain ⟨⟨c1, c2⟩, c3, c4⟩ := c
    simp [leP, ltP, ltS]
    omega
  have s1 := List.pairwise_mergeSort (le := leP) (fun a b c => tr a b c) (fun a b => tot a b) l
  have p1 := List.mergeSort_perm l leP
  have n1 : (l.mergeSort leP).Nodup := p1.nodup_iff.mpr hn
  refine rise_eq ?_ hm fun x => by rw [p1.mem_iff]; exact h x
  refine (s1.and n1).imp fun {a b} ⟨h1, h2⟩ => ?_
  have h3 : ltP b a = false := by simpa [leP] using h1
  obtain ⟨⟨a1, a2⟩, a3, a4⟩ := a
  obtain ⟨⟨b1, b2⟩, b3, b4⟩ := b
  simp [ltP, ltS] at h2 h3 ⊢
  omega
end Wk
namespace Wk
open PySem PySem.Spec PyProof.Rows L2 Pv
def pf (g : Spt → List Spt) (l : List Spt) : List Pr := (l.map fun a => (g a).map fun b => (a, b)).flatten
def Rise (l : List Spt) : Prop := l.Pairwise fun a b => ltS a b = true
theorem mem_pf {g : Spt → List Spt} {l : List Spt} {p : Pr} : p ∈ pf g l ↔ p.1 ∈ l ∧ p.2 ∈ g p.1 := by
  obtain ⟨a, b⟩ := p
  unfold pf
  simp only [List.mem_flatten, List.mem_map]
  constructor
  · rintro ⟨m, ⟨x, hx, rfl⟩, hm⟩
    rw [List.mem_map] at hm
    obtain ⟨y, hy, e⟩ := hm
    cases e
    exact ⟨hx, hy⟩
  · rintro ⟨h1, h2⟩
    exact ⟨_, ⟨a, h1, rfl⟩, List.mem_map.mpr ⟨b, h2, rfl⟩⟩
theorem pf_rise {g : Spt → List Spt} (hg : ∀ a, Rise (g a)) : ∀ {l : List Spt}, Rise l → (pf g l).Pairwise fun a b => ltP a b = true
  | [], _ => by simp [pf]
  | a :: l, h => by
    unfold Rise at h
    rw [List.pairwise_cons] at h
    have e : pf g (a :: l) = (g a).map (fun b => (a, b)) ++ pf g l := by simp [pf]
    rw [e, List.pairwise_append]
    refine ⟨?_, pf_rise hg h.2, fun p hp q hq => ?_⟩
    · rw [List.pairwise_map]
      exact (hg a).imp fun {b c} hbc => by simp [ltP, hbc]
    · rw [List.mem_map] at hp
      obtain ⟨b, hb, rfl⟩ := hp
      have := h.1 _ (mem_pf.mp hq).1
      simp [ltP, this]
theorem rise_filter {l : List Spt} {c : Spt → Bool} (h : Rise l) : Rise (l.filter c) := List.Pairwise.sublist List.filter_sublist h
theorem sides_rise {s : Spt} : Rise (sidesOf s) := by
  unfold sidesOf sidesL Rise
  simp [ltS]
  omega
theorem beside_rise {L : Land} {s : Spt} : Rise (beside L s) := rise_filter sides_rise
theorem spots_rise {L : Land} : Rise (spots L) := by
  have key : ∀ w n, Rise (spotsTo w n) ∧ ∀ s ∈ spotsTo w n, s.1 < n := by
    intro w n
    induction n with
    | zero => exact ⟨by simp [spotsTo, Rise], fun s hs => by simp [spotsTo] at hs⟩
    | succ n ih =>
      refine ⟨?_, fun s hs => ?_⟩
      · unfold Rise
        rw [spotsTo, List.pairwise_append]
        refine ⟨ih.1, ?_, fun a ha b hb => ?_⟩
        · unfold rowS
          rw [List.pairwise_map]
          refine List.pairwise_lt_range.imp fun {a b} h => ?_
          simp [ltS]
          exact h
        · have h1 := ih.2 a ha
          simp [rowS] at hb
          obtain ⟨c, _, rfl⟩ := hb
          simp [ltS]
          omega
      · rw [spotsTo, List.mem_append] at hs
        rcases hs with hs | hs
        · have := ih.2 s hs; omega
        · simp [rowS] at hs
          obtain ⟨c, _, rfl⟩ := hs
          simp
          omega
  exact (key _ _).1
theorem mem_spots {L : Land} {s : Spt} : s ∈ spots L ↔ inB L s = true := by
  have key : ∀ w n (s : Spt), s ∈ spotsTo w n ↔ (0 ≤ s.1 ∧ s.1 < n) ∧ 0 ≤ s.2 ∧ s.2 < w := by
    intro w n
    induction n with
    | zero => intro s; simp [spotsTo]; omega
    | succ n ih =>
      intro s
      rw [spotsTo, List.mem_append, ih]
      constructor
      · rintro (h | h)
        · omega
        · simp [rowS] at h
          obtain ⟨c, hc, rfl⟩ := h
          simp
          omega
      · rintro ⟨⟨h1, h2⟩, h3, h4⟩
        by_cases h : s.1 < n
        · exact .inl ⟨⟨h1, h⟩, h3, h4⟩
        · refine .inr ?_
          simp [rowS]
          refine ⟨s.2.toNat, by omega, ?_⟩
          obtain ⟨a, b⟩ := s
          simp at h1 h2 h3 h4 h ⊢
          omega
  unfold spots
  rw [key]
  simp [inB]
def adj (a b : Spt) : Prop := (b.1 = a.1 - 1 ∧ b.2 = a.2) ∨ (b.1 = a.1 ∧ b.2 = a.2 - 1) ∨ (b.1 = a.1 ∧ b.2 = a.2 + 1) ∨ (b.1 = a.1 + 1 ∧ b.2 = a.2)
theorem mem_beside {L : Land} {a b : Spt} : b ∈ beside L a ↔ inB L b = true ∧ adj a b := by
  unfold beside
  rw [List.mem_filter]
  have : b ∈ sidesOf a ↔ adj a b := by
    obtain ⟨a1, a2⟩ := a
    obtain ⟨b1, b2⟩ := b
    simp [sidesOf, sidesL, adj]
    omega
  rw [this]
  exact And.comm
def steepG (L : Land) (s : Int) (a : Spt) : List Spt := (beside L a).filter fun b => decide (s < 0 - (ht L b - ht L a))
def steep (L : Land) (s : Int) : List Pr := pf (steepG L s) (spots L)
theorem pairs_pf {L : Land} : pairs L = pf (fun a => (beside L a).filter (ltS a)) (spots L) := rfl
theorem ltP_irr {x : Pr} : ltP x x = false := by simp [ltP, ltS]
theorem nodup_of {l : List Pr} (h : l.Pairwise fun a b => ltP a b = true) : l.Nodup := h.imp fun {a b} hab e => by
  subst e
  rw [ltP_irr] at hab
  cases hab
theorem steep_sort {L : Land} {s : Int} (hs : 0 ≤ s) : (((pairs L).filter fun p => decide (s < stepB L p)).map (hf L)).mergeSort leP = steep L s := by
  have hp : (pairs L).Pairwise fun a b => ltP a b = true := by
    rw [pairs_pf]
    exact pf_rise (fun a => rise_filter beside_rise) spots_rise
  have lt : ∀ p ∈ pairs L, ltS p.1 p.2 = true := fun p h => by
    rw [pairs_pf, mem_pf, List.mem_filter] at h
    exact h.2.2
  refine sort_is ?_ (pf_rise (fun a => rise_filter beside_rise) spots_rise) fun x => ?_
  · have h1 := (nodup_of hp).sublist (List.filter_sublist (p := fun p => decide (s < stepB L p)))
    have inj : ∀ l : List Pr, (∀ p ∈ l, ltS p.1 p.2 = true) → l.Nodup → (l.map (hf L)).Nodup := by
      intro l
      induction l with
      | nil => intro _ _; simp
      | cons p l ih =>
        intro h hn
        rw [List.nodup_cons] at hn
        rw [List.map_cons, List.nodup_cons]
        refine ⟨fun hm => ?_, ih (fun q hq => h q (by simp [hq])) hn.2⟩
        rw [List.mem_map] at hm
        obtain ⟨q, hq, e⟩ := hm
        have h1 := h p (by simp)
        have h2 := h q (by simp [hq])
        have : q = p := by
          obtain ⟨⟨a, b⟩, c, d⟩ := p
          obtain ⟨⟨a', b'⟩, c', d'⟩ := q
          unfold hf at e
          simp [ltS] at h1 h2
          split at e <;> split at e <;> simp at e ⊢ <;> omega
        subst this
        exact hn.1 hq
    refine inj _ (fun p hp => lt p (List.mem_filter.mp hp).1) h1
  · rw [List.mem_map, steep, mem_pf, mem_spots, steepG, List.mem_filter, mem_beside]
    constructor
    · rintro ⟨p, hp, rfl⟩
      rw [List.mem_filter, pairs_pf, mem_pf, mem_spots, List.mem_filter, mem_beside] at hp
      obtain ⟨⟨h1, ⟨h2, h3⟩, h4⟩, h5⟩ := hp
      have h5 : s < stepB L p := by simpa using h5
      unfold stepB iabs at h5
      unfold hf
      by_cases h : ht L p.2 < ht L p.1
      · rw [if_pos h]
        rw [if_neg (by omega)] at h5
        exact ⟨h1, ⟨h2, h3⟩, by simp; omega⟩
      · rw [if_neg h]
        refine ⟨h2, ⟨h1, ?_⟩, ?_⟩
        · unfold adj at h3 ⊢
          simp
          omega
        · simp
          split at h5 <;> omega
    · rintro ⟨h1, ⟨h2, h3⟩, h4⟩
      have h4 : s < 0 - (ht L x.2 - ht L x.1) := by simpa using h4
      by_cases hlt : ltS x.1 x.2 = true
      · refine ⟨x, ?_, ?_⟩
        · rw [List.mem_filter, pairs_pf, mem_pf, mem_spots, List.mem_filter, mem_beside]
          refine ⟨⟨h1, ⟨h2, h3⟩, hlt⟩, ?_⟩
          have e : stepB L x = ht L x.1 - ht L x.2 := by unfold stepB iabs; rw [if_neg (by omega)]
          exact decide_eq_true (by rw [e]; omega)
        · unfold hf
          rw [if_pos (by omega)]
      · refine ⟨(x.2, x.1), ?_, ?_⟩
        · rw [List.mem_filter, pairs_pf, mem_pf, mem_spots, List.mem_filter, mem_beside]
          refine ⟨⟨h2, ⟨h1, ?_⟩, ?_⟩, ?_⟩
          · unfold adj at h3 ⊢
            simp
            omega
          · have : ltS x.1 x.2 = false := by simpa using hlt
            unfold adj at h3
            simp [ltS] at this ⊢
            omega
          · have e : stepB L (x.2, x.1) = -(ht L x.2 - ht L x.1) := by unfold stepB iabs; rw [if_pos (by show ht L x.2 - ht L x.1 < 0; omega)]
            exact decide_eq_true (by rw [e]; omega)
        · unfold hf
          rw [if_neg (by simp; omega)]
end Wk
namespace Wk
open PySem PySem.Spec PyProof.Rows L2 Pv
theorem tup_P {a b : Spt} : PV.tup [pvS a, pvS b] = pvP (a, b) := rfl
@[simp] theorem ixV_P0 {a : Sl} {p : Pr} : ixV a (some (pvP p)) (some (.int 0)) = some (.val (pvS p.1)) := rfl
@[simp] theorem ixV_P1 {a : Sl} {p : Pr} : ixV a (some (pvP p)) (some (.int 1)) = some (.val (pvS p.2)) := rfl
theorem ixV_prs {a : Sl} {o : Bool} {p : Pr} {l : List Pr} : ixV a (some (.lst o (prs (p :: l)))) (some (.int 0)) = some (.val (pvP p)) := by
  unfold ixV
  have e : ixN (prs (p :: l)).length 0 = some 0 := by
    unfold ixN
    rw [if_pos (by omega), if_pos (by simp)]
    rfl
  dsimp only
  rw [e]
  have e2 : (prs (p :: l))[0]? = some (pvP p) := rfl
  dsimp only
  rw [e2]
  dsimp only
  rw [if_pos fz_P]
theorem gSorted_P {o : Bool} {l : List Pr} : gSorted [.lst o (prs l)] = some (.lst true (prs (l.mergeSort leP))) := by
  show (if sortOk (prs l) = true then some (PV.lst true (sortP (prs l))) else none) = _
  rw [if_pos sortOk_P, sortP_P]
theorem sp_raw_steep {L : Land} {w : Nat} {s : Int} (h : LandIs L w) (hs : 0 ≤ s) : f_raw_steep_pairs [pvLand L, .int s] = some (.lst true (prs (steep L s)), [pvLand L, .int s]) := by
  have hl := pairs_len h
  refine fn_val (wp_exit rfl ?_)
  unfold b_raw_steep_pairs
  simp [sp_pairs_beside h]
  refine ⟨by omega, ?_⟩
  refine wp_lcT (fun p => decide (s < stepB L p)) (fun p => pvP p) (fun k hk => ?_) ?_
  · obtain ⟨h1, h2⟩ := pairs_in h hk
    simp [sp_step_between h1 h2]
    intro _
    rfl
  · have e : ((pairs L).filter fun p => decide (s < stepB L p)).map (fun p => pvP p) = prs ((pairs L).filter fun p => decide (s < stepB L p)) := by simp [prs]
    rw [e]
    have hl2 : ((pairs L).filter fun p => decide (s < stepB L p)).length ≤ 256 := Nat.le_trans (List.length_filter_le _ _) hl
    have hin : ∀ p ∈ ((pairs L).filter fun p => decide (s < stepB L p)), InL L p.1 ∧ InL L p.2 := fun p hp => pairs_in h (List.mem_filter.mp hp).1
    rw [← steep_sort hs]
    generalize ((pairs L).filter fun p => decide (s < stepB L p)) = A at hl2 hin
    simp
    refine ⟨by omega, ?_⟩
    refine wp_lcT (fun _ => true) (fun p => pvP (hf L p)) (fun k hk => ?_) ?_
    · obtain ⟨h1, h2⟩ := hin k hk
      simp [sp_higher_first h1 h2]
    · have e2 : (A.filter fun _ => true).map (fun p => pvP (hf L p)) = prs (A.map (hf L)) := by simp [prs]
      rw [e2]
      simp [gSorted_P]
theorem sp_steep_pairs {L : Land} {w : Nat} {s : Int} (h : LandIs L w) (ho : landOk L = true) (h1 : 1 ≤ s) (h2 : s ≤ 1000) : f_steep_pairs [pvLand L, .int s] = some (.tup (prs (steep L s)), [pvLand L, .int s]) := by
  refine fn_val (wp_exit rfl ?_)
  unfold b_steep_pairs
  simp [sp_check_steep ho h1 h2, sp_raw_steep (s := s) h (by omega)]
theorem set_len {L : Land} {s : Spt} {v : Int} : (setC L s v).length = L.length := by simp [setC]
theorem rowAt_set {L : Land} {s : Spt} {v i : Int} (hs : InL L s) (h0 : 0 ≤ i) : rowAt (setC L s v) i = if i = s.1 then (rowAt L s.1).set s.2.toNat v else rowAt L i := by
  obtain ⟨a1, a2, a3, a4⟩ := hs
  unfold setC
  generalize (rowAt L s.1).set s.2.toNat v = R
  unfold rowAt
  by_cases h : i = s.1
  · subst h
    rw [if_pos rfl]
    have hl : s.1.toNat < L.length := by omega
    simp [List.getD, List.getElem?_set, hl]
  · rw [if_neg h]
    have : ¬ s.1.toNat = i.toNat := by omega
    simp [List.getD, List.getElem?_set, this]
theorem set_row {L : Land} {w : Nat} {s : Spt} {v : Int} (h : ∀ r ∈ L, r.length = w) (hs : InL L s) : ∀ r ∈ setC L s v, r.length = w := by
  intro r hr
  unfold setC at hr
  rcases List.mem_or_eq_of_mem_set hr with h1 | h1
  · exact h r h1
  · rw [h1, List.length_set]
    exact h _ (rowAt_mem hs.1 hs.2.1)
theorem LandIs.set {L : Land} {w : Nat} {s : Spt} {v : Int} (h : LandIs L w) (hs : InL L s) : LandIs (setC L s v) w := by
  have hr := set_row (v := v) h.row hs
  refine ⟨hr, ?_, by rw [set_len]; exact h.h1, by rw [set_len]; exact h.h2, h.w2⟩
  exact (hr _ (rowAt_mem (by omega) (by rw [set_len]; have := h.h1; omega))).symm
theorem LandIs.inL {L M : Land} {w : Nat} (h : LandIs L w) (hM : LandIs M w) (hl : M.length = L.length) {s : Spt} (hs : InL L s) : InL M s := by
  obtain ⟨a1, a2, a3, a4⟩ := hs
  have e1 := h.row _ (rowAt_mem a1 a2)
  have e2 := hM.row _ (rowAt_mem (i := s.1) a1 (by rw [hl]; exact a2))
  exact ⟨a1, by rw [hl]; exact a2, a3, by rw [e2, ← e1]; exact a4⟩
def moved (L : Land) (p : Pr) : Land := setC (setC L p.1 (ht L p.1 - 1)) p.2 (ht (setC L p.1 (ht L p.1 - 1)) p.2 + 1)
theorem sp_moved {L : Land} {w : Nat} {a b : Spt} (h : LandIs L w) (ha : InL L a) (hb : InL L b) : f_moved_unit [pvLand L, pvS a, pvS b] = some (pvLand (moved L (a, b)), [pvLand L, pvS a, pvS b]) := by
  have hM := h.set (v := ht L a - 1) ha
  have hb' := h.inL hM set_len hb
  have r1 := h.row _ (rowAt_mem ha.1 ha.2.1)
  have r2 := hM.row _ (rowAt_mem hb'.1 hb'.2.1)
  have := h.w2
  have := h.h2
  refine fn_val (wp_exit rfl ?_)
  unfold b_moved_unit
  simp [sp_height_of ha, sp_with_height (v := ht L a - 1) ha (by omega) (by omega), sp_height_of hb', sp_with_height (v := ht (setC L a (ht L a - 1)) b + 1) hb' (by rw [set_len]; omega) (by omega)]
  rfl
def fallL (L : Land) (s : Int) : Land := match steep L s with
  | [] => L
  | p :: _ => moved L p
theorem steep_in {L : Land} {w : Nat} {s : Int} (h : LandIs L w) {p : Pr} (hp : p ∈ steep L s) : InL L p.1 ∧ InL L p.2 ∧ s < ht L p.1 - ht L p.2 ∧ p.1 ≠ p.2 := by
  rw [steep, mem_pf, mem_spots, steepG, List.mem_filter, mem_beside] at hp
  obtain ⟨h1, ⟨h2, h3⟩, h4⟩ := hp
  have h4 : s < 0 - (ht L p.2 - ht L p.1) := by simpa using h4
  refine ⟨inB_in h.row h.wd h1, inB_in h.row h.wd h2, by omega, fun e => ?_⟩
  rw [e] at h3
  unfold adj at h3
  omega
theorem sp_raw_fall {L : Land} {w : Nat} {s : Int} (h : LandIs L w) (hs : 0 ≤ s) : f_raw_fall [pvLand L, .int s] = some (pvLand (fallL L s), [pvLand L, .int s]) := by
  refine fn_val (wp_exit rfl ?_)
  unfold b_raw_fall
  simp [sp_raw_steep h hs]
  cases e : steep L s with
  | nil => simp [fallL, e]
  | cons p l =>
    obtain ⟨h1, h2, _⟩ := steep_in h (show p ∈ steep L s by rw [e]; simp)
    simp [ixV_prs, sp_moved h h1 h2, fallL, e]
end Wk
namespace Wk
open PySem PySem.Spec PyProof.Rows L2 Pv
def dRow (r : List Int) : PyData := .tuple (r.map .int)
def dLand (L : Land) : PyData := .tuple (L.map dRow)
theorem pd_row {r : List Int} : pd (pvRow r) = some (dRow r) := by
  unfold pvRow dRow
  rw [pd, pds_i]
theorem pds_r : ∀ L : Land, pds (rowsP L) = some (L.map dRow)
  | [] => rfl
  | r :: L => by
    show pds (pvRow r :: rowsP L) = _
    rw [pds, pds_r L, pd_row]
    rfl
theorem pd_land {L : Land} : pd (pvLand L) = some (dLand L) := by
  unfold pvLand dLand
  rw [pd, pds_r]
theorem eqv_ints : ∀ a b : List Int, PyData.eqvAll (a.map .int) (b.map .int) = decide (a = b)
  | [], [] => by simp [PyData.eqvAll]
  | [], _ :: _ => by simp [PyData.eqvAll]
  | _ :: _, [] => by simp [PyData.eqvAll]
  | x :: a, y :: b => by
    rw [List.map_cons, List.map_cons, PyData.eqvAll, eqv_ints a b, PyData.eqv, Bool.eq_iff_iff]
    simp
theorem eqv_rows : ∀ a b : Land, PyData.eqvAll (a.map dRow) (b.map dRow) = decide (a = b)
  | [], [] => by simp [PyData.eqvAll]
  | [], _ :: _ => by simp [PyData.eqvAll]
  | _ :: _, [] => by simp [PyData.eqvAll]
  | x :: a, y :: b => by
    rw [List.map_cons, List.map_cons, PyData.eqvAll, eqv_rows a b, dRow, dRow, PyData.eqv, eqv_ints, Bool.eq_iff_iff]
    simp
theorem shaped_land {L : Land} : SeqAt.shaped (dLand L) = true := by
  have r1 : ∀ r : List Int, PyData.canLayAll0 (r.map .int) = true := by
    intro r
    induction r with
    | nil => simp [PyData.canLayAll0]
    | cons i r ih => simp [PyData.canLayAll0, PyData.canLay0, ih]
  have r2 : ∀ L : Land, PyData.canLayAll0 (L.map dRow) = true := by
    intro L
    induction L with
    | nil => simp [PyData.canLayAll0]
    | cons i r ih => simp [PyData.canLayAll0, PyData.canLay0, dRow, ih, r1]
  have d1 : ∀ l : List Int, PyData.depthAll (l.map PyData.int) ≤ 1 := by
    intro l
    induction l with
    | nil => simp [PyData.depthAll]
    | cons i l ih =>
      simp only [List.map_cons, PyData.depthAll]
      simp [PyData.depth]
      omega
  have d2 : ∀ L : Land, PyData.depthAll (L.map dRow) ≤ 4 := by
    intro L
    induction L with
    | nil => simp [PyData.depthAll]
    | cons i l ih =>
      simp only [List.map_cons, PyData.depthAll]
      have := d1 i
      simp [PyData.depth, dRow]
      omega
  unfold SeqAt.shaped dLand
  have := d2 L
  simp [PyData.canLay0, PyData.depth, r2]
  omega
theorem gNe_land {A B : Land} : gNe [pvLand A, pvLand B] = some (.bl (!decide (A = B))) := by
  show ((peq (pvLand A) (pvLand B)).map fun b => PV.bl (!b)) = _
  have e : peq (pvLand A) (pvLand B) = some (decide (A = B)) := by
    unfold peq
    rw [pd_land, pd_land]
    dsimp only
    rw [if_pos ⟨shaped_land, shaped_land⟩]
    unfold dLand
    rw [PyData.eqv, eqv_rows]
  rw [e]
  rfl
theorem sp_fall {L : Land} {w : Nat} {s : Int} (h : LandIs L w) (ho : landOk L = true) (h1 : 1 ≤ s) (h2 : s ≤ 1000) : f_fall [pvLand L, .int s] = some (pvLand (fallL L s), [pvLand L, .int s]) := by
  refine fn_val (wp_exit rfl ?_)
  unfold b_fall
  simp [sp_check_steep ho h1 h2, sp_raw_fall (s := s) h (by omega)]
theorem moved_is {L : Land} {w : Nat} {p : Pr} (h : LandIs L w) (h1 : InL L p.1) (h2 : InL L p.2) : LandIs (moved L p) w := by
  have hM := h.set (v := ht L p.1 - 1) h1
  exact hM.set (h.inL hM set_len h2)
theorem fall_is {L : Land} {w : Nat} {s : Int} (h : LandIs L w) : LandIs (fallL L s) w ∧ (fallL L s).length = L.length := by
  unfold fallL
  cases e : steep L s with
  | nil => exact ⟨h, rfl⟩
  | cons p l =>
    obtain ⟨h1, h2, _⟩ := steep_in h (show p ∈ steep L s by rw [e]; simp)
    exact ⟨moved_is h h1 h2, by show (moved L p).length = _; unfold moved; rw [set_len, set_len]⟩
theorem ht_set {L : Land} {s t : Spt} {v : Int} (hs : InL L s) (ht' : InL L t) : ht (setC L s v) t = if t = s then v else ht L t := by
  unfold ht
  rw [rowAt_set hs ht'.1]
  obtain ⟨a1, a2, a3, a4⟩ := hs
  obtain ⟨b1, b2, b3, b4⟩ := ht'
  obtain ⟨x, y⟩ := s
  obtain ⟨x', y'⟩ := t
  dsimp only at *
  by_cases h1 : x' = x
  · subst h1
    rw [if_pos rfl]
    by_cases h2 : y' = y
    · subst h2
      have : y'.toNat < (rowAt L x').length := by omega
      simp [cellAt, List.getD, this]
    · have : ¬ y.toNat = y'.toNat := by omega
      simp [cellAt, List.getD, List.getElem?_set, this, h2]
  · rw [if_neg h1]
    simp [h1]
theorem ht_moved {L : Land} {w : Nat} {p : Pr} (h : LandIs L w) (h1 : InL L p.1) (h2 : InL L p.2) (hne : p.1 ≠ p.2) {t : Spt} (ht' : InL L t) : ht (moved L p) t = if t = p.2 then ht L p.2 + 1 else if t = p.1 then ht L p.1 - 1 else ht L t := by
  have hM := h.set (v := ht L p.1 - 1) h1
  unfold moved
  rw [ht_set (h.inL hM set_len h2) (h.inL hM set_len ht'), ht_set h1 h2, ht_set h1 ht']
  rw [if_neg (Ne.symm hne)]
theorem moved_ne {L : Land} {w : Nat} {p : Pr} (h : LandIs L w) (h1 : InL L p.1) (h2 : InL L p.2) (hne : p.1 ≠ p.2) : moved L p ≠ L := fun e => by
  have := ht_moved h h1 h2 hne h2
  rw [e, if_pos rfl] at this
  omega
theorem fall_eq {L : Land} {w : Nat} {s : Int} (h : LandIs L w) : fallL L s = L ↔ steep L s = [] := by
  unfold fallL
  cases e : steep L s with
  | nil => simp
  | cons p l =>
    obtain ⟨h1, h2, _, h4⟩ := steep_in h (show p ∈ steep L s by rw [e]; simp)
    simp
    exact moved_ne h h1 h2 h4
end Wk
namespace Pv
open PySem PySem.Spec PyProof.Rows L2
theorem wp_while {c : D Bool} {b : D Fl} {Q : Fl → PEnv → Prop} (I : Nat → PEnv → Prop) (hs : ∀ n e, I (n + 1) e → WP c e fun k e1 => k = true ∧ WP b e1 fun f e2 => f = .nx ∧ I n e2)
    (h0 : ∀ e, I 0 e → WP c e fun k e1 => k = false ∧ Q .nx e1) : ∀ n e, I n e → WP (dwhile c b) e Q
  | 0, e, h => by
    obtain ⟨k, e1, h1, rfl, h2⟩ := wp_of (h0 e h)
    unfold WP
    rw [dwhile_eq, h1]
    exact h2
  | n + 1, e, h => by
    obtain ⟨k, e1, h1, rfl, h2⟩ := wp_of (hs n e h)
    obtain ⟨f, e2, h3, rfl, h4⟩ := wp_of h2
    have ih := wp_while I hs h0 n e2 h4
    unfold WP
    rw [dwhile_eq, h1]
    dsimp only
    rw [h3]
    unfold WP at ih
    exact ih
end Pv
namespace Wk
open PySem PySem.Spec PyProof.Rows L2 Pv
def itF (s : Int) (L : Land) : Nat → Land
  | 0 => L
  | n + 1 => fallL (itF s L n) s
theorem itF_is {L : Land} {w : Nat} {s : Int} (h : LandIs L w) : ∀ n, LandIs (itF s L n) w ∧ (itF s L n).length = L.length
  | 0 => ⟨h, rfl⟩
  | n + 1 => by
    obtain ⟨h1, h2⟩ := itF_is h n
    obtain ⟨h3, h4⟩ := fall_is (s := s) h1
    exact ⟨h3, h4.trans h2⟩
/-- it comes to rest at the k-th fall -/
def Ends (L : Land) (s : Int) (k : Nat) : Prop := steep (itF s L k) s = [] ∧ ∀ j, j < k → steep (itF s L j) s ≠ []
theorem sp_all_falls {L : Land} {w : Nat} {s : Int} {k : Nat} (h : LandIs L w) (hs : 0 ≤ s) (he : Ends L s k) (hk : k ≤ 20000) : f_all_falls [pvLand L, .int s] = some (.tup [pvLand (itF s L k), .int k], [pvLand L, .int s]) := by
  refine fn_val (wp_exit rfl ?_)
  unfold b_all_falls
  simp [sp_raw_fall h hs]
  refine wp_while (fun n e => n ≤ k ∧ e = [.val (pvLand (itF s L (k - n))), .val (.int s), .val (.int ((k - n : Nat) : Int)), .val (pvLand (itF s L (k - n + 1)))]) (fun n e ⟨hn, hi⟩ => ?_) (fun e ⟨hn, hi⟩ => ?_) k _ ⟨Nat.le_refl _, ?_⟩
  · subst hi
    have e1 : k - n = k - (n + 1) + 1 := by omega
    have hne := he.2 (k - (n + 1)) (by omega)
    have h1 := itF_is (s := s) h (k - (n + 1))
    have h2 := itF_is (s := s) h (k - (n + 1) + 1)
    have ne : ¬ itF s L (k - (n + 1) + 1) = itF s L (k - (n + 1)) := fun e => hne ((fall_eq h1.1).mp e)
    have hm : ¬ (20000 : Int) < ((k - (n + 1) : Nat) : Int) + 1 := by omega
    have e3 : itF s L (k - (n + 1) + 1 + 1) = fallL (itF s L (k - (n + 1) + 1)) s := rfl
    rw [e1]
    generalize hj : k - (n + 1) = j at *
    simp [gNe_land, ne, hm, sp_raw_fall h2.1 hs, e3]
    omega
  · subst hi
    have e1 : itF s L (k - 0 + 1) = itF s L (k - 0) := by
      have h1 := itF_is (s := s) h k
      exact (fall_eq h1.1).mpr he.1
    rw [e1]
    simp [gNe_land]
  · simp
    exact ⟨rfl, rfl⟩
end Wk
namespace Wk
open PySem PySem.Spec PyProof.Rows L2 Pv
@[simp] theorem ixV_pair0 {a : Sl} {x y : PV} : ixV a (some (.tup [x, y])) (some (.int 0)) = some (.val x) := rfl
@[simp] theorem ixV_pair1 {a : Sl} {x y : PV} : ixV a (some (.tup [x, y])) (some (.int 1)) = some (.val y) := rfl
section
variable {L : Land} {w : Nat} {s : Int} {k : Nat}
theorem sp_falls_many (h : LandIs L w) (ho : landOk L = true) (h1 : 1 ≤ s) (h2 : s ≤ 1000) (he : Ends L s k) (hk : k ≤ 20000) : f_falls_many [pvLand L, .int s] = some (.int k, [pvLand L, .int s]) := by
  refine fn_val (wp_exit rfl ?_)
  unfold b_falls_many
  simp [sp_check_steep ho h1 h2, sp_all_falls (s := s) h (by omega) he hk]
theorem sp_settled (h : LandIs L w) (ho : landOk L = true) (h1 : 1 ≤ s) (h2 : s ≤ 1000) (he : Ends L s k) (hk : k ≤ 20000) : f_settled [pvLand L, .int s] = some (pvLand (itF s L k), [pvLand L, .int s]) := by
  refine fn_val (wp_exit rfl ?_)
  unfold b_settled
  simp [sp_check_steep ho h1 h2, sp_all_falls (s := s) h (by omega) he hk]
theorem sp_least_steep (h : LandIs L w) (ho : landOk L = true) : f_least_steep [pvLand L] = some (.int (greatest L), [pvLand L]) := by
  refine fn_val (wp_exit rfl ?_)
  unfold b_least_steep
  simp [sp_check_land ho, sp_raw_greatest h]
theorem hts_len (h : LandIs L w) : (hts L).length ≤ 64 := by
  unfold hts
  have e : ∀ M : Land, (∀ r ∈ M, r.length = w) → M.flatten.length = M.length * w := by
    intro M
    induction M with
    | nil => intro _; simp
    | cons r M ih =>
      intro hr
      rw [List.flatten_cons, List.length_append, ih fun q hq => hr q (by simp [hq]), hr r (by simp), List.length_cons, Nat.add_mul, Nat.one_mul, Nat.add_comm]
  rw [e L h.row]
  have := Nat.mul_le_mul h.h2 h.w2
  omega
def movedSum (L M : Land) : Int := (((hts L).zip (hts M)).map fun p => iabs (p.1 - p.2)).sum
@[simp] theorem setT_two {i j : Nat} {x y : PV} {env : PEnv} : setT (.tp [.nm i, .nm j]) (.tup [x, y]) env = some (setE (setE env i (.val x)) j (.val y)) := by simp
theorem zip_pis {a b : List Int} : ((pis a).zip (pis b)).map (fun p => PV.tup [p.1, p.2]) = (a.zip b).map fun p => PV.tup [.int p.1, .int p.2] := by
  unfold pis
  rw [List.zip_map, List.map_map]
  rfl
theorem sp_moved_by (h : LandIs L w) (ho : landOk L = true) (h1 : 1 ≤ s) (h2 : s ≤ 1000) (he : Ends L s k) (hk : k ≤ 20000) : f_moved_by_falls [pvLand L, .int s] = some (.int (movedSum L (itF s L k)), [pvLand L, .int s]) := by
  have hi := (itF_is (s := s) h k).1
  have l1 := hts_len h
  have l2 := hts_len hi
  refine fn_val (wp_exit rfl ?_)
  unfold b_moved_by_falls
  simp [sp_check_steep ho h1 h2, sp_all_falls (s := s) h (by omega) he hk, sp_all_heights (L := L) (by have : L.flatten.length ≤ 64 := l1; omega), sp_all_heights (L := itF s L k) (by have : (itF s L k).flatten.length ≤ 64 := l2; omega), zip_pis]
  refine ⟨by omega, ?_⟩
  refine wp_lcT (fun _ => true) (fun p => .int (iabs (p.1 - p.2))) (fun q hq => ?_) ?_
  · simp [iabs]
  · have e : (((hts L).zip (hts (itF s L k))).filter fun _ => true).map (fun p => PV.int (iabs (p.1 - p.2))) = pis (((hts L).zip (hts (itF s L k))).map fun p => iabs (p.1 - p.2)) := by simp [pis]
    rw [e]
    simp [movedSum]
end
/-! the law's own -/
theorem sp_lspots {L : Land} (h1 : 0 < L.length) (h2 : L.length ≤ 100) (h3 : wid L ≤ 100) : f_ulaw_spots [pvLand L] = some (.lst true (sps (spots L)), [pvLand L]) := sp_all_spots h1 h2 h3
theorem sp_lbeside {L : Land} {s : Spt} (h : 1 ≤ L.length) : f_ulaw_beside [pvLand L, pvS s] = some (.lst true (sps (beside L s)), [pvLand L, pvS s]) := by
  have hw : wid L = (rowAt L 0).length := rfl
  refine fn_val (wp_exit rfl ?_)
  unfold b_ulaw_beside
  simp
  have e : ([.tup [.int (s.1 - 1), .int s.2], .tup [.int s.1, .int (s.2 - 1)], .tup [.int s.1, .int (s.2 + 1)], .tup [.int (s.1 + 1), .int s.2]] : List PV) = (sidesOf s).map pvS := by
    simp [sidesOf, sidesL, pvS]
    omega
  rw [e]
  refine wp_lcT (inB L) (fun d => pvS d) (fun q hq => ?_) ?_
  · simp [ixV_land0 h]
    by_cases h1 : 0 ≤ q.1 <;> by_cases h2 : q.1 < (L.length : Int) <;> by_cases h3 : 0 ≤ q.2 <;> by_cases h4 : q.2 < ((rowAt L 0).length : Int) <;> simp [h1, h2, h3, h4, inB, hw]
  · simp [beside, sps]
theorem sp_lsteep {L : Land} {w : Nat} {s : Int} (h : LandIs L w) : f_ulaw_steep [pvLand L, .int s] = some (.lst true (prs (steep L s)), [pvLand L, .int s]) := by
  have hn := spots_len h
  have h8 := h.w2
  have hw := h.wd
  have hlen : ∀ a, ((steepG L s a).map fun b => (a, b)).length ≤ 4 := fun a => by
    rw [List.length_map]
    exact Nat.le_trans (List.length_filter_le _ _) beside_len
  refine fn_val (wp_exit rfl ?_)
  unfold b_ulaw_steep
  simp [sp_lspots (L := L) (by have := h.h1; omega) (by have := h.h2; omega) (by omega)]
  refine wp_forP (fun i e => ∃ x, e = [.val (pvLand L), .val (.int s), .val (.lst true (prs (pf (steepG L s) ((spots L).take i)))), x, .un]) (n := 0) ⟨.un, by simp [pf, prs]⟩ (fun i p e hp ⟨x, he⟩ => ?_) (fun e ⟨x, he⟩ => ?_)
  · subst he
    obtain ⟨a, ha, rfl⟩ := map_get hp
    have hin := (spots_in h.row h.wd (List.mem_of_getElem? ha)).1
    have e1 : pf (steepG L s) ((spots L).take (i + 1)) = pf (steepG L s) ((spots L).take i) ++ (steepG L s a).map fun b => (a, b) := by
      rw [take_snoc ha]
      simp [pf]
    have e2 : (pf (steepG L s) ((spots L).take i)).length ≤ 256 := by
      refine Nat.le_trans (flat_len (fun a => hlen a) _) ?_
      rw [List.length_take]
      omega
    have e3 := hlen a
    have e4 := beside_len (L := L) (s := a)
    simp [sp_lbeside h.h1]
    refine ⟨by omega, ?_⟩
    refine wp_lcT (fun b => decide (s < 0 - (ht L b - ht L a))) (fun b => pvP (a, b)) (fun q hq => ?_) ?_
    · have hq' := inB_in h.row h.wd (mem_beside.mp hq).1
      simp [sp_climb hin hq']
      intro _
      rfl
    · have e5 : ((beside L a).filter fun b => decide (s < 0 - (ht L b - ht L a))).map (fun b => pvP (a, b)) = prs ((steepG L s a).map fun b => (a, b)) := by simp [prs, steepG]
      rw [e5]
      generalize pf (steepG L s) ((spots L).take i) = A at e1 e2
      generalize (steepG L s a).map (fun b => (a, b)) = B at e1 e3
      simp [e1]
      omega
  · subst he
    simp [steep]
end Wk
namespace Pv
open PySem PySem.Spec PyProof.Rows L2
@[simp ↓] theorem wp_forP_nil {t : PV → PEnv → Option PEnv} {b : D Fl} {env : PEnv} {Q : Fl → PEnv → Prop} : WP (forP t b []) env Q = Q .nx env := by unfold WP; rfl
@[simp ↓] theorem wp_forP_cons {t : PV → PEnv → Option PEnv} {b : D Fl} {p : PV} {ps : List PV} {env : PEnv} {Q : Fl → PEnv → Prop} : WP (forP t b (p :: ps)) env Q = gate (t p env) fun e1 => WP b e1 fun f e2 => match f with
    | .nx => WP (forP t b ps) e2 Q
    | .ct => WP (forP t b ps) e2 Q
    | .bk => Q .nx e2
    | .rt r => Q (.rt r) e2 := by
  unfold WP
  rw [forP]
  cases t p env with
  | none => rfl
  | some e1 =>
    dsimp only
    rw [gate_some]
    cases e : b e1 with
    | no => rfl
    | ex _ _ => rfl
    | ok f e2 => cases f <;> rfl
def storeO (x y p : PV) : Option PV := match x, y with
  | .lst true xs, .int i => match ixN xs.length i with
    | some k => if PV.fzs xs = true then some (.lst true (xs.set k p)) else none
    | none => none
  | _, _ => none
@[simp ↓] theorem gate_ix {a b : D Sl} {p : PV} {env : PEnv} {k : PEnv → Prop} : gate (setT (.ix a b) p env) k = WP a env fun x e1 => WP b e1 fun y e2 => gate (storeIx x y p e2) k := by
  unfold WP
  rw [setT]
  cases a env with
  | no => rfl
  | ex _ _ => rfl
  | ok x e1 =>
    dsimp only
    cases b e1 <;> rfl
@[simp] theorem storeIx_al {j : Nat} {q : Path} {b : Sl} {p : PV} {env : PEnv} : storeIx (.al j q) b p env = (look env j q).bind fun x => (cont env b).bind fun y => (storeO x y p).map fun z => putE env j q z := by
  unfold storeIx
  dsimp only
  generalize look env j q = u
  generalize cont env b = v
  cases u with
  | none => cases v <;> rfl
  | some x =>
    cases v with
    | none => cases x with
      | lst o xs => cases o <;> rfl
      | _ => rfl
    | some y =>
      cases x with
      | lst o xs =>
        cases o with
        | false => cases y <;> rfl
        | true =>
          cases y with
          | int i =>
            dsimp only [Option.bind, storeO]
            cases ixN xs.length i with
            | none => rfl
            | some k =>
              dsimp only
              by_cases h : PV.fzs xs = true
              · rw [if_pos h, if_pos h]; rfl
              · rw [if_neg h, if_neg h]; rfl
          | _ => rfl
      | _ => cases y <;> rfl
@[simp] theorem kill_al {i j : Nat} {p q : Path} : kill j p (.al i q) = if i = j ∧ p <+: q ∧ p ≠ q then .un else .al i q := rfl
end Pv
namespace Wk
open PySem PySem.Spec PyProof.Rows L2 Pv
def ownRows (L : Land) : List PV := L.map fun r => .lst true (pis r)
theorem ixN_nat {n : Nat} {i : Int} (h0 : 0 ≤ i) (h1 : i < n) : ixN n i = some i.toNat := by
  unfold ixN
  rw [if_pos h0, if_pos h1]
@[simp] theorem len_own {L : Land} : (ownRows L).length = L.length := by simp [ownRows]
theorem own_get {L : Land} {i : Int} (h0 : 0 ≤ i) (h1 : i < L.length) : (ownRows L)[i.toNat]? = some (.lst true (pis (rowAt L i))) := by
  unfold ownRows rowAt
  have : i.toNat < L.length := by omega
  simp [List.getD, this]
theorem ixV_own {j : Nat} {L : Land} {i : Int} (h0 : 0 ≤ i) (h1 : i < L.length) : ixV (.al j []) (some (.lst true (ownRows L))) (some (.int i)) = some (.al j [i.toNat]) := by
  unfold ixV
  dsimp only
  rw [ixN_nat h0 (by simpa using h1)]
  dsimp only
  rw [own_get h0 h1]
  simp
theorem pis_get {r : List Int} {i : Int} (h0 : 0 ≤ i) (h1 : i < r.length) : (pis r)[i.toNat]? = some (.int (cellAt r i)) := by
  unfold pis cellAt
  have : i.toNat < r.length := by omega
  simp [List.getD, this]
theorem ixV_pis {a : Sl} {o : Bool} {r : List Int} {i : Int} (h0 : 0 ≤ i) (h1 : i < r.length) : ixV a (some (.lst o (pis r))) (some (.int i)) = some (.val (.int (cellAt r i))) := by
  unfold ixV
  dsimp only
  rw [ixN_nat h0 (by simpa using h1)]
  dsimp only
  rw [pis_get h0 h1]
  simp
theorem storeO_pis {r : List Int} {i v : Int} (h0 : 0 ≤ i) (h1 : i < r.length) : storeO (.lst true (pis r)) (.int i) (.int v) = some (.lst true (pis (r.set i.toNat v))) := by
  unfold storeO
  dsimp only
  rw [ixN_nat h0 (by simpa using h1)]
  dsimp only
  rw [if_pos fzs_i]
  unfold pis
  rw [List.map_set]
theorem put_own {L : Land} {k : Nat} {R : List Int} : PV.put [k] (.lst true (ownRows L)) (.lst true (pis R)) = .lst true (ownRows (L.set k R)) := by
  rw [put_lst]
  have e : (ownRows L).modify k (fun x => PV.put [] x (.lst true (pis R))) = ownRows (L.set k R) := by
    unfold ownRows
    refine List.ext_getElem? fun i => ?_
    rw [List.getElem?_modify, List.getElem?_map, List.getElem?_map, List.getElem?_set]
    by_cases h : k = i
    · subst h
      by_cases hl : k < L.length
      · simp [hl]
      · simp [hl]
    · simp [h]
  rw [e]
theorem gList_row {r : List Int} : gList [pvRow r] = some (.lst true (pis r)) := rfl
theorem frzs_own {L : Land} : PV.frzs (ownRows L) = L.map fun r => .lst false (pis r) := by
  unfold ownRows
  induction L with
  | nil => rfl
  | cons r L ih => rw [List.map_cons, PV.frzs, ih, frz_lst, frzs_i]; rfl
theorem at_own {L : Land} {k : Nat} : PV.at [k] (.lst true (ownRows L)) = (ownRows L)[k]? := by
  rw [at_lst']
  cases (ownRows L)[k]? <;> simp
theorem sp_lbehind {L : Land} {w : Nat} {p : Pr} (h : LandIs L w) (h1 : InL L p.1) (h2 : InL L p.2) : f_ulaw_behind [pvLand L, pvP p] = some (pvLand (moved L p), [pvLand L, pvP p]) := by
  have h8 := h.h2
  have hM := h.set (v := ht L p.1 + -1) h1
  have h2' := h.inL hM set_len h2
  obtain ⟨a1, a2, a3, a4⟩ := h1
  obtain ⟨b1, b2, b3, b4⟩ := h2'
  refine fn_val (wp_exit rfl ?_)
  unfold b_ulaw_behind
  simp [pvLand]
  refine ⟨by omega, ?_⟩
  refine wp_lcT (fun _ => true) (fun r => .lst true (pis r)) (fun q hq => ?_) ?_
  · simp [gList_row]
  · have e : (L.filter fun _ => true).map (fun r => PV.lst true (pis r)) = ownRows L := by simp [ownRows]
    rw [e]
    have hset : L.set p.1.1.toNat ((rowAt L p.1.1).set p.1.2.toNat (cellAt (rowAt L p.1.1) p.1.2 + -1)) = setC L p.1 (ht L p.1 + -1) := rfl
    simp [ixV_own a1 a2, at_own, own_get a1 a2, ixV_pis a3 a4, storeO_pis a3 a4, put_own, hset]
    have hmv : setC (setC L p.1 (ht L p.1 + -1)) p.2 (ht (setC L p.1 (ht L p.1 + -1)) p.2 + 1) = moved L p := by
      unfold moved
      rw [show ht L p.1 + -1 = ht L p.1 - 1 by omega]
    have hl : (setC L p.1 (ht L p.1 + -1)).length = L.length := set_len
    generalize setC L p.1 (ht L p.1 + -1) = M at *
    have hset2 : M.set p.2.1.toNat ((rowAt M p.2.1).set p.2.2.toNat (cellAt (rowAt M p.2.1) p.2.2 + 1)) = setC M p.2 (ht M p.2 + 1) := rfl
    simp [ixV_own b1 b2, at_own, own_get b1 b2, ixV_pis b3 b4, storeO_pis b3 b4, put_own, hset2, hmv, frzs_own]
    have hl2 : (moved L p).length = L.length := by unfold moved; rw [set_len, set_len]
    refine ⟨by omega, ?_⟩
    refine wp_lcT (fun _ => true) (fun r => pvRow r) (fun q hq => ?_) ?_
    · simp [pvRow]
    · have e : ((moved L p).filter fun _ => true).map (fun r => pvRow r) = rowsP (moved L p) := by simp [rowsP]
      rw [e]
      simp
end Wk
namespace Wk
open PySem PySem.Spec PyProof.Rows L2 Pv
theorem gEq_prs_nil {o o' : Bool} {l : List Pr} : gEq [.lst o (prs l), .lst o' []] = some (.bl (decide (l = []))) := by
  show ((peq (.lst o (prs l)) (.lst o' [])).map PV.bl) = _
  have h1 : pd (.lst o (prs l)) = some (.list (l.map dP)) := by rw [pd, pds_P]
  have h2 : pd (.lst o' []) = some (.list []) := rfl
  have r2 : ∀ L : List Pr, PyData.canLayAll0 (L.map dP) = true := by
    intro L
    induction L with
    | nil => simp [PyData.canLayAll0]
    | cons i r ih => simp [PyData.canLayAll0, PyData.canLay0, dP, dS, ih]
  have d2 : ∀ l : List Pr, PyData.depthAll (l.map dP) ≤ 10 := by
    intro l
    induction l with
    | nil => simp [PyData.depthAll]
    | cons i l ih =>
      simp only [List.map_cons, PyData.depthAll]
      simp [PyData.depth, PyData.depthAll, dP, dS]
      omega
  have s1 : SeqAt.shaped (.list (l.map dP)) = true := by
    unfold SeqAt.shaped
    have := d2 l
    simp [PyData.canLay0, PyData.depth, r2]
    omega
  have s2 : SeqAt.shaped (.list []) = true := by
    unfold SeqAt.shaped
    simp [PyData.canLay0, PyData.canLayAll0, PyData.depth, PyData.depthAll]
  unfold peq
  rw [h1, h2]
  dsimp only
  rw [if_pos ⟨s1, s2⟩]
  cases l with
  | nil => simp [PyData.eqv, PyData.eqvAll]
  | cons p l => simp [PyData.eqv, PyData.eqvAll]
theorem rng_get {n i : Nat} {p : PV} (h : ((List.range n).map fun (k : Nat) => PV.int (k : Int))[i]? = some p) : i < n ∧ p = .int (i : Int) := by
  obtain ⟨k, hk, rfl⟩ := map_get h
  obtain ⟨h1, h2⟩ := List.getElem?_eq_some_iff.mp hk
  simp at h1 h2
  subst h2
  exact ⟨h1, rfl⟩
theorem sp_lsettled {L : Land} {w : Nat} {s : Int} (h : LandIs L w) : ∃ r as, f_ulaw_settled [pvLand L, .int s] = some (r, as) ∧ ((∃ k, k ≤ 800 ∧ Ends L s k ∧ r = .tup [pvLand (itF s L k), .int k]) ∨ r = .non) ∧ as = [pvLand L, .int s] := by
  refine wp_exit rfl ?_
  unfold b_ulaw_settled
  have hb : okB 801 := by decide
  simp [hb, rangeP0]
  refine wp_forP (fun i e => (∀ j, j < i → steep (itF s L j) s ≠ []) ∧ ∃ x y, e = [.val (pvLand L), .val (.int s), .val (pvLand (itF s L i)), x, y]) (n := 0) ⟨fun j hj => by omega, .un, .un, rfl⟩ (fun i p e hp ⟨hne, x, y, he⟩ => ?_) (fun e ⟨hne, x, y, he⟩ => ?_)
  · subst he
    obtain ⟨hi, rfl⟩ := rng_get hp
    rw [Nat.zero_add] at hne ⊢
    have hI := (itF_is (s := s) h i).1
    simp [sp_lsteep hI, gEq_prs_nil]
    cases e : steep (itF s L i) s with
    | nil =>
      simp
      exact ⟨i, by omega, ⟨e, hne⟩, rfl, rfl⟩
    | cons p l =>
      obtain ⟨h1, h2, _⟩ := steep_in hI (show p ∈ steep (itF s L i) s by rw [e]; simp)
      have e3 : moved (itF s L i) p = itF s L (i + 1) := by
        show _ = fallL (itF s L i) s
        unfold fallL
        rw [e]
      simp [ixV_prs, sp_lbehind hI h1 h2, e3]
      intro j hj
      by_cases hji : j = i
      · subst hji; rw [e]; simp
      · exact hne j (by omega)
  · subst he
    simp
def units (L : Land) : Int := (L.map List.sum).sum
theorem gSum_row {r : List Int} : gSum [pvRow r] = some (.int r.sum) := by
  unfold pvRow
  rw [gSum_tup, intsP_i]
  rfl
theorem sp_lunits {L : Land} (h : L.length ≤ 100) : f_ulaw_units [pvLand L] = some (.int (units L), [pvLand L]) := by
  refine fn_val (wp_exit rfl ?_)
  unfold b_ulaw_units
  simp [pvLand]
  refine ⟨by omega, ?_⟩
  refine wp_lcT (fun _ => true) (fun r => .int r.sum) (fun q hq => ?_) ?_
  · simp [gSum_row]
  · have e : (L.filter fun _ => true).map (fun r => PV.int r.sum) = pis (L.map List.sum) := by simp [pis]
    rw [e]
    simp [units]
end Wk
namespace Wk
open PySem PySem.Spec PyProof.Rows L2 Pv
structure Hand where
  cs : List Int
  i : Int
  a : Int
  b : Int
  c : Int
def pvH (h : Hand) : PV := .lst true [.lst false (pis h.cs), .int h.i, .int h.a, .int h.b, .int h.c]
structure HandOk (h : Hand) : Prop where
  i0 : 0 ≤ h.i
  a0 : 0 ≤ h.a
  cs0 : ∀ x ∈ h.cs, 0 ≤ x
section
variable {h : Hand} {e : Sl} {v : Int}
@[simp] theorem fz_H : (pvH h).fz = false := by simp [pvH]
@[simp] theorem flat_H : flatP (pvH h) = true := by simp [pvH]
theorem ixV_H0 : ixV e (some (pvH h)) (some (.int 0)) = some (.val (.lst false (pis h.cs))) := by simp [ixV, pvH, ixN]
theorem ixV_H1 : ixV e (some (pvH h)) (some (.int 1)) = some (.val (.int h.i)) := by simp [ixV, pvH, ixN]
theorem ixV_H2 : ixV e (some (pvH h)) (some (.int 2)) = some (.val (.int h.a)) := by simp [ixV, pvH, ixN]
theorem ixV_H3 : ixV e (some (pvH h)) (some (.int 3)) = some (.val (.int h.b)) := by simp [ixV, pvH, ixN]
theorem ixV_H4 : ixV e (some (pvH h)) (some (.int 4)) = some (.val (.int h.c)) := by simp [ixV, pvH, ixN]
theorem st_H1 : storeO (pvH h) (.int 1) (.int v) = some (pvH { h with i := v }) := by simp [storeO, pvH, ixN]
theorem st_H2 : storeO (pvH h) (.int 2) (.int v) = some (pvH { h with a := v }) := by simp [storeO, pvH, ixN]
theorem st_H3 : storeO (pvH h) (.int 3) (.int v) = some (pvH { h with b := v }) := by simp [storeO, pvH, ixN]
theorem st_H4 : storeO (pvH h) (.int 4) (.int v) = some (pvH { h with c := v }) := by simp [storeO, pvH, ixN]
end
theorem mulOk_r {a k : Int} (h1 : -18446744073709551616 < k) (h2 : k < 18446744073709551616) : mulOk a k = true := by
  simp [mulOk, h1, h2]
theorem mulOk_l {a k : Int} (h1 : -18446744073709551616 < k) (h2 : k < 18446744073709551616) : mulOk k a = true := by
  simp [mulOk, h1, h2]
theorem mulOk_mod {x m y : Int} (h0 : 0 < m) (h1 : m < 18446744073709551616) : mulOk (x % m) y = true := by
  have h2 := Int.emod_nonneg x (show m ≠ 0 by omega)
  have h3 := Int.emod_lt_of_pos x h0
  exact mulOk_l (by omega) (by omega)
theorem log_ok {b : Int} (h0 : 0 < b) (h1 : b < 4611686018427387904) : b.natAbs.log2 < 9000 := by
  have : b.natAbs.log2 < 62 := by
    rw [Nat.log2_lt (by omega)]
    have : (2 : Nat) ^ 62 = 4611686018427387904 := by decide
    omega
  omega
theorem gPow_int {a b : Int} : gPow [.int a, .int b] = if 0 ≤ b ∧ b ≤ 1000000 ∧ a.natAbs < 2 ^ 64 then some (.int (a ^ b.toNat)) else none := rfl
theorem gPow_18 : gPow [.int 10, .int 18] = some (.int 1000000000000000000) := by
  rw [gPow_int, if_pos (by decide)]
  rfl
theorem gDiv_ok {a b : Int} (h0 : 0 < b) (h1 : b < 4611686018427387904) : gDiv [.int a, .int b] = some (.int (a / b)) := by
  rw [gDiv_int, if_pos ⟨h0, log_ok h0 h1⟩]
theorem cell_nn {cs : List Int} (h : ∀ x ∈ cs, 0 ≤ x) (i : Int) : 0 ≤ cellAt cs i := by
  unfold cellAt
  rw [List.getD]
  cases e : cs[i.toNat]? with
  | none => simp
  | some x => simpa using h x (List.mem_of_getElem? e)
theorem sp_draw {h : Hand} {m : Int} (ok : HandOk h) (hm : 0 < m) (hm2 : m < 1000000) : ∃ r as, f_ulaw_draw [pvH h, .int m] = some (r, as) ∧ ∃ k h', r = .int k ∧ as = [pvH h', .int m] ∧ 0 ≤ k ∧ k < m ∧ HandOk h' := by
  have fin : ∀ x : Int, 0 ≤ x % m ∧ x % m < m := fun x => ⟨Int.emod_nonneg x (by omega), Int.emod_lt_of_pos x hm⟩
  refine wp_exit rfl ?_
  unfold b_ulaw_draw
  have l1 : Nat.log2 1009 < 9000 := by decide
  have l2 : Nat.log2 2003 < 9000 := by decide
  have l3 : Nat.log2 16 < 9000 := by decide
  have m1 : ∀ x, mulOk 7919 x = true := fun x => mulOk_l (by decide) (by decide)
  have m2 : ∀ x y, mulOk (x % 2147483647) y = true := fun x y => mulOk_mod (by decide) (by decide)
  have hm3 : m < 4611686018427387904 := by omega
  simp [ixV_H2, ixV_H1, ixV_H0, gLen_lst]
  by_cases h2 : h.a = 0
  · by_cases hi : h.i < (h.cs.length : Int)
    · have hc := cell_nn ok.cs0 h.i
      by_cases hb : 1000000000000000000 ≤ cellAt h.cs h.i
      · have hp : 0 < cellAt h.cs h.i := by omega
        simp [h2, hi, ixV_H0, ixV_H1, ixV_H2, ixV_H3, ixV_H4, ixV_pis ok.i0 hi, st_H1, st_H2, st_H3, st_H4, mulOk_r, gPow_18, hb, gDiv_ok hm hm3, hp, hm]
        exact ⟨_, rfl, (fin _).1, (fin _).2, ⟨by have := ok.i0; show 0 ≤ h.i + 1; omega, Int.ediv_nonneg hc (by omega), ok.cs0⟩⟩
      · simp [h2, hi, ixV_H0, ixV_H1, ixV_H2, ixV_H3, ixV_H4, ixV_pis ok.i0 hi, st_H1, st_H2, st_H3, st_H4, mulOk_r, gPow_18, hb, l1, l2, l3, m1, m2, hm]
        exact ⟨_, rfl, (fin _).1, (fin _).2, ⟨by have := ok.i0; show 0 ≤ h.i + 1; omega, Int.le_refl 0, ok.cs0⟩⟩
    · simp [h2, hi, ixV_H0, ixV_H1, ixV_H2, ixV_H3, ixV_H4, st_H1, st_H2, st_H3, st_H4, mulOk_r, l1, l2, l3, m1, m2, hm]
      exact ⟨_, rfl, (fin _).1, (fin _).2, ⟨ok.i0, Int.le_refl 0, ok.cs0⟩⟩
  · have hp : 0 < h.a := by have := ok.a0; omega
    simp [h2, hp, ixV_H0, ixV_H1, ixV_H2, ixV_H3, ixV_H4, st_H1, st_H2, st_H3, st_H4, gDiv_ok hm hm3, hm]
    exact ⟨log_ok hm hm3, _, rfl, (fin _).1, (fin _).2, ⟨ok.i0, Int.ediv_nonneg ok.a0 (by omega), ok.cs0⟩⟩
end Wk
namespace Pv
open PySem PySem.Spec PyProof.Rows L2
/-- what a def does, by what it tells and leaves -/
def FW (f : FnD) (args : List PV) (R : PV → List PV → Prop) : Prop := ∃ r as, f args = some (r, as) ∧ R r as
theorem gate_fw {f : FnD} {args : List PV} {R : PV → List PV → Prop} {k : PV × List PV → Prop} (h : FW f args R) (hk : ∀ r as, R r as → k (r, as)) : gate (f args) k := by
  obtain ⟨r, as, h1, h2⟩ := h
  rw [h1]
  exact hk r as h2
end Pv
namespace Wk
open PySem PySem.Spec PyProof.Rows L2 Pv
/-- a drawn number -/
theorem draw {h : Hand} {m : Int} (ok : HandOk h) (hm : 0 < m) (hm2 : m < 1000000) : ∃ k h', f_ulaw_draw [pvH h, .int m] = some (.int k, [pvH h', .int m]) ∧ 0 ≤ k ∧ k < m ∧ HandOk h' := by
  obtain ⟨r, as, e, k, h', rfl, rfl, h1, h2, h3⟩ := sp_draw ok hm hm2
  exact ⟨k, h', e, h1, h2, h3⟩
/-- one of some -/
theorem any {h : Hand} {xs : List PV} {o : Bool} (ok : HandOk h) (hz : PV.fzs xs = true) (hn : 0 < xs.length) (hl : xs.length < 1000000) :
    ∃ x h', x ∈ xs ∧ f_ulaw_any [pvH h, .lst o xs] = some (x, [pvH h', .lst o xs]) ∧ HandOk h' := by
  obtain ⟨k, h', e, h1, h2, h3⟩ := draw (m := xs.length) ok (by omega) (by omega)
  have hk : k.toNat < xs.length := by omega
  obtain ⟨x, hg⟩ : ∃ x, xs[k.toNat]? = some x := ⟨_, List.getElem?_eq_getElem hk⟩
  have hf : x.fz = true := PV.fzs_mem hz (List.mem_of_getElem? hg)
  refine ⟨x, h', List.mem_of_getElem? hg, ?_, h3⟩
  refine fn_val (wp_exit rfl ?_)
  unfold b_ulaw_any
  have e2 : ∀ a : Sl, ixV a (some (PV.lst o xs)) (some (.int k)) = some (.val x) := fun a => by
    unfold ixV
    dsimp only
    rw [ixN_nat h1 h2]
    dsimp only
    rw [hg]
    dsimp only
    rw [if_pos hf]
  cases o with
  | true => simp [e, hz, e2]
  | false => simp [e, hz, e2]
theorem sp_hand {ns : List Int} (hn : ns.length ≤ 1000) : ∃ h as, f_ulaw_hand [.frl (ns.map .int)] = some (pvH h, as) ∧ HandOk h := by
  have key : ∃ r as, f_ulaw_hand [.frl (ns.map .int)] = some (r, as) ∧ ∃ h, r = pvH h ∧ HandOk h := by
    refine wp_exit rfl ?_
    unfold b_ulaw_hand
    have hc : cutO (some (.frl (ns.map PV.int))) none (some 63) = some (.lst true (pis (ns.take 63))) := by
      show some (PV.lst true (cutP (ns.map PV.int) none (some 63))) = _
      have : cutP (ns.map PV.int) none (some 63) = pis (ns.take 63) := by
        unfold cutP HT.sIx pis
        simp [List.map_take]
      rw [this]
    have hp : gPow [.int 10, .int 40] = some (.int (10 ^ 40)) := by
      rw [gPow_int, if_pos (by decide)]
      rfl
    have hpos : (0 : Int) < 10 ^ 40 := by decide
    simp [hc]
    refine ⟨by omega, ?_⟩
    refine wp_lcT (fun _ => true) (fun x => .int (iabs x % 10 ^ 40)) (fun q hq => ?_) ?_
    · simp [hp, hpos, iabs]
    · have e : ((ns.take 63).filter fun _ => true).map (fun x => PV.int (iabs x % 10 ^ 40)) = pis ((ns.take 63).map fun x => iabs x % 10 ^ 40) := by
        simp [pis]
        rfl
      rw [e]
      generalize hg : (ns.take 63).map (fun x => iabs x % 10 ^ 40) = cs
      simp [mulOk_l]
      refine ⟨⟨cs, 0, 0, 6607 + 17 * cs.length, 0⟩, rfl, ⟨Int.le_refl 0, Int.le_refl 0, fun x hx => ?_⟩⟩
      have hx : x ∈ cs := hx
      rw [← hg, List.mem_map] at hx
      obtain ⟨y, _, rfl⟩ := hx
      exact Int.emod_nonneg _ (by decide)
  obtain ⟨r, as, h1, h, rfl, h2⟩ := key
  exact ⟨h, as, h1, h2⟩
end Wk
namespace Wk
open PySem PySem.Spec PyProof.Rows L2 Pv
def inR (m : Int) (L : Land) : Prop := ∀ r ∈ L, ∀ x ∈ r, 0 ≤ x ∧ x ≤ m
theorem cell_in {r : List Int} {m i : Int} (h : ∀ x ∈ r, 0 ≤ x ∧ x ≤ m) (h0 : 0 ≤ i) (h1 : i < r.length) : 0 ≤ cellAt r i ∧ cellAt r i ≤ m := by
  unfold cellAt
  have : i.toNat < r.length := by omega
  simp [List.getD, this]
  exact h _ (List.getElem_mem this)
theorem ixV_last {a : Sl} {o : Bool} {r : List Int} {x : Int} (h : r ≠ []) (e : r.getLast? = some x) : ixV a (some (.lst o (pis r))) (some (.int (-1))) = some (.val (.int x)) := by
  unfold ixV
  have hl : 0 < r.length := List.length_pos_iff.mpr h
  have e1 : ixN (pis r).length (-1) = some (r.length - 1) := by
    unfold ixN
    rw [if_neg (by omega), if_pos (by simp; omega)]
    simp
    omega
  dsimp only
  rw [e1]
  dsimp only
  rw [List.getLast?_eq_getElem?] at e
  have e2 : (pis r)[r.length - 1]? = some (.int x) := by
    unfold pis
    rw [List.getElem?_map, e]
    rfl
  rw [e2]
  simp
theorem gEq_pis_nil {o o' : Bool} {l : List Int} : gNe [.lst o (pis l), .lst o' []] = some (.bl (!decide (l = []))) := by
  show ((peq (.lst o (pis l)) (.lst o' [])).map fun b => PV.bl (!b)) = _
  have h1 : pd (.lst o (pis l)) = some (.list (l.map .int)) := by rw [pd, pds_i]
  have h2 : pd (.lst o' []) = some (.list []) := rfl
  have r2 : ∀ L : List Int, PyData.canLayAll0 (L.map .int) = true := by
    intro L
    induction L with
    | nil => simp [PyData.canLayAll0]
    | cons i r ih => simp [PyData.canLayAll0, PyData.canLay0, ih]
  have d2 : ∀ l : List Int, PyData.depthAll (l.map PyData.int) ≤ 10 := by
    intro l
    induction l with
    | nil => simp [PyData.depthAll]
    | cons i l ih =>
      simp only [List.map_cons, PyData.depthAll]
      simp [PyData.depth]
      omega
  have s1 : SeqAt.shaped (.list (l.map .int)) = true := by
    unfold SeqAt.shaped
    have := d2 l
    simp [PyData.canLay0, PyData.depth, r2]
    omega
  have s2 : SeqAt.shaped (.list []) = true := by
    unfold SeqAt.shaped
    simp [PyData.canLay0, PyData.canLayAll0, PyData.depth, PyData.depthAll]
  unfold peq
  rw [h1, h2]
  dsimp only
  rw [if_pos ⟨s1, s2⟩]
  cases l with
  | nil => simp [PyData.eqv, PyData.eqvAll]
  | cons p l => simp [PyData.eqv, PyData.eqvAll]
theorem gNe_rows_nil {o o' : Bool} {l : Land} : gNe [.lst o (rowsP l), .lst o' []] = some (.bl (!decide (l = []))) := by
  show ((peq (.lst o (rowsP l)) (.lst o' [])).map fun b => PV.bl (!b)) = _
  have h1 : pd (.lst o (rowsP l)) = some (.list (l.map dRow)) := by rw [pd, pds_r]
  have h2 : pd (.lst o' []) = some (.list []) := rfl
  have s0 := shaped_land (L := l)
  have s1 : SeqAt.shaped (.list (l.map dRow)) = true := by
    unfold SeqAt.shaped dLand at s0
    unfold SeqAt.shaped
    simp [PyData.canLay0, PyData.depth] at s0 ⊢
    exact s0
  have s2 : SeqAt.shaped (.list []) = true := by
    unfold SeqAt.shaped
    simp [PyData.canLay0, PyData.canLayAll0, PyData.depth, PyData.depthAll]
  unfold peq
  rw [h1, h2]
  dsimp only
  rw [if_pos ⟨s1, s2⟩]
  cases l with
  | nil => simp [PyData.eqv, PyData.eqvAll]
  | cons p l => simp [PyData.eqv, PyData.eqvAll]
noncomputable def nearD : D Fl := dset 10 (dif (dtst (dop (fun a b => dfn gNe [a, b]) (dname 8) (dlst dnil))) (dlst (dcons (dop dixE (dname 8) (dun (fun a => dfn gNeg [a]) (dcon (.int 1)))) dnil)) (dif (dtst (dop (fun a b => dfn gNe [a, b]) (dname 5) (dlst dnil))) (dlst (dcons (dop dixE (dop dixE (dname 5) (dun (fun a => dfn gNeg [a]) (dcon (.int 1)))) (dcon (.int 0))) dnil)) (dlst (dcons (dcallF f_ulaw_draw (dcons (dname 0) (dcons (dop (fun a b => dfn gAdd [a, b]) (dname 2) (dcon (.int 1))) dnil))) dnil))))
noncomputable def drawnD : D Fl := dset 11 (dif (dtst (dop (fun a b => dfn gLt [a, b]) (dname 6) (dname 2))) (dop (fun a b => dfn gSub [a, b]) (dop (fun a b => dfn gAdd [a, b]) (dop dixE (dname 10) (dcon (.int 0))) (dcallF f_ulaw_draw (dcons (dname 0) (dcons (dop (fun a b => dfn gAdd [a, b]) (dop (fun a b => dfn gMul [a, b]) (dcon (.int 2)) (dname 6)) (dcon (.int 1))) dnil)))) (dname 6)) (dcallF f_ulaw_draw (dcons (dname 0) (dcons (dop (fun a b => dfn gAdd [a, b]) (dname 2) (dcon (.int 1))) dnil))))
def envL (h : Hand) (m t hi wi : Int) (R : Land) (st i : Int) (l : List Int) (j : Sl) (x y : Sl) : PEnv :=
  [.val (pvH h), .val (.int m), .val (.int t), .val (.int hi), .val (.int wi), .val (.lst true (rowsP R)), .val (.int st), .val (.int i), .val (.lst true (pis l)), j, x, y]
theorem ixV_lastr {a : Sl} {o : Bool} {R : Land} {r : List Int} (e : R.getLast? = some r) : ixV a (some (.lst o (rowsP R))) (some (.int (-1))) = some (.val (pvRow r)) := by
  have h : R ≠ [] := fun z => by rw [z] at e; cases e
  unfold ixV
  have hl : 0 < R.length := List.length_pos_iff.mpr h
  have e1 : ixN (rowsP R).length (-1) = some (R.length - 1) := by
    unfold ixN
    rw [if_neg (by omega), if_pos (by simp; omega)]
    simp
    omega
  dsimp only
  rw [e1]
  dsimp only
  rw [List.getLast?_eq_getElem?] at e
  have e2 : (rowsP R)[R.length - 1]? = some (pvRow r) := by
    unfold rowsP
    rw [List.getElem?_map, e]
    rfl
  rw [e2]
  simp
theorem near_ok {h : Hand} {m t hi wi st i j : Int} {R : Land} {l : List Int} {x y : Sl} (ok : HandOk h) (ht1 : 0 ≤ t) (ht2 : t ≤ 1000) (hR : ∀ r ∈ R, 0 < r.length) :
    WP nearD (envL h m t hi wi R st i l (.val (.int j)) x y) fun f e => f = .nx ∧ ∃ h' v y', HandOk h' ∧ e = envL h' m t hi wi R st i l (.val (.int j)) (.val (.lst true [.int v])) y' := by
  unfold nearD envL
  simp [gEq_pis_nil, gNe_rows_nil]
  by_cases hl : l = []
  · by_cases hr : R = []
    · obtain ⟨k, h', e, _, _, ok'⟩ := draw (m := t + 1) ok (by omega) (by omega)
      simp [hl, hr, e]
      exact ⟨_, ok', rfl⟩
    · obtain ⟨r, e⟩ : ∃ r, R.getLast? = some r := ⟨_, List.getLast?_eq_some_getLast hr⟩
      have h0 := hR r (List.mem_of_getLast? e)
      simp [hl, hr, ixV_lastr e, ixV_row (r := r) (i := 0) (by omega) (by omega)]
      exact ⟨_, ok, rfl⟩
  · obtain ⟨v, e⟩ : ∃ v, l.getLast? = some v := ⟨_, List.getLast?_eq_some_getLast hl⟩
    simp [hl, ixV_last hl e]
    exact ⟨_, ok, rfl⟩
theorem ixV_one0 {a : Sl} {o : Bool} {v : Int} : ixV a (some (.lst o [.int v])) (some (.int 0)) = some (.val (.int v)) := by
  simp [ixV, ixN]
theorem drawn_ok {h : Hand} {m t hi wi st i j v : Int} {R : Land} {l : List Int} {y : Sl} (ok : HandOk h) (ht1 : 0 ≤ t) (ht2 : t ≤ 1000) (hs1 : 0 ≤ st) (hs2 : st ≤ 1000) :
    WP drawnD (envL h m t hi wi R st i l (.val (.int j)) (.val (.lst true [.int v])) y) fun f e => f = .nx ∧ ∃ h' v', HandOk h' ∧ e = envL h' m t hi wi R st i l (.val (.int j)) (.val (.lst true [.int v])) (.val (.int v')) := by
  unfold drawnD envL
  simp
  by_cases c : st < t
  · obtain ⟨k, h', e, _, _, ok'⟩ := draw (m := 2 * st + 1) ok (by omega) (by omega)
    simp [c, e]
    rw [ixV_one0]
    have hm : mulOk 2 st = true := mulOk_l (by decide) (by decide)
    simp [hm]
    exact ⟨_, ok', rfl⟩
  · obtain ⟨k, h', e, _, _, ok'⟩ := draw (m := t + 1) ok (by omega) (by omega)
    simp [c, e]
    exact ⟨_, ok', rfl⟩
end Wk
namespace Wk
open PySem PySem.Spec PyProof.Rows L2 Pv
noncomputable def colD : D Fl := dfor (.nm 9) (drange1 (dcons (dname 4) dnil)) (dseq nearD (dseq drawnD (dexpr (dmeth gAppend (dname 8) (dcons (dcall (dfn gMax) (dcons (dcon (.int 0)) (dcons (dcall (dfn gMin) (dcons (dname 2) (dcons (dname 11) dnil))) dnil))) dnil)))))
structure Plain (x : Sl) : Prop where
  r : ∀ k, killR k x = x
  k : ∀ k p, kill k p x = x
theorem plain_val {v : PV} : Plain (.val v) := ⟨fun k => by simp, fun k p => by simp⟩
theorem plain_un : Plain .un := ⟨fun k => by simp, fun k p => by simp⟩
theorem envL_cong {h m t hi wi R st i l j x y l' : _} (e : l = l') : envL h m t hi wi R st i l j x y = envL h m t hi wi R st i l' j x y := by rw [e]
theorem col_ok {h : Hand} {m t hi st i : Int} {wi : Nat} {R : Land} {j x y : Sl} (ok : HandOk h) (ht1 : 0 ≤ t) (ht2 : t ≤ 1000) (hs1 : 0 ≤ st) (hs2 : st ≤ 1000) (hR : ∀ r ∈ R, 0 < r.length) (hw : wi ≤ 100) (hx : Plain x) (hy : Plain y) (hj : Plain j) :
    WP colD (envL h m t hi wi R st i [] j x y) fun f e => f = .nx ∧ ∃ h' l j' x' y', Plain j' ∧ Plain x' ∧ Plain y' ∧ HandOk h' ∧ l.length = wi ∧ (∀ v ∈ l, 0 ≤ v ∧ v ≤ t) ∧ e = envL h' m t hi wi R st i l j' x' y' := by
  unfold colD
  have hb : WP (forP (setT (.nm 9)) (dseq nearD (dseq drawnD (dexpr (dmeth gAppend (dname 8) (dcons (dcall (dfn gMax) (dcons (dcon (.int 0)) (dcons (dcall (dfn gMin) (dcons (dname 2) (dcons (dname 11) dnil))) dnil))) dnil))))) (rangeP 0 wi 1)) (envL h m t hi wi R st i [] j x y) fun f e => f = .nx ∧ ∃ h' l j' x' y', Plain j' ∧ Plain x' ∧ Plain y' ∧ HandOk h' ∧ l.length = wi ∧ (∀ v ∈ l, 0 ≤ v ∧ v ≤ t) ∧ e = envL h' m t hi wi R st i l j' x' y' := by
    refine wp_forP (fun n e => ∃ h' l j' x' y', Plain j' ∧ Plain x' ∧ Plain y' ∧ HandOk h' ∧ l.length = n ∧ (∀ v ∈ l, 0 ≤ v ∧ v ≤ t) ∧ e = envL h' m t hi wi R st i l j' x' y') (n := 0) ⟨h, [], j, x, y, hj, hx, hy, ok, rfl, by simp, rfl⟩ ?_ ?_
    · rintro n p e hp ⟨h', l, j', x', y', hj', hx', hy', ok', hl, hv, rfl⟩
      obtain ⟨_, rfl⟩ := rangeP_get hp
      have hs : setT (.nm 9) (PV.int (0 + (n : Int) * 1)) (envL h' m t hi wi R st i l j' x' y') = some (envL h' m t hi wi R st i l (.val (.int (0 + (n : Int) * 1))) x' y') := by
        unfold envL
        simp [hx'.r 9, hy'.r 9]
      rw [hs, gate_some, wp_seq]
      have hv0 : Plain (.val (.int (0 + (n : Int) * 1))) := plain_val
      generalize (0 + (n : Int) * 1) = jj at *
      refine wp_mono (near_ok ok' ht1 ht2 hR) ?_
      rintro f e ⟨rfl, h2, v, y2, ok2, rfl⟩
      simp only [thenF]
      rw [wp_seq]
      refine wp_mono (drawn_ok ok2 ht1 ht2 hs1 hs2) ?_
      rintro f e ⟨rfl, h3, v3, ok3, rfl⟩
      simp only [thenF]
      unfold envL
      simp
      generalize hz : (if 0 < if v3 < t then v3 else t then if v3 < t then v3 else t else 0) = z
      have hz1 : 0 ≤ z ∧ z ≤ t := by
        subst hz
        by_cases c : v3 < t
        · rw [if_pos c]
          by_cases d : 0 < v3
          · rw [if_pos d]; omega
          · rw [if_neg d]; omega
        · rw [if_neg c]
          by_cases d : 0 < t
          · rw [if_pos d]; omega
          · rw [if_neg d]; omega
      refine ⟨by omega, h3, l ++ [z], _, hv0, _, plain_val, _, plain_val, ok3, by simp; omega, ?_, rfl, rfl, rfl, rfl, rfl⟩
      intro u hu
      rcases List.mem_append.mp hu with h | h
      · exact hv u h
      · rw [List.mem_singleton.mp h]; exact hz1
    · rintro e ⟨h', l, j', x', y', hj', hx', hy', ok', hl, hv, rfl⟩
      exact ⟨rfl, h', l, j', x', y', hj', hx', hy', ok', by simpa [rangeP_len] using hl, hv, rfl⟩
  unfold envL
  simp
  refine ⟨okB_nat (by omega), ?_⟩
  unfold envL at hb
  simpa using hb
def envM (h : Hand) (m t hi wi : Int) (R : Land) (st : Int) (i l j x y : Sl) : PEnv :=
  [.val (pvH h), .val (.int m), .val (.int t), .val (.int hi), .val (.int wi), .val (.lst true (rowsP R)), .val (.int st), i, l, j, x, y]
def Rows (wi : Nat) (t : Int) (R : Land) : Prop := (∀ r ∈ R, r.length = wi) ∧ inR t R
theorem then_nx {K : PEnv → (Fl → PEnv → Prop) → Prop} {Q : Fl → PEnv → Prop} {e : PEnv} (h : K e Q) : thenF .nx K Q e := h
theorem turn_ok {h : Hand} {m t st jj : Int} {hi wi : Nat} {R : Land} {l j x y : Sl} (ok : HandOk h) (ht1 : 0 ≤ t) (ht2 : t ≤ 1000) (hs1 : 0 ≤ st) (hs2 : st ≤ 1000) (hh : R.length < 100) (hw : wi ≤ 100) (hw0 : 0 < wi) (hv : Rows wi t R) (hx : Plain x) (hy : Plain y) (hj : Plain j) :
    WP (dseq (dset 8 (dlst dnil)) (dseq colD (dexpr (dmeth gAppend (dname 5) (dcons (dcall (dfn gTuple) (dcons (dname 8) dnil)) dnil))))) (envM h m t hi wi R st (.val (.int jj)) l j x y) fun f e => f = .nx ∧ ∃ h' r l' j' x' y', Plain l' ∧ Plain j' ∧ Plain x' ∧ Plain y' ∧ HandOk h' ∧ Rows wi t (R ++ [r]) ∧ e = envM h' m t hi wi (R ++ [r]) st (.val (.int jj)) l' j' x' y' := by
  rw [wp_seq]
  have h1 : WP (dset 8 (dlst dnil)) (envM h m t hi wi R st (.val (.int jj)) l j x y) fun f e => f = .nx ∧ e = envL h m t hi wi R st jj [] j x y := by
    unfold envM envL
    simp [hx.r 8, hy.r 8, hj.r 8]
    rfl
  refine wp_mono h1 ?_
  rintro f e ⟨rfl, rfl⟩
  refine then_nx ?_
  rw [wp_seq]
  refine wp_mono (col_ok ok ht1 ht2 hs1 hs2 (fun r hr => by have := hv.1 r hr; omega) hw hx hy hj) ?_
  rintro f e ⟨rfl, h2, l2, j2, x2, y2, hj2, hx2, hy2, ok2, hl2, hv2, rfl⟩
  refine then_nx ?_
  unfold envL
  simp [hj2.k, hx2.k, hy2.k]
  refine ⟨by omega, h2, l2, .val (.lst true (pis l2)), plain_val, j2, hj2, x2, hx2, y2, hy2, ok2, ?_, ?_⟩
  · refine ⟨fun r hr => ?_, fun r hr => ?_⟩
    · rcases List.mem_append.mp hr with h | h
      · exact hv.1 r h
      · rw [List.mem_singleton.mp h]; exact hl2
    · rcases List.mem_append.mp hr with h | h
      · exact hv.2 r h
      · rw [List.mem_singleton.mp h]; exact hv2
  · unfold envM
    have e : rowsP (R ++ [l2]) = rowsP R ++ [PV.tup (pis l2)] := by simp [rowsP, pvRow]
    rw [e]
end Wk
namespace Wk
open PySem PySem.Spec PyProof.Rows L2 Pv
noncomputable def rowD : D Fl := dfor (.nm 7) (drange1 (dcons (dname 3) dnil)) (dseq (dset 8 (dlst dnil)) (dseq colD (dexpr (dmeth gAppend (dname 5) (dcons (dcall (dfn gTuple) (dcons (dname 8) dnil)) dnil)))))
theorem row_ok {h : Hand} {m t st : Int} {hi wi : Nat} {i l j x y : Sl} (ok : HandOk h) (ht1 : 0 ≤ t) (ht2 : t ≤ 1000) (hs1 : 0 ≤ st) (hs2 : st ≤ 1000) (hh : hi ≤ 100) (hw : wi ≤ 100) (hw0 : 0 < wi) (hp1 : Plain i) (hp2 : Plain l) (hx : Plain x) (hy : Plain y) (hj : Plain j) :
    WP rowD (envM h m t hi wi [] st i l j x y) fun f e => f = .nx ∧ ∃ h' R i' l' j' x' y', HandOk h' ∧ R.length = hi ∧ Rows wi t R ∧ e = envM h' m t hi wi R st i' l' j' x' y' := by
  unfold rowD
  have hb : WP (forP (setT (.nm 7)) (dseq (dset 8 (dlst dnil)) (dseq colD (dexpr (dmeth gAppend (dname 5) (dcons (dcall (dfn gTuple) (dcons (dname 8) dnil)) dnil))))) (rangeP 0 hi 1)) (envM h m t hi wi [] st i l j x y) fun f e => f = .nx ∧ ∃ h' R i' l' j' x' y', HandOk h' ∧ R.length = hi ∧ Rows wi t R ∧ e = envM h' m t hi wi R st i' l' j' x' y' := by
    refine wp_forP (fun n e => ∃ h' R i' l' j' x' y', Plain i' ∧ Plain l' ∧ Plain j' ∧ Plain x' ∧ Plain y' ∧ HandOk h' ∧ R.length = n ∧ Rows wi t R ∧ e = envM h' m t hi wi R st i' l' j' x' y') (n := 0) ⟨h, [], i, l, j, x, y, hp1, hp2, hj, hx, hy, ok, rfl, ⟨by simp, by simp [inR]⟩, rfl⟩ ?_ ?_
    · rintro n p e hp ⟨h', R, i', l', j', x', y', hi', hl', hj', hx', hy', ok', hl, hv, rfl⟩
      obtain ⟨hn, rfl⟩ := rangeP_get hp
      have hs : setT (.nm 7) (PV.int (0 + (n : Int) * 1)) (envM h' m t hi wi R st i' l' j' x' y') = some (envM h' m t hi wi R st (.val (.int (0 + (n : Int) * 1))) l' j' x' y') := by
        unfold envM
        simp [hx'.r 7, hy'.r 7, hj'.r 7, hl'.r 7]
      rw [hs, gate_some]
      refine wp_mono (turn_ok ok' ht1 ht2 hs1 hs2 (by omega) hw hw0 hv hx' hy' hj') ?_
      rintro f e ⟨rfl, h2, r, l2, j2, x2, y2, hl2, hj2, hx2, hy2, ok2, hv2, rfl⟩
      exact ⟨h2, R ++ [r], _, l2, j2, x2, y2, plain_val, hl2, hj2, hx2, hy2, ok2, by rw [List.length_append, hl]; rfl, hv2, rfl⟩
    · rintro e ⟨h', R, i', l', j', x', y', hi', hl', hj', hx', hy', ok', hl, hv, rfl⟩
      exact ⟨rfl, h', R, i', l', j', x', y', ok', by simpa [rangeP_len] using hl, hv, rfl⟩
  unfold envM
  simp
  refine ⟨okB_nat (by omega), ?_⟩
  unfold envM at hb
  simpa using hb
theorem land_eq : b_ulaw_land = dseq (dpars [3, 4] (dcons (dcallF f_ulaw_any (dcons (dname 0) (dcons (dlst (dcons (dname 1) (dcons (dop (fun a b => dfn gAdd [a, b]) (dcon (.int 1)) (dcallF f_ulaw_draw (dcons (dname 0) (dcons (dname 1) dnil)))) dnil))) dnil))) (dcons (dcallF f_ulaw_any (dcons (dname 0) (dcons (dlst (dcons (dname 1) (dcons (dop (fun a b => dfn gAdd [a, b]) (dcon (.int 1)) (dcallF f_ulaw_draw (dcons (dname 0) (dcons (dname 1) dnil)))) dnil))) dnil))) dnil))) (dseq (dpars [5, 6] (dcons (dlst dnil) (dcons (dcallF f_ulaw_any (dcons (dname 0) (dcons (dlst (dcons (dcon (.int 0)) (dcons (dcon (.int 1)) (dcons (dname 2) dnil)))) dnil))) dnil))) (dseq rowD (dret (dcall (dfn gTuple) (dcons (dname 5) dnil))))) := rfl
theorem sp_lland {h : Hand} {m t : Int} (ok : HandOk h) (hm1 : 0 < m) (hm2 : m ≤ 8) (ht1 : 0 ≤ t) (ht2 : t ≤ 1000) :
    ∃ h' L w, f_ulaw_land [pvH h, .int m, .int t] = some (pvLand L, [pvH h', .int m, .int t]) ∧ HandOk h' ∧ LandIs L w ∧ 1 ≤ w ∧ inR t L := by
  have key : ∃ r as, f_ulaw_land [pvH h, .int m, .int t] = some (r, as) ∧ ∃ h' L w, r = pvLand L ∧ as = [pvH h', .int m, .int t] ∧ HandOk h' ∧ LandIs L w ∧ 1 ≤ w ∧ inR t L := by
    refine wp_exit rfl ?_
    rw [land_eq]
    obtain ⟨k1, h1, e1, a1, b1, ok1⟩ := draw (m := m) ok (by omega) (by omega)
    obtain ⟨x1, h2, hx1, e2, ok2⟩ := any (o := true) (xs := [.int m, .int (1 + k1)]) ok1 (by simp) (by simp) (by simp)
    obtain ⟨k2, h3, e3, a2, b2, ok3⟩ := draw (m := m) ok2 (by omega) (by omega)
    obtain ⟨x2, h4, hx2, e4, ok4⟩ := any (o := true) (xs := [.int m, .int (1 + k2)]) ok3 (by simp) (by simp) (by simp)
    obtain ⟨x3, h5, hx3, e5, ok5⟩ := any (o := true) (xs := [.int 0, .int 1, .int t]) ok4 (by simp) (by simp) (by simp)
    simp [e1, e2, e3, e4, e5]
    have hhi : ∃ hi : Nat, x1 = .int hi ∧ 0 < hi ∧ hi ≤ 8 := by
      rcases List.mem_cons.mp hx1 with rfl | hx1
      · exact ⟨m.toNat, by rw [Int.toNat_of_nonneg (by omega)], by omega, by omega⟩
      · rw [List.mem_singleton.mp hx1]
        exact ⟨(1 + k1).toNat, by rw [Int.toNat_of_nonneg (by omega)], by omega, by omega⟩
    have hwi : ∃ wi : Nat, x2 = .int wi ∧ 0 < wi ∧ wi ≤ 8 := by
      rcases List.mem_cons.mp hx2 with rfl | hx2
      · exact ⟨m.toNat, by rw [Int.toNat_of_nonneg (by omega)], by omega, by omega⟩
      · rw [List.mem_singleton.mp hx2]
        exact ⟨(1 + k2).toNat, by rw [Int.toNat_of_nonneg (by omega)], by omega, by omega⟩
    have hst : ∃ st : Int, x3 = .int st ∧ 0 ≤ st ∧ st ≤ 1000 := by
      rcases List.mem_cons.mp hx3 with rfl | hx3
      · exact ⟨0, rfl, by omega, by omega⟩
      · rcases List.mem_cons.mp hx3 with rfl | hx3
        · exact ⟨1, rfl, by omega, by omega⟩
        · exact ⟨t, List.mem_singleton.mp hx3, ht1, ht2⟩
    clear e2 e4 e5 hx1 hx2 hx3
    obtain ⟨hi, rfl, g1, g2⟩ := hhi
    obtain ⟨wi, rfl, g3, g4⟩ := hwi
    obtain ⟨st, rfl, g5, g6⟩ := hst
    refine wp_mono (row_ok (i := .un) (l := .un) (j := .un) (x := .un) (y := .un) ok5 ht1 ht2 g5 g6 (by omega) (by omega) g3 plain_un plain_un plain_un plain_un plain_un) ?_
    rintro f e ⟨rfl, h6, R, i6, l6, j6, x6, y6, ok6, hl6, hr6, rfl⟩
    refine then_nx ?_
    unfold envM
    simp
    refine ⟨h6, R, rfl, rfl, ok6, wi, ⟨hr6.1, ?_, by omega, by omega, g4⟩, g3, hr6.2⟩
    have hR : R ≠ [] := fun z => by rw [z] at hl6; simp at hl6; omega
    cases R with
    | nil => exact absurd rfl hR
    | cons r R => exact (hr6.1 r (by simp)).symm
  obtain ⟨r, as, h1, h', L, w, rfl, rfl, h2⟩ := key
  exact ⟨h', L, w, h1, h2⟩
end Wk
namespace Pv
open PySem PySem.Spec PyProof.Rows L2
/-- a comprehension that may change the state, by an invariant over the turns -/
theorem wp_lcI {t : PV → PEnv → Option PEnv} {vs : List Nat} {tt : D Bool} {te : D Sl} {Q : List PV → PEnv → Prop} (I : Nat → List PV → PEnv → Prop) : ∀ {ps acc : List PV} {n : Nat} {env : PEnv}, I n acc env →
    (∀ (i : Nat) p a e, ps[i]? = some p → I (n + i) a e → gate (t p e) fun e1 => WP tt e1 fun k e2 => if k = true then WP te e2 fun r e3 => gate (unalV e3 r) fun z => I (n + i + 1) (a ++ [z.1]) (wipeE z.2 vs) else I (n + i + 1) a (wipeE e2 vs)) →
    (∀ a e, I (n + ps.length) a e → Q a e) → WP (lcP t vs tt te ps acc) env Q
  | [], acc, n, env, h0, hs, hd => by
    unfold WP
    rw [lcP]
    exact hd acc env h0
  | p :: ps, acc, n, env, h0, hs, hd => by
    have h1 := hs 0 p acc env rfl h0
    have go : ∀ {a e}, I (n + 1) a e → WP (lcP t vs tt te ps a) e Q := fun {a e} hi => wp_lcI I hi (fun i q a e hq hI => by
        have := hs (i + 1) q a e (by simpa using hq) (by have e4 : n + (i + 1) = n + 1 + i := by omega
                                                         rw [e4]; exact hI)
        have e5 : n + (i + 1) + 1 = n + 1 + i + 1 := by omega
        rw [e5] at this
        exact this) (fun a e he => hd a e (by rw [List.length_cons]; have e6 : n + (ps.length + 1) = n + 1 + ps.length := by omega
                                              rw [e6]; exact he))
    unfold WP
    rw [lcP]
    cases e1 : t p env with
    | none => rw [e1] at h1; exact h1.elim
    | some env1 =>
      rw [e1, gate_some] at h1
      obtain ⟨k, e2, h2, h3⟩ := wp_of h1
      dsimp only
      rw [h2]
      cases k with
      | false =>
        rw [if_neg (by decide)] at h3
        have g := go h3
        unfold WP at g
        exact g
      | true =>
        rw [if_pos rfl] at h3
        obtain ⟨r, e3, h4, h5⟩ := wp_of h3
        dsimp only
        rw [h4]
        dsimp only
        cases e6 : unalV e3 r with
        | none => rw [e6] at h5; exact h5.elim
        | some z =>
          rw [e6, gate_some] at h5
          have g := go h5
          unfold WP at g
          exact g
end Pv
namespace Wk
open PySem PySem.Spec PyProof.Rows L2 Pv
theorem unalV_val {e : PEnv} {v : PV} : unalV e (.val v) = some (v, e) := by rw [unalV]
theorem snoc_in {l : List Int} {k t : Int} (hv : ∀ v ∈ l, 0 ≤ v ∧ v ≤ t) (h : 0 ≤ k ∧ k ≤ t) : ∀ v ∈ l ++ [k], 0 ≤ v ∧ v ≤ t := by
  intro u hu
  rcases List.mem_append.mp hu with h1 | h1
  · exact hv u h1
  · rw [List.mem_singleton.mp h1]; exact h
noncomputable def cellL : D Sl := dlc (drange1 (dcons (dname 3) dnil)) (.nm 9) [9] (dpure true) (dcallF f_ulaw_draw (dcons (dname 0) (dcons (dcon (.int 3)) dnil)))
def envH (h : Hand) (kd hi wi : Int) (x : Sl) : PEnv := [.val (pvH h), .val (.int kd), .val (.int hi), .val (.int wi), .un, .un, .un, .un, x, .un]
theorem cell_turn {h : Hand} {kd hi wi c y : Int} {n : Nat} {l : List Int} {E : PEnv → Prop} (ok : HandOk h) (hl : l.length = n) (hv : ∀ v ∈ l, 0 ≤ v ∧ v ≤ 2) :
    gate (setT (.nm 9) (.int y) (envH h kd hi wi (.val (.int c)))) fun e1 => WP (dpure true) e1 fun k e2 => if k = true then WP (dcallF f_ulaw_draw (dcons (dname 0) (dcons (dcon (.int 3)) dnil))) e2 fun r e3 => gate (unalV e3 r) fun z => ∃ h' l', HandOk h' ∧ List.length l' = n + 1 ∧ (∀ v ∈ l', 0 ≤ v ∧ v ≤ 2) ∧ pis l ++ [z.1] = pis l' ∧ wipeE z.2 [9] = envH h' kd hi wi (.val (.int c)) else E e2 := by
  obtain ⟨k, h2, e, g1, g2, ok2⟩ := draw (m := 3) ok (by omega) (by omega)
  unfold envH
  simp [e, unalV_val]
  exact ⟨h2, ok2, l ++ [k], by simp [hl], snoc_in hv ⟨g1, by omega⟩, by simp, rfl⟩
theorem cellL_ok {h : Hand} {kd c : Int} {hi wi : Nat} (ok : HandOk h) (h2 : wi ≤ 6) :
    WP cellL (envH h kd hi wi (.val (.int c))) fun r e => ∃ h' l, HandOk h' ∧ List.length l = wi ∧ (∀ v ∈ l, 0 ≤ v ∧ v ≤ 2) ∧ r = .val (.lst true (pis l)) ∧ e = envH h' kd hi wi (.val (.int c)) := by
  have hb : WP (lcP (setT (.nm 9)) [9] (dpure true) (dcallF f_ulaw_draw (dcons (dname 0) (dcons (dcon (.int 3)) dnil))) (rangeP 0 wi 1) []) (envH h kd hi wi (.val (.int c))) fun a e => ∃ h' l, HandOk h' ∧ List.length l = wi ∧ (∀ v ∈ l, 0 ≤ v ∧ v ≤ 2) ∧ a = pis l ∧ e = envH h' kd hi wi (.val (.int c)) := by
    refine wp_lcI (fun n a e => ∃ h' l, HandOk h' ∧ List.length l = n ∧ (∀ v ∈ l, 0 ≤ v ∧ v ≤ 2) ∧ a = pis l ∧ e = envH h' kd hi wi (.val (.int c))) (n := 0) ⟨h, [], ok, rfl, by simp, rfl, rfl⟩ ?_ ?_
    · rintro n p a e hp ⟨h', l, ok', hl, hv, rfl, rfl⟩
      obtain ⟨hn, rfl⟩ := rangeP_get hp
      exact cell_turn ok' hl hv
    · rintro a e ⟨h', l, ok', hl, hv, rfl, rfl⟩
      exact ⟨h', l, ok', by simpa [rangeP_len] using hl, hv, rfl, rfl⟩
  unfold cellL envH
  simp
  refine ⟨okB_nat (by omega), by simp [rangeP_len]; omega, ?_⟩
  refine wp_mono hb ?_
  rintro a e ⟨h', l, ok', hl, hv, rfl, rfl⟩
  exact ⟨h', ok', l, hl, hv, rfl, rfl⟩
def envK (h : Hand) (kd hi wi : Int) : PEnv := [.val (pvH h), .val (.int kd), .val (.int hi), .val (.int wi), .un, .un, .un, .un, .un, .un]
noncomputable def heapL : D Sl := dlc (drange1 (dcons (dname 2) dnil)) (.nm 8) [8] (dpure true) cellL
theorem heapL_ok {h : Hand} {kd : Int} {hi wi : Nat} (ok : HandOk h) (h1 : hi ≤ 6) (h2 : wi ≤ 6) :
    WP heapL (envK h kd hi wi) fun r e => ∃ h' R, HandOk h' ∧ List.length R = hi ∧ Rows wi 2 R ∧ r = .val (.lst true (ownRows R)) ∧ e = envK h' kd hi wi := by
  have hb : WP (lcP (setT (.nm 8)) [8] (dpure true) cellL (rangeP 0 hi 1) []) (envK h kd hi wi) fun a e => ∃ h' R, HandOk h' ∧ List.length R = hi ∧ Rows wi 2 R ∧ a = ownRows R ∧ e = envK h' kd hi wi := by
    refine wp_lcI (fun n a e => ∃ h' R, HandOk h' ∧ List.length R = n ∧ Rows wi 2 R ∧ a = ownRows R ∧ e = envK h' kd hi wi) (n := 0) ⟨h, [], ok, rfl, ⟨by simp, by simp [inR]⟩, rfl, rfl⟩ ?_ ?_
    · rintro n p a e hp ⟨h', R, ok', hl, hv, rfl, rfl⟩
      obtain ⟨hn, rfl⟩ := rangeP_get hp
      have hs : setT (.nm 8) (PV.int (0 + (n : Int) * 1)) (envK h' kd hi wi) = some (envH h' kd hi wi (.val (.int (0 + (n : Int) * 1)))) := by
        unfold envK envH
        simp
      rw [hs, gate_some]
      rw [wp_pure, if_pos rfl]
      refine wp_mono (cellL_ok ok' h2) ?_
      rintro r e ⟨h3, l, ok3, hl3, hv3, rfl, rfl⟩
      rw [unalV_val, gate_some]
      refine ⟨h3, R ++ [l], ok3, by simp [hl], ⟨?_, ?_⟩, by simp [ownRows], rfl⟩
      · intro r hr
        rcases List.mem_append.mp hr with h | h
        · exact hv.1 r h
        · rw [List.mem_singleton.mp h]; exact hl3
      · intro r hr
        rcases List.mem_append.mp hr with h | h
        · exact hv.2 r h
        · rw [List.mem_singleton.mp h]; exact hv3
    · rintro a e ⟨h', R, ok', hl, hv, rfl, rfl⟩
      exact ⟨h', R, ok', by simpa [rangeP_len] using hl, hv, rfl, rfl⟩
  unfold heapL envK
  simp
  refine ⟨okB_nat (by omega), by simp [rangeP_len]; omega, ?_⟩
  refine wp_mono hb ?_
  rintro a e ⟨h', R, ok', hl, hv, rfl, rfl⟩
  exact ⟨h', ok', R, hl, hv, rfl, rfl⟩
end Wk
namespace Wk
open PySem PySem.Spec PyProof.Rows L2 Pv
noncomputable def turnD : D Fl := dseq (dset 6 (dop dixE (dname 4) (dcallF f_ulaw_draw (dcons (dname 0) (dcons (dname 2) dnil))))) (dseq (dset 7 (dcallF f_ulaw_draw (dcons (dname 0) (dcons (dname 3) dnil)))) (dseq (dasg (.ix (dname 6) (dname 7)) (dop (fun a b => dfn gAdd [a, b]) (dop dixE (dname 6) (dname 7)) (dcallF f_ulaw_draw (dcons (dname 0) (dcons (dcon (.int 31)) dnil))))) (dite (dtst (dop (fun a b => dfn gEq [a, b]) (dname 1) (dcon (.int 3)))) (dasg (.tp [(.ix (dname 6) (dcon (.int 0))), (.ix (dname 6) (dun (fun a => dfn gNeg [a]) (dcon (.int 1))))]) (dtup (dcons (dop dixE (dname 6) (dname 7)) (dcons (dop dixE (dname 6) (dcon (.int 0))) dnil)))) dskip)))
def envP (h : Hand) (kd hi wi : Int) (R : Land) (c x6 x7 : Sl) : PEnv := [.val (pvH h), .val (.int kd), .val (.int hi), .val (.int wi), .val (.lst true (ownRows R)), c, x6, x7, .un, .un]
theorem own_set {R : Land} {r : List Int} {k : Nat} (h : k < R.length) : (ownRows (List.set R k r))[k]? = some (.lst true (pis r)) := by
  unfold ownRows
  simp [h]
theorem storeO_last {r : List Int} {v : Int} (h : 0 < r.length) : storeO (.lst true (pis r)) (.int (-1)) (.int v) = some (.lst true (pis (r.set (r.length - 1) v))) := by
  unfold storeO
  have e1 : ixN (pis r).length (-1) = some (r.length - 1) := by
    unfold ixN
    rw [if_neg (by omega), if_pos (by simp; omega)]
    simp
    omega
  dsimp only
  rw [e1]
  dsimp only
  rw [if_pos fzs_i]
  unfold pis
  rw [List.map_set]
theorem rows_set {wi : Nat} {t u : Int} {R : Land} {r : List Int} {k : Nat} (h : Rows wi t R) (htu : t ≤ u) (hl : r.length = wi) (hr : ∀ v ∈ r, 0 ≤ v ∧ v ≤ u) : Rows wi u (List.set R k r) := by
  refine ⟨fun x hx => ?_, fun x hx => ?_⟩
  · rcases List.mem_or_eq_of_mem_set hx with h1 | rfl
    · exact h.1 x h1
    · exact hl
  · rcases List.mem_or_eq_of_mem_set hx with h1 | rfl
    · intro v hv
      have := h.2 x h1 v hv
      omega
    · exact hr
theorem row_set {u : Int} {r : List Int} {k : Nat} {v : Int} (hr : ∀ v ∈ r, 0 ≤ v ∧ v ≤ u) (hv : 0 ≤ v ∧ v ≤ u) : ∀ x ∈ r.set k v, 0 ≤ x ∧ x ≤ u := by
  intro x hx
  rcases List.mem_or_eq_of_mem_set hx with h1 | rfl
  · exact hr x h1
  · exact hv
theorem gateO_bind {α β : Type} {x : Option α} {f : α → Option β} {Q : β → Prop} : gateO (x.bind f) Q = gate x fun a => gate (f a) Q := by cases x <;> rfl
inductive Al4 : Sl → Prop
  | un : Al4 .un
  | al (i : Nat) : Al4 (.al 4 [i])
theorem heap_turn {h : Hand} {kd c t : Int} {hi wi : Nat} {R : Land} {x6 x7 : Sl} (ok : HandOk h) (h1 : 0 < hi ∧ hi ≤ 6) (h2 : 0 < wi ∧ wi ≤ 6) (hR : R.length = hi) (hv : Rows wi t R) (h6 : Al4 x6) (h7 : Plain x7) (ht : 0 ≤ t) :
    WP turnD (envP h kd hi wi R (.val (.int c)) x6 x7) fun f e => f = .nx ∧ ∃ h' R' x6' x7', HandOk h' ∧ List.length R' = hi ∧ Rows wi (t + 30) R' ∧ Al4 x6' ∧ Plain x7' ∧ e = envP h' kd hi wi R' (.val (.int c)) x6' x7' := by
  obtain ⟨i, h3, e1, a1, b1, ok1⟩ := draw (m := hi) ok (by omega) (by omega)
  obtain ⟨j, h4, e2, a2, b2, ok2⟩ := draw (m := wi) ok1 (by omega) (by omega)
  obtain ⟨k, h5, e3, a3, b3, ok3⟩ := draw (m := 31) ok2 (by omega) (by omega)
  have hm : rowAt R i ∈ R := by
    unfold rowAt
    have : i.toNat < R.length := by omega
    simp [List.getD, this]
  have hw : (rowAt R i).length = wi := hv.1 _ hm
  have hc := cell_in (hv.2 _ hm) a2 (by omega)
  have hr1 : ∀ v ∈ (rowAt R i).set j.toNat (cellAt (rowAt R i) j + k), 0 ≤ v ∧ v ≤ t + 30 := row_set (fun v hx => by have := hv.2 _ hm v hx; omega) (by omega)
  have hr2 : ((rowAt R i).set j.toNat (cellAt (rowAt R i) j + k)).length = wi := by simp [hw]
  unfold turnD envP
  have k7 : killR 6 x7 = x7 := h7.r 6
  have kk := h7.k
  simp [e1, e2, e3, ixV_own a1 (show i < R.length by omega), at_own, own_get a1 (show i < R.length by omega), ixV_pis a2 (show j < (rowAt R i).length by omega), storeO_pis a2 (show j < (rowAt R i).length by omega), put_own, k7, kk]
  generalize (rowAt R i).set j.toNat (cellAt (rowAt R i) j + k) = r at *
  split
  · rw [own_set (by omega)]
    have c1 := cell_in hr1 a2 (by omega)
    have c2 := cell_in hr1 (i := 0) (by omega) (by omega)
    simp [ixV_pis a2 (show j < r.length by omega), ixV_pis (r := r) (i := 0) (by omega) (by omega)]
    rw [gateO_bind]
    simp [own_set (r := r) (show i.toNat < R.length by omega), at_own, storeO_pis (r := r) (i := 0) (by omega) (by omega), put_own]
    have hr3 : ∀ v ∈ r.set 0 (cellAt r j), 0 ≤ v ∧ v ≤ t + 30 := row_set hr1 c1
    have hr4 : (r.set 0 (cellAt r j)).length = wi := by simp [hr2]
    have hr5 := row_set (k := (r.set 0 (cellAt r j)).length - 1) hr3 c2
    generalize r.set 0 (cellAt r j) = q at *
    rw [own_set (by omega)]
    simp [storeO_last (r := q) (by omega), put_own]
    exact ⟨h5, ok3, _, by simp [hR], rows_set hv (by omega) (by simp [hr4]) hr5, _, .al _, _, plain_val, rfl, rfl, rfl, rfl⟩
  · exact ⟨h5, ok3, _, by simp [hR], rows_set hv (by omega) hr2 hr1, _, .al _, _, plain_val, rfl, rfl, rfl, rfl⟩
noncomputable def heapD : D Fl := dfor (.nm 5) (drange1 (dcons (dname 1) dnil)) turnD
theorem al4_kill {x : Sl} (h : Al4 x) : killR 5 x = x := by
  cases h
  · simp
  · simp [killR]
theorem heap_loop {h : Hand} {kd hi wi : Nat} {R : Land} (ok : HandOk h) (hk : kd ≤ 3) (h1 : 0 < hi ∧ hi ≤ 6) (h2 : 0 < wi ∧ wi ≤ 6) (hR : R.length = hi) (hv : Rows wi 2 R) :
    WP heapD (envP h kd hi wi R .un .un .un) fun f e => f = .nx ∧ ∃ h' R' c x6 x7, Plain c ∧ Al4 x6 ∧ Plain x7 ∧ HandOk h' ∧ List.length R' = hi ∧ Rows wi 92 R' ∧ e = envP h' kd hi wi R' c x6 x7 := by
  have hb : WP (forP (setT (.nm 5)) turnD (rangeP 0 kd 1)) (envP h kd hi wi R .un .un .un) fun f e => f = .nx ∧ ∃ h' R' c x6 x7, Plain c ∧ Al4 x6 ∧ Plain x7 ∧ HandOk h' ∧ List.length R' = hi ∧ Rows wi 92 R' ∧ e = envP h' kd hi wi R' c x6 x7 := by
    refine wp_forP (fun n e => ∃ h' R' c x6 x7, Plain c ∧ Al4 x6 ∧ Plain x7 ∧ HandOk h' ∧ List.length R' = hi ∧ Rows wi (2 + 30 * (n : Int)) R' ∧ e = envP h' kd hi wi R' c x6 x7) (n := 0) ⟨h, R, .un, .un, .un, plain_un, .un, plain_un, ok, hR, by simpa using hv, rfl⟩ ?_ ?_
    · rintro n p e hp ⟨h', R', c, x6, x7, h5, h6, h7, ok', hl, hv, rfl⟩
      obtain ⟨hn, rfl⟩ := rangeP_get hp
      have hs : setT (.nm 5) (PV.int (0 + (n : Int) * 1)) (envP h' kd hi wi R' c x6 x7) = some (envP h' kd hi wi R' (.val (.int (0 + (n : Int) * 1))) x6 x7) := by
        unfold envP
        simp [al4_kill h6, h7.r 5]
      rw [hs, gate_some]
      refine wp_mono (heap_turn ok' h1 h2 hl hv h6 h7 (by omega)) ?_
      rintro f e ⟨rfl, h2, R2, x62, x72, ok2, hl2, hv2, h62, h72, rfl⟩
      have e3 : 2 + 30 * ((0 + n : Nat) : Int) + 30 = 2 + 30 * ((0 + n + 1 : Nat) : Int) := by omega
      rw [e3] at hv2
      exact ⟨h2, R2, _, x62, x72, plain_val, h62, h72, ok2, hl2, hv2, rfl⟩
    · rintro e ⟨h', R', c, x6, x7, h5, h6, h7, ok', hl, hv, rfl⟩
      refine ⟨rfl, h', R', c, x6, x7, h5, h6, h7, ok', hl, ⟨hv.1, fun r hr v hx => ?_⟩, rfl⟩
      have := hv.2 r hr v hx
      rw [rangeP_len] at this
      omega
  unfold heapD envP
  simp
  refine ⟨okB_nat (by omega), ?_⟩
  unfold envP at hb
  simpa using hb
noncomputable def rowsD : D Fl := dset 4 heapL
noncomputable def outD : D Fl := dret (dcall (dfn gTuple) (dcons (dlc (ditems (dname 4)) (.nm 8) [8] (dpure true) (dcall (dfn gTuple) (dcons (dname 8) dnil))) dnil))
theorem rows_ok {h : Hand} {kd : Int} {hi wi : Nat} (ok : HandOk h) (h1 : hi ≤ 6) (h2 : wi ≤ 6) :
    WP rowsD (envK h kd hi wi) fun f e => f = .nx ∧ ∃ h' R, HandOk h' ∧ List.length R = hi ∧ Rows wi 2 R ∧ e = envP h' kd hi wi R .un .un .un := by
  unfold rowsD
  simp
  refine wp_mono (heapL_ok ok h1 h2) ?_
  rintro r e ⟨h5, R, ok5, hl5, hr5, rfl, rfl⟩
  unfold envK envP
  simp
  exact ⟨h5, ok5, R, hl5, hr5, rfl, rfl⟩
theorem al4_kill8 {x : Sl} (h : Al4 x) : killR 8 x = x := by
  cases h
  · simp
  · simp [killR]
theorem out_ok {h : Hand} {kd hi wi : Int} {R : Land} {c x6 x7 : Sl} (hc : Plain c) (h6 : Al4 x6) (h7 : Plain x7) (hl : R.length ≤ 8) :
    WP outD (envP h kd hi wi R c x6 x7) fun f e => f = .rt (.val (pvLand R)) ∧ ∃ z, e = [.val (pvH h), .val (.int kd), .val (.int hi), .val (.int wi), .val z, c, x6, x7, .un, .un] := by
  unfold outD envP
  simp [frzs_own]
  refine ⟨by omega, ?_⟩
  refine wp_lcT (fun _ => true) (fun r => pvRow r) (fun q hq => ?_) ?_
  · simp [pvRow, hc.r 8, h7.r 8, al4_kill8 h6]
  · have e : (R.filter fun _ => true).map (fun r => pvRow r) = rowsP R := by simp [rowsP]
    rw [e]
    exact ⟨by simp, rfl, _, rfl⟩
theorem heap_eq : b_ulaw_heap = dseq (dpars [1, 2, 3] (dcons (dcallF f_ulaw_draw (dcons (dname 0) (dcons (dcon (.int 4)) dnil))) (dcons (dop (fun a b => dfn gAdd [a, b]) (dcon (.int 1)) (dcallF f_ulaw_draw (dcons (dname 0) (dcons (dcon (.int 6)) dnil)))) (dcons (dop (fun a b => dfn gAdd [a, b]) (dcon (.int 1)) (dcallF f_ulaw_draw (dcons (dname 0) (dcons (dcon (.int 6)) dnil)))) dnil)))) (dseq (dite (dtst (dop (fun a b => dfn gEq [a, b]) (dname 1) (dcon (.int 0)))) (dret (dcallF f_ulaw_land (dcons (dname 0) (dcons (dcon (.int 5)) (dcons (dcon (.int 20)) dnil))))) dskip) (dseq rowsD (dseq heapD outD))) := rfl
theorem sp_lheap {h : Hand} (ok : HandOk h) : ∃ h' L w, f_ulaw_heap [pvH h] = some (pvLand L, [pvH h']) ∧ HandOk h' ∧ LandIs L w ∧ 1 ≤ w ∧ inR 92 L := by
  have key : ∃ r as, f_ulaw_heap [pvH h] = some (r, as) ∧ ∃ h' L w, r = pvLand L ∧ as = [pvH h'] ∧ HandOk h' ∧ LandIs L w ∧ 1 ≤ w ∧ inR 92 L := by
    refine wp_exit rfl ?_
    rw [heap_eq]
    obtain ⟨kd, h1, e1, a1, b1, ok1⟩ := draw (m := 4) ok (by omega) (by omega)
    obtain ⟨k1, h2, e2, a2, b2, ok2⟩ := draw (m := 6) ok1 (by omega) (by omega)
    obtain ⟨k2, h3, e3, a3, b3, ok3⟩ := draw (m := 6) ok2 (by omega) (by omega)
    obtain ⟨h4, L, w, e4, ok4, g1, g2, g3⟩ := sp_lland (m := 5) (t := 20) ok3 (by omega) (by omega) (by omega) (by omega)
    simp [e1, e2, e3, e4]
    split
    · exact ⟨h4, L, rfl, rfl, ok4, w, g1, g2, fun r hr v hv => by have := g3 r hr v hv; omega⟩
    · obtain ⟨kd', rfl⟩ : ∃ n : Nat, kd = n := ⟨kd.toNat, by omega⟩
      obtain ⟨hi, q1⟩ : ∃ n : Nat, 1 + k1 = n := ⟨(1 + k1).toNat, by omega⟩
      obtain ⟨wi, q2⟩ : ∃ n : Nat, 1 + k2 = n := ⟨(1 + k2).toNat, by omega⟩
      rw [q1, q2]
      refine wp_mono (rows_ok (kd := (kd' : Int)) (hi := hi) (wi := wi) ok3 (by omega) (by omega)) ?_
      rintro f e ⟨rfl, h5, R, ok5, hl5, hr5, rfl⟩
      refine then_nx ?_
      refine wp_mono (heap_loop (kd := kd') ok5 (by omega) ⟨by omega, by omega⟩ ⟨by omega, by omega⟩ hl5 hr5) ?_
      rintro f e ⟨rfl, h6, R6, c6, x6, x7, p1, p2, p3, ok6, hl6, hr6, rfl⟩
      refine then_nx ?_
      refine wp_mono (out_ok p1 p2 p3 (by omega)) ?_
      rintro f e ⟨rfl, z, rfl⟩
      simp
      refine ⟨h6, R6, rfl, rfl, ok6, wi, ⟨hr6.1, ?_, by omega, by omega, by omega⟩, by omega, hr6.2⟩
      have hR : R6 ≠ [] := fun z => by rw [z] at hl6; simp at hl6; omega
      cases R6 with
      | nil => exact absurd rfl hR
      | cons r R => exact (hr6.1 r (by simp)).symm
  obtain ⟨r, as, h1, h', L, w, rfl, rfl, h2⟩ := key
  exact ⟨h', L, w, h1, h2⟩
end Wk
namespace Wk
open PySem PySem.Spec PyProof.Rows L2 Pv
theorem sp_like {x y : PV} {d : PyData} (hx : pd x = some d) (hy : pd y = some d) (hs : isSmall d = true) (hk : PyData.strOk d.shown = true) : f_ulaw_like [x, y] = some (.bl true, [x, y]) := by
  have g1 : gRepr [x] = some (.str d.shown) := by unfold gRepr; dsimp only; rw [hx]; dsimp only; rw [if_pos hs]
  have g2 : gRepr [y] = some (.str d.shown) := by unfold gRepr; dsimp only; rw [hy]; dsimp only; rw [if_pos hs]
  refine fn_val (wp_exit rfl ?_)
  unfold b_ulaw_like
  have ge : gEq [.str d.shown, .str d.shown] = some (.bl true) := by
    have h1 : pd (.str d.shown) = some (.str d.shown) := rfl
    have s1 : SeqAt.shaped (.str d.shown) = true := by
      unfold SeqAt.shaped
      simp [PyData.canLay0, PyData.depth, hk]
    unfold gEq peq
    dsimp only
    rw [h1]
    dsimp only
    rw [if_pos ⟨s1, s1⟩]
    simp [PyData.eqv]
  by_cases c1 : x.fz = true
  · by_cases c2 : y.fz = true
    · simp [g1, g2, ge, c1, c2]
    · simp [g1, g2, ge, c1, c2]
  · by_cases c2 : y.fz = true
    · simp [g1, g2, ge, c1, c2]
    · simp [g1, g2, ge, c1, c2]
theorem sp_like_bl {b : Bool} : f_ulaw_like [.bl b, .bl b] = some (.bl true, [.bl b, .bl b]) := by
  cases b
  · exact sp_like (d := .bool false) rfl rfl (by decide +kernel) (by decide +kernel)
  · exact sp_like (d := .bool true) rfl rfl (by decide +kernel) (by decide +kernel)
end Wk
namespace Wk
open PySem PySem.Spec PyProof.Rows L2 Pv
theorem sp_is_land_non : f_is_land [.non] = some (.bl false, [.non]) := by
  refine fn_val (wp_exit rfl ?_)
  unfold b_is_land
  simp
theorem sp_is_land_unit : f_is_land [.tup []] = some (.bl false, [.tup []]) := by
  refine fn_val (wp_exit rfl ?_)
  unfold b_is_land
  simp
theorem sp_is_land_list {l : List PV} (h : PV.fzs l = true) : f_is_land [.lst false l] = some (.bl false, [.lst false l]) := by
  have g : gIsi [.lst false l, .ty "tuple"] = some (.bl false) := by rfl
  refine fn_val (wp_exit rfl ?_)
  unfold b_is_land
  simp [h, g]
theorem sp_is_row_list {l : List PV} (h : PV.fzs l = true) : f_is_row [.lst false l] = some (.bl false, [.lst false l]) := by
  refine fn_val (wp_exit rfl ?_)
  unfold b_is_row
  simp [h]
def listsP (L : Land) : List PV := L.map fun r => .lst false (pis r)
theorem sp_is_land_lists {L : Land} (h1 : 1 ≤ L.length) (h8 : L.length ≤ 8) : f_is_land [.tup (listsP L)] = some (.bl false, [.tup (listsP L)]) := by
  refine fn_val (wp_exit rfl ?_)
  unfold b_is_land listsP
  have e1 : (1 : Int) ≤ L.length := by omega
  have e2 : (L.length : Int) ≤ 8 := by omega
  simp [e1, e2]
  refine ⟨by omega, ?_⟩
  refine wp_lcT (fun _ => true) (fun r => .bl ((fun _ => false) r)) (fun k hk => ?_) ?_
  · simp [sp_is_row_list (l := pis k) fzs_i]
  · rw [blsP_of]
    cases L with
    | nil => simp at h1
    | cons r L => simp
/-- the program's word on a thing that is no land -/
theorem sp_settled_no {L : Land} {s : Int} {x : PV} (ho : landOk L = true) (h1 : 1 ≤ s) (h2 : s ≤ 1000) (hf : x.fz = true) (hx : f_is_land [x] = some (.bl false, [x])) : f_is_settled [pvLand L, .int s, x] = some (.bl false, [pvLand L, .int s, x]) := by
  refine fn_val (wp_exit rfl ?_)
  unfold b_is_settled
  simp [sp_check_steep ho h1 h2, hf, hx]
end Wk
namespace Wk
open PySem PySem.Spec PyProof.Rows L2 Pv
/-- the law's own word on things that are no tuple -/
theorem sp_lsettled_non {L : Land} {s : Int} : f_ulaw_is_settled [pvLand L, .int s, .non] = some (.bl false, [pvLand L, .int s, .non]) := by
  refine fn_val (wp_exit rfl ?_)
  unfold b_ulaw_is_settled
  simp
theorem sp_lsettled_list {L : Land} {s : Int} {l : List PV} (h : PV.fzs l = true) : f_ulaw_is_settled [pvLand L, .int s, .lst false l] = some (.bl false, [pvLand L, .int s, .lst false l]) := by
  refine fn_val (wp_exit rfl ?_)
  unfold b_ulaw_is_settled
  simp [h]
theorem sp_lsettled_unit {L : Land} {s : Int} (h1 : 1 ≤ L.length) : f_ulaw_is_settled [pvLand L, .int s, .tup []] = some (.bl false, [pvLand L, .int s, .tup []]) := by
  refine fn_val (wp_exit rfl ?_)
  unfold b_ulaw_is_settled
  simp [pvLand]
  intro h
  exact absurd h (by omega)
theorem sp_lsettled_lists {L M : Land} {s : Int} (h1 : 1 ≤ M.length) (h8 : M.length ≤ 100) : f_ulaw_is_settled [pvLand L, .int s, .tup (listsP M)] = some (.bl false, [pvLand L, .int s, .tup (listsP M)]) := by
  refine fn_val (wp_exit rfl ?_)
  unfold b_ulaw_is_settled listsP
  simp [pvLand]
  intro _
  refine ⟨by omega, ?_⟩
  refine wp_lcT (fun _ => true) (fun r => .bl ((fun _ => false) r)) (fun k hk => ?_) ?_
  · simp
  · rw [blsP_of]
    cases M with
    | nil => simp at h1
    | cons r M => simp
end Wk
namespace Wk
open PySem PySem.Spec PyProof.Rows L2 Pv
/-- the program's word on a land -/
theorem sp_settled_land {L M : Land} {s : Int} (ho : landOk L = true) (h1 : 1 ≤ s) (h2 : s ≤ 1000) (hM : ∀ r ∈ M, r.length ≤ 1000) (hMl : M.length ≤ 1000) {w : Nat} (hI : landOk M = true → LandIs M w) (hf1 : M.flatten.length ≤ 10000) (hf2 : L.flatten.length ≤ 10000) (hL1 : 1 ≤ L.length) :
    f_is_settled [pvLand L, .int s, pvLand M] = some (.bl (landOk M && decide (M.length = L.length) && decide (wid M = wid L) && decide (greatest M ≤ s) && decide ((hts M).sum = (hts L).sum)), [pvLand L, .int s, pvLand M]) := by
  refine fn_val (wp_exit rfl ?_)
  unfold b_is_settled
  have hc := sp_check_steep ho h1 h2
  have hl := sp_is_land hM hMl
  have hx : (pvLand M).fz = true := by simp [pvLand]
  have a1 := sp_all_heights hf1
  have a2 := sp_all_heights hf2
  have i2 := ixV_land (L := L) (a := .val (pvLand L)) (i := 0) (by omega) (by omega)
  simp [hc, hl]
  by_cases hm : landOk M = true
  · by_cases hn : M.length = L.length
    · have i1 := ixV_land (L := M) (a := .val (pvLand M)) (i := 0) (by omega) (by omega)
      have g := sp_raw_greatest (hI hm)
      simp [hm, hn, i1, i2, g, a1, a2]
      have e1 : wid M = (rowAt M 0).length := rfl
      have e2 : wid L = (rowAt L 0).length := rfl
      by_cases hw : (rowAt M 0).length = (rowAt L 0).length
      · have hw' : ((rowAt M 0).length : Int) = (rowAt L 0).length := by omega
        rw [if_pos hw']
        by_cases hg : greatest M ≤ s
        · rw [if_pos hg]
          intro _
          exact ⟨by omega, hg⟩
        · rw [if_neg hg]
          intro _ h
          exact absurd h hg
      · have hw' : ¬ ((rowAt M 0).length : Int) = (rowAt L 0).length := by omega
        rw [if_neg hw']
        intro h
        exact absurd (by omega) hw
    · have hn' : ¬ ((M.length : Int) = L.length) := by omega
      simp [hm, hn, hn']
  · simp [hm]
end Wk
namespace Wk
open PySem PySem.Spec PyProof.Rows L2 Pv
def fineRow (w : Nat) (r : List Int) : Bool := decide (r.length = w) && r.all fun x => decide (0 ≤ x ∧ x ≤ 1000)
noncomputable def fineD : D Fl := dseq (dite (dtor (dtst (dop (fun a b => dfn gNe [a, b]) (dcall (dfn gLen) (dcons (dname 3) dnil)) (dcall (dfn gLen) (dcons (dop dixE (dname 0) (dcon (.int 0))) dnil)))) (dtnot (dtst (dcall (dfn gAll) (dcons (dlc (ditems (dname 3)) (.nm 4) [4] (dpure true) (dand (dcall (dfn gIsi) (dcons (dname 4) (dcons (dcon (.ty "int")) dnil))) (dnot (dcall (dfn gIsi) (dcons (dname 4) (dcons (dcon (.ty "bool")) dnil)))))) dnil))))) (dret (dcon (.bl false))) dskip) (dite (dtnot (dtst (dcall (dfn gAll) (dcons (dlc (ditems (dname 3)) (.nm 4) [4] (dpure true) (dchain gLe gLe (dcon (.int 0)) (dname 4) (dcon (.int 1000)))) dnil)))) (dret (dcon (.bl false))) dskip)
theorem fine_ok {L M : Land} {s : Int} {r : List Int} (hL1 : 1 ≤ L.length) (hr : r.length ≤ 1000) :
    WP fineD [.val (pvLand L), .val (.int s), .val (pvLand M), .val (pvRow r), .un] fun f e => f = (if fineRow (wid L) r = true then .nx else .rt (.val (.bl false))) ∧ e = [.val (pvLand L), .val (.int s), .val (pvLand M), .val (pvRow r), .un] := by
  have i2 := ixV_land (L := L) (a := .val (pvLand L)) (i := 0) (by omega) (by omega)
  unfold fineD
  simp [i2]
  have it : itemsO (pvRow r) = some (r.map PV.int) := rfl
  by_cases hn : r.length = (rowAt L 0).length
  · rw [if_pos (by omega), it, gateO_some]
    refine ⟨by simp; omega, ?_⟩
    refine wp_lcT (fun _ => true) (fun _ => .bl ((fun _ => true) 0)) (fun k hk => ?_) ?_
    · simp
    · simp [it]
      have eb : blsP (List.map (fun _ => PV.bl true) r) = some (r.map fun _ => true) := blsP_of (f := fun _ => true)
      have ea : (r.map fun _ => true).all id = true := by simp
      rw [eb]
      simp only [Option.map_some, ea, gateO_some]
      simp
      refine ⟨by omega, ?_⟩
      refine wp_lcT (fun _ => true) (fun x => .bl (decide (0 ≤ x ∧ x ≤ 1000))) (fun k hk => ?_) ?_
      · simp
        split <;> omega
      · simp [blsP_of]
        have hw : r.length = wid L := hn
        split
        · rename_i h
          simpa [fineRow, hw] using h
        · rename_i h
          cases hf : fineRow (wid L) r with
          | false => rfl
          | true =>
            simp [fineRow, hw] at hf
            exact absurd hf h
  · rw [if_neg (by omega)]
    have : ¬ r.length = wid L := hn
    simp [fineRow, this]
end Wk
namespace Wk
open PySem PySem.Spec PyProof.Rows L2 Pv
def envS (L M : Land) (s : Int) (x : Sl) : PEnv := [.val (pvLand L), .val (.int s), .val (pvLand M), x, .un]
/-- the loop over the rows: it runs through where all rows are fine, else it answers False -/
theorem fine_loop {L M : Land} {s : Int} {Q : Fl → PEnv → Prop} (hL1 : 1 ≤ L.length) : ∀ {R : Land} {x : Sl}, Plain x → (∀ r ∈ R, r.length ≤ 1000) →
    (R.all (fineRow (wid L)) = true → ∀ x, Plain x → Q .nx (envS L M s x)) → (R.all (fineRow (wid L)) = false → ∀ x, Plain x → Q (.rt (.val (.bl false))) (envS L M s x)) →
    WP (forP (setT (.nm 3)) fineD (rowsP R)) (envS L M s x) Q
  | [], x, hx, _, h1, _ => by
    show WP (forP (setT (.nm 3)) fineD []) (envS L M s x) Q
    rw [wp_forP_nil]
    exact h1 rfl x hx
  | r :: R, x, hx, hR, h1, h2 => by
    show WP (forP (setT (.nm 3)) fineD (pvRow r :: rowsP R)) (envS L M s x) Q
    rw [wp_forP_cons]
    have hs : setT (.nm 3) (pvRow r) (envS L M s x) = some (envS L M s (.val (pvRow r))) := by
      unfold envS
      simp
    rw [hs, gate_some]
    refine wp_mono (fine_ok hL1 (hR r (by simp))) ?_
    rintro f e ⟨rfl, rfl⟩
    cases hf : fineRow (wid L) r with
    | true =>
      rw [if_pos rfl]
      exact fine_loop hL1 (x := .val (pvRow r)) plain_val (fun q hq => hR q (by simp [hq])) (fun h => h1 (by simp only [List.all_cons, hf, h]; rfl)) (fun h => h2 (by simp only [List.all_cons, hf, h]; rfl))
    | false =>
      rw [if_neg (by decide)]
      exact h2 (by simp only [List.all_cons, hf]; rfl) _ plain_val
end Wk
namespace Wk
open PySem PySem.Spec PyProof.Rows L2 Pv
noncomputable def headD : D Fl := dite (dtor (dtnot (dtst (dcall (dfn gIsi) (dcons (dname 2) (dcons (dcon (.ty "tuple")) dnil))))) (dtor (dtst (dop (fun a b => dfn gNe [a, b]) (dcall (dfn gLen) (dcons (dname 2) dnil)) (dcall (dfn gLen) (dcons (dname 0) dnil)))) (dtnot (dtst (dcall (dfn gAll) (dcons (dlc (ditems (dname 2)) (.nm 3) [3] (dpure true) (dcall (dfn gIsi) (dcons (dname 3) (dcons (dcon (.ty "tuple")) dnil)))) dnil)))))) (dret (dcon (.bl false))) dskip
theorem head_ok {L M : Land} {s : Int} (hM : M.length ≤ 1000) : WP headD (envS L M s .un) fun f e => f = (if M.length = L.length then .nx else .rt (.val (.bl false))) ∧ e = envS L M s .un := by
  unfold headD envS
  simp [pvLand]
  by_cases h : M.length = L.length
  · simp [h]
    refine ⟨by omega, ?_⟩
    refine wp_lcT (fun _ => true) (fun _ => .bl ((fun _ => true) 0)) (fun k hk => ?_) ?_
    · simp [pvRow]
    · simp
      have eb : blsP (List.map (fun _ => PV.bl true) M) = some (M.map fun _ => true) := blsP_of (f := fun _ => true)
      have ea : (M.map fun _ => true).all id = true := by simp
      rw [eb]
      simp only [Option.map_some, ea, gateO_some]
      simp
  · have h' : ¬ ((M.length : Int) = L.length) := by omega
    simp [h, h']
end Wk
namespace Wk
open PySem PySem.Spec PyProof.Rows L2 Pv
noncomputable def loopD : D Fl := dfor (.nm 3) (ditems (dname 2)) fineD
noncomputable def endD : D Fl := dret (dand (dop (fun a b => dfn gEq [a, b]) (dcallF f_ulaw_units (dcons (dname 2) dnil)) (dcallF f_ulaw_units (dcons (dname 0) dnil))) (dop (fun a b => dfn gEq [a, b]) (dcallF f_ulaw_steep (dcons (dname 2) (dcons (dname 1) dnil))) (dlst dnil)))
theorem own_settled_eq : b_ulaw_is_settled = dseq headD (dseq loopD endD) := rfl
theorem end_ok {L M : Land} {w : Nat} {s : Int} {x : Sl} (hx : Plain x) (hL : L.length ≤ 100) (hI : LandIs M w) : WP endD (envS L M s x) fun f e => f = .rt (.val (.bl (decide (units M = units L) && decide (steep M s = [])))) ∧ ∃ x', e = envS L M s x' := by
  have a1 := sp_lunits (L := M) (by have := hI.h2; omega)
  have a2 := sp_lunits hL
  have a3 := sp_lsteep (s := s) hI
  unfold endD envS
  simp [a1, a2, a3, gEq_prs_nil]
  split
  · rename_i h
    exact fun _ => h
  · rename_i h
    exact fun h' => absurd h' h
def ownOk (L M : Land) (s : Int) : Bool := decide (M.length = L.length) && M.all (fineRow (wid L)) && decide (units M = units L) && decide (steep M s = [])
/-- the law's own word on a land -/
theorem sp_lsettled_land {L M : Land} {w : Nat} {s : Int} (hL1 : 1 ≤ L.length) (hL : L.length ≤ 100) (hM : M.length ≤ 1000) (hr : ∀ r ∈ M, r.length ≤ 1000) (hI : M.length = L.length → M.all (fineRow (wid L)) = true → LandIs M w) :
    f_ulaw_is_settled [pvLand L, .int s, pvLand M] = some (.bl (ownOk L M s), [pvLand L, .int s, pvLand M]) := by
  refine fn_val (wp_exit rfl ?_)
  rw [own_settled_eq, wp_seq]
  refine wp_mono (head_ok hM) ?_
  rintro f e ⟨rfl, rfl⟩
  have fin : ∀ (b : Bool) (x : Sl), ownOk L M s = b → gate (exitE [0, 1, 2] (envS L M s x) (.val (.bl b))) fun z => gate (outP [0, 1, 2] z.2 0 [pvLand L, .int s, pvLand M]) fun as => z.1 = PV.bl (ownOk L M s) ∧ as = [pvLand L, .int s, pvLand M] := by
    intro b x hb
    unfold envS
    simp [pvLand, hb]
  by_cases hm : M.length = L.length
  · rw [if_pos hm]
    refine then_nx ?_
    rw [wp_seq]
    have hb : WP loopD (envS L M s .un) fun f e => (M.all (fineRow (wid L)) = true → f = .nx ∧ ∃ x, Plain x ∧ e = envS L M s x) ∧ (M.all (fineRow (wid L)) = false → f = .rt (.val (.bl false)) ∧ ∃ x, Plain x ∧ e = envS L M s x) := by
      have hb := fine_loop (L := L) (M := M) (s := s) (R := M) (x := .un) (Q := fun f e => (M.all (fineRow (wid L)) = true → f = .nx ∧ ∃ x, Plain x ∧ e = envS L M s x) ∧ (M.all (fineRow (wid L)) = false → f = .rt (.val (.bl false)) ∧ ∃ x, Plain x ∧ e = envS L M s x)) hL1 plain_un hr
        (fun h x hx => ⟨fun _ => ⟨rfl, x, hx, rfl⟩, fun h' => absurd h (by rw [h']; decide)⟩) (fun h x hx => ⟨fun h' => absurd h' (by rw [h]; decide), fun _ => ⟨rfl, x, hx, rfl⟩⟩)
      unfold loopD
      have hit : WP (ditems (dname 2)) (envS L M s .un) fun ps e => ps = rowsP M ∧ e = envS L M s .un := by
        unfold envS
        simp [pvLand]
      unfold dfor
      rw [wp_bind]
      refine wp_mono hit ?_
      rintro ps e ⟨rfl, rfl⟩
      exact hb
    refine wp_mono hb ?_
    rintro f e ⟨g1, g2⟩
    cases ha : M.all (fineRow (wid L)) with
    | true =>
      obtain ⟨rfl, x, hx, rfl⟩ := g1 ha
      refine then_nx ?_
      refine wp_mono (end_ok hx hL (hI hm ha)) ?_
      rintro f e ⟨rfl, x', rfl⟩
      exact fin _ x' (by simp [ownOk, hm, ha])
    | false =>
      obtain ⟨rfl, x, hx, rfl⟩ := g2 ha
      exact fin _ x (by simp [ownOk, ha])
  · rw [if_neg hm]
    exact fin _ .un (by simp [ownOk, hm])
end Wk
namespace Wk
open PySem PySem.Spec PyProof.Rows L2 Pv
theorem units_hts {L : Land} : units L = (hts L).sum := by
  unfold units hts
  induction L with
  | nil => rfl
  | cons r L ih => rw [List.map_cons, List.sum_cons, ih, List.flatten_cons, List.sum_append]
theorem maxL_le {l : List Int} {s : Int} : ∀ {i : Int}, maxL i l ≤ s ↔ i ≤ s ∧ ∀ x ∈ l, x ≤ s := by
  induction l with
  | nil => intro i; simp [maxL]
  | cons y l ih =>
    intro i
    have e : maxL i (y :: l) = maxL (if y > i then y else i) l := by simp [maxL]
    rw [e, ih]
    constructor
    · rintro ⟨h1, h2⟩
      split at h1
      · exact ⟨by omega, fun x hx => by rcases List.mem_cons.mp hx with rfl | h; exact h1; exact h2 x h⟩
      · exact ⟨h1, fun x hx => by rcases List.mem_cons.mp hx with rfl | h; omega; exact h2 x h⟩
    · rintro ⟨h1, h2⟩
      refine ⟨?_, fun x hx => h2 x (by simp [hx])⟩
      have := h2 y (by simp)
      split <;> omega
end Wk
namespace Wk
open PySem PySem.Spec PyProof.Rows L2 Pv
theorem adj_symm {a b : Spt} (h : adj a b) : adj b a := by unfold adj at *; omega
theorem greatest_steep {L : Land} {s : Int} (hs : 0 ≤ s) : greatest L ≤ s ↔ steep L s = [] := by
  unfold greatest
  rw [maxL_le, List.eq_nil_iff_forall_not_mem]
  constructor
  · rintro ⟨_, h⟩ p hp
    unfold steep at hp
    obtain ⟨h1, h2⟩ := mem_pf.mp hp
    unfold steepG at h2
    obtain ⟨h3, h4⟩ := List.mem_filter.mp h2
    obtain ⟨h5, h6⟩ := mem_beside.mp h3
    have h4' : s < 0 - (ht L p.2 - ht L p.1) := by simpa using h4
    by_cases c : ltS p.1 p.2 = true
    · have := h (stepB L p) (List.mem_map.mpr ⟨p, by rw [pairs_pf]; exact mem_pf.mpr ⟨h1, List.mem_filter.mpr ⟨h3, c⟩⟩, rfl⟩)
      unfold stepB iabs at this
      split at this <;> omega
    · have c2 : ltS p.2 p.1 = true := by
        unfold ltS at c ⊢
        unfold adj at h6
        simp at c ⊢
        omega
      have := h (stepB L (p.2, p.1)) (List.mem_map.mpr ⟨(p.2, p.1), by rw [pairs_pf]; exact mem_pf.mpr ⟨mem_spots.mpr h5, List.mem_filter.mpr ⟨mem_beside.mpr ⟨mem_spots.mp h1, adj_symm h6⟩, c2⟩⟩, rfl⟩)
      unfold stepB iabs at this
      dsimp only at this
      split at this <;> omega
  · intro h
    refine ⟨hs, fun x hx => ?_⟩
    obtain ⟨p, hp, rfl⟩ := List.mem_map.mp hx
    rw [pairs_pf] at hp
    obtain ⟨h1, h2⟩ := mem_pf.mp hp
    obtain ⟨h3, h4⟩ := List.mem_filter.mp h2
    obtain ⟨h5, h6⟩ := mem_beside.mp h3
    by_cases c : s < stepB L p
    · exfalso
      unfold stepB iabs at c
      split at c
      · refine h (p.2, p.1) ?_
        unfold steep
        exact mem_pf.mpr ⟨mem_spots.mpr h5, List.mem_filter.mpr ⟨mem_beside.mpr ⟨mem_spots.mp h1, adj_symm h6⟩, by simp; omega⟩⟩
      · refine h p ?_
        unfold steep
        exact mem_pf.mpr ⟨h1, List.mem_filter.mpr ⟨h3, by simp; omega⟩⟩
    · omega
end Wk
namespace Wk
open PySem PySem.Spec PyProof.Rows L2 Pv
theorem words_same {L M : Land} {s : Int} (h1 : 1 ≤ L.length) (h8 : L.length ≤ 8) (w1 : 1 ≤ wid L) (w8 : wid L ≤ 8) (hs : 0 ≤ s) :
    (landOk M && decide (M.length = L.length) && decide (wid M = wid L) && decide (greatest M ≤ s) && decide ((hts M).sum = (hts L).sum)) = ownOk L M s := by
  have e1 : (greatest M ≤ s) = (steep M s = []) := propext (greatest_steep hs)
  have e2 : (units M = units L) = ((hts M).sum = (hts L).sum) := by rw [units_hts, units_hts]
  rw [Bool.eq_iff_iff]
  unfold ownOk landOk
  simp only [Bool.and_eq_true, decide_eq_true_eq, List.all_eq_true, e1, e2]
  constructor
  · rintro ⟨⟨⟨⟨⟨a, b, c⟩, d⟩, e⟩, f⟩, g⟩
    refine ⟨⟨⟨d, fun r hr => ?_⟩, g⟩, f⟩
    have b1 := b r hr
    have c1 := c r hr
    simp [rowOk] at b1
    simp [fineRow]
    exact ⟨by omega, fun x hx => b1.2 x hx⟩
  · rintro ⟨⟨⟨d, b⟩, g⟩, f⟩
    have hw : wid M = wid L := by
      cases M with
      | nil => simp at d; omega
      | cons r M =>
        have := b r (by simp)
        simp [fineRow] at this
        exact this.1
    refine ⟨⟨⟨⟨⟨by omega, fun r hr => ?_, fun r hr => ?_⟩, d⟩, hw⟩, f⟩, g⟩
    · have := b r hr
      simp [fineRow] at this
      simp [rowOk]
      exact ⟨by omega, fun x hx => this.2 x hx⟩
    · have := b r hr
      simp [fineRow] at this
      omega
end Wk
namespace Wk
open PySem PySem.Spec PyProof.Rows L2 Pv
/-- both say the same of this thing -/
def Agree (L : Land) (s : Int) (x : PV) : Prop := ∃ b : Bool, f_is_settled [pvLand L, .int s, x] = some (.bl b, [pvLand L, .int s, x]) ∧ f_ulaw_is_settled [pvLand L, .int s, x] = some (.bl b, [pvLand L, .int s, x])
section
variable {L M : Land} {s : Int} (ho : landOk L = true) (h1 : 1 ≤ s) (h2 : s ≤ 1000)
include ho h1 h2
theorem agree_non : Agree L s .non := ⟨false, sp_settled_no ho h1 h2 rfl sp_is_land_non, sp_lsettled_non⟩
theorem agree_unit (hl : 1 ≤ L.length) : Agree L s (.tup []) := ⟨false, sp_settled_no ho h1 h2 rfl sp_is_land_unit, sp_lsettled_unit hl⟩
theorem agree_list {l : List PV} (h : PV.fzs l = true) : Agree L s (.lst false l) := ⟨false, sp_settled_no ho h1 h2 (by simp [h]) (sp_is_land_list h), sp_lsettled_list h⟩
theorem agree_lists (g1 : 1 ≤ M.length) (g8 : M.length ≤ 8) : Agree L s (.tup (listsP M)) := ⟨false, sp_settled_no ho h1 h2 (by
  have : PV.fzs (listsP M) = true := by
    unfold listsP
    clear g1 g8
    induction M with
    | nil => rfl
    | cons r M ih => rw [List.map_cons, PV.fzs, ih]; simp
  simpa using this) (sp_is_land_lists g1 g8), sp_lsettled_lists g1 (by omega)⟩
end
end Wk
namespace Wk
open PySem PySem.Spec PyProof.Rows L2 Pv
theorem LandIs.ofOk {M : Land} (h : landOk M = true) : LandIs M (wid M) :=
  ⟨fun r hr => (landOk_row h r hr).1, rfl, (landOk_len h).1, (landOk_len h).2, (landOk_wid h).2⟩
theorem flatten_le {M : Land} {a b : Nat} (hr : ∀ r ∈ M, r.length ≤ a) (hl : M.length ≤ b) : M.flatten.length ≤ b * a := by
  have : ∀ M : Land, (∀ r ∈ M, r.length ≤ a) → M.flatten.length ≤ M.length * a := by
    intro M
    induction M with
    | nil => intro _; simp
    | cons r M ih =>
      intro h
      rw [List.flatten_cons, List.length_append, List.length_cons, Nat.add_mul, Nat.one_mul]
      have := ih fun q hq => h q (by simp [hq])
      have := h r (by simp)
      omega
  exact Nat.le_trans (this M hr) (Nat.mul_le_mul_right _ hl)
theorem agree_land {L M : Land} {s : Int} (ho : landOk L = true) (h1 : 1 ≤ s) (h2 : s ≤ 1000) (hr : ∀ r ∈ M, r.length ≤ 64) (hl : M.length ≤ 16) : Agree L s (pvLand M) := by
  have g1 := landOk_len ho
  have g2 := landOk_wid ho
  have f1 := flatten_le hr hl
  have f2 := flatten_le (M := L) (a := 8) (b := 8) (fun r hr => rowOk_len (landOk_row ho r hr).2) g1.2
  refine ⟨ownOk L M s, ?_, ?_⟩
  · rw [← words_same (M := M) (s := s) g1.1 g1.2 g2.1 g2.2 (by omega)]
    exact sp_settled_land ho h1 h2 (fun r h => by have := hr r h; omega) (by omega) (w := wid M) (fun h => LandIs.ofOk h) (by omega) (by omega) g1.1
  · refine sp_lsettled_land (w := wid L) g1.1 (by omega) (by omega) (fun r h => by have := hr r h; omega) fun hm ha => ?_
    have hrw : ∀ r ∈ M, r.length = wid L := fun r h => by
      have := List.all_eq_true.mp ha r h
      simp [fineRow] at this
      exact this.1
    exact ⟨hrw, (hrw _ (rowAt_mem (by omega) (by omega))).symm, by omega, by omega, g2.2⟩
/-! what falls leave as it is -/
theorem inR_set {L : Land} {s : Spt} {v m : Int} (h : inR m L) (hs : InL L s) (hv : 0 ≤ v ∧ v ≤ m) : inR m (setC L s v) := by
  intro r hr x hx
  unfold setC at hr
  rcases List.mem_or_eq_of_mem_set hr with h1 | rfl
  · exact h r h1 x hx
  · rcases List.mem_or_eq_of_mem_set hx with h1 | rfl
    · exact h _ (rowAt_mem hs.1 hs.2.1) x h1
    · exact hv
theorem ht_in {L : Land} {s : Spt} {m : Int} (h : inR m L) (hs : InL L s) : 0 ≤ ht L s ∧ ht L s ≤ m := cell_in (h _ (rowAt_mem hs.1 hs.2.1)) hs.2.2.1 hs.2.2.2
theorem inR_fall {L : Land} {w : Nat} {s m : Int} (h : LandIs L w) (hs : 0 ≤ s) (hm : inR m L) : inR m (fallL L s) := by
  unfold fallL
  cases e : steep L s with
  | nil => exact hm
  | cons p l =>
    obtain ⟨h1, h2, h3, h4⟩ := steep_in h (show p ∈ steep L s by rw [e]; simp)
    have a1 := ht_in hm h1
    have a2 := ht_in hm h2
    have hM := h.set (v := ht L p.1 - 1) h1
    have h2' := h.inL hM set_len h2
    have b1 := inR_set (v := ht L p.1 - 1) hm h1 (by omega)
    show inR m (moved L p)
    unfold moved
    refine inR_set b1 h2' ?_
    rw [ht_set h1 h2, if_neg (Ne.symm h4)]
    omega
theorem inR_it {L : Land} {w : Nat} {s m : Int} (h : LandIs L w) (hs : 0 ≤ s) (hm : inR m L) : ∀ n, inR m (itF s L n)
  | 0 => hm
  | n + 1 => inR_fall (itF_is h n).1 hs (inR_it h hs hm n)
theorem sum_set {l : List Int} {v : Int} : ∀ {i : Nat}, i < l.length → (l.set i v).sum = l.sum - l.getD i 0 + v := by
  induction l with
  | nil => intro i h; simp at h
  | cons x l ih =>
    intro i h
    cases i with
    | zero => simp; omega
    | succ i =>
      rw [List.set_cons_succ, List.sum_cons, List.sum_cons, ih (by simpa using h)]
      simp
      omega
theorem units_set {L : Land} {s : Spt} {v : Int} (hs : InL L s) : units (setC L s v) = units L - ht L s + v := by
  obtain ⟨a1, a2, a3, a4⟩ := hs
  unfold units setC ht
  rw [List.map_set, sum_set (by simp; omega), sum_set (by omega)]
  have e : (L.map List.sum).getD s.1.toNat 0 = (rowAt L s.1).sum := by
    unfold rowAt
    have : s.1.toNat < L.length := by omega
    simp [List.getD, this]
  rw [e]
  unfold cellAt
  omega
theorem units_fall {L : Land} {w : Nat} {s : Int} (h : LandIs L w) : units (fallL L s) = units L := by
  unfold fallL
  cases e : steep L s with
  | nil => rfl
  | cons p l =>
    obtain ⟨h1, h2, h3, h4⟩ := steep_in h (show p ∈ steep L s by rw [e]; simp)
    have hM := h.set (v := ht L p.1 - 1) h1
    have h2' := h.inL hM set_len h2
    show units (moved L p) = _
    unfold moved
    rw [units_set h2', units_set h1]
    omega
theorem units_it {L : Land} {w : Nat} {s : Int} (h : LandIs L w) : ∀ n, units (itF s L n) = units L
  | 0 => rfl
  | n + 1 => by
    show units (fallL (itF s L n) s) = _
    rw [units_fall (itF_is h n).1, units_it h n]
theorem landOk_of {L : Land} {w : Nat} {m : Int} (h : LandIs L w) (h1 : 1 ≤ w) (hm : inR m L) (h2 : m ≤ 1000) : landOk L = true := by
  have g1 := h.h1
  have g2 := h.h2
  have g3 := h.w2
  have g4 := h.wd
  unfold landOk
  simp only [Bool.and_eq_true, decide_eq_true_eq, List.all_eq_true]
  refine ⟨⟨g1, g2⟩, fun r hr => ?_, fun r hr => by rw [h.row r hr, g4]⟩
  have := h.row r hr
  simp [rowOk]
  refine ⟨by omega, fun x hx => ?_⟩
  have := hm r hr x hx
  omega
end Wk
namespace Wk
open PySem PySem.Spec PyProof.Rows L2 Pv
def cutG {α : Type} (xs : List α) (lo hi : Option Int) : List α := (xs.drop (HT.sIx xs.length 0 lo)).take (HT.sIx xs.length xs.length hi - HT.sIx xs.length 0 lo)
theorem cutP_map {α : Type} {f : α → PV} {l : List α} {lo hi : Option Int} : cutP (l.map f) lo hi = (cutG l lo hi).map f := by
  unfold cutP cutG
  simp [List.map_take, List.map_drop]
theorem cutG_mem {α : Type} {l : List α} {lo hi : Option Int} {x : α} (h : x ∈ cutG l lo hi) : x ∈ l := List.mem_of_mem_drop (List.mem_of_mem_take h)
theorem cutG_len {α : Type} {l : List α} {lo hi : Option Int} : (cutG l lo hi).length ≤ l.length := by
  unfold cutG
  simp
  omega
theorem cutO_land {L : Land} {lo hi : Option Int} : cutO (some (pvLand L)) lo hi = some (pvLand (cutG L lo hi)) := by
  unfold pvLand rowsP
  rw [cutO_tup, cutP_map]
theorem cutO_row {r : List Int} {lo hi : Option Int} : cutO (some (pvRow r)) lo hi = some (pvRow (cutG r lo hi)) := by
  unfold pvRow pis
  rw [cutO_tup, cutP_map]
theorem cutO_pis {o : Bool} {r : List Int} {lo hi : Option Int} : cutO (some (.lst o (pis r))) lo hi = some (.lst true (pis (cutG r lo hi))) := by
  rw [cutO_lst, if_pos fzs_i]
  unfold pis
  rw [cutP_map]
theorem revO_land {L : Land} : revO (some (pvLand L)) = some (pvLand L.reverse) := by
  unfold pvLand rowsP
  rw [revO_tup, List.map_reverse]
theorem revO_row {r : List Int} : revO (some (pvRow r)) = some (pvRow r.reverse) := by
  unfold pvRow pis
  rw [revO_tup, List.map_reverse]
theorem gTuple_pis {o : Bool} {r : List Int} : gTuple [.lst o (pis r)] = some (pvRow r) := by
  rw [gTuple_lst, if_pos fzs_i]
  rfl
theorem gTuple_rows {o : Bool} {L : Land} : gTuple [.lst o (rowsP L)] = some (pvLand L) := by
  rw [gTuple_lst, if_pos fzs_r]
  rfl
theorem gList_land {L : Land} : gList [pvLand L] = some (.lst true (rowsP L)) := rfl
theorem items_land {L : Land} : itemsO (pvLand L) = some (rowsP L) := rfl
theorem gAdd_row1' {a : List Int} {v : Int} : gAdd [.tup [.int v], pvRow a] = if 1 + a.length ≤ 16777216 then some (pvRow (v :: a)) else none := by
  unfold pvRow
  rw [gAdd_tup, len_i]
  rfl
theorem ixV_land_last {a : Sl} {L : Land} {r : List Int} (e : L.getLast? = some r) : ixV a (some (pvLand L)) (some (.int (-1))) = some (.val (pvRow r)) := by
  have h : L ≠ [] := fun z => by rw [z] at e; cases e
  have hl : 0 < L.length := List.length_pos_iff.mpr h
  unfold pvLand ixV atI
  have e1 : ixN (rowsP L).length (-1) = some (L.length - 1) := by
    unfold ixN
    rw [if_neg (by omega), if_pos (by simp; omega)]
    simp
    omega
  dsimp only
  rw [e1]
  rw [List.getLast?_eq_getElem?] at e
  have e2 : (rowsP L)[L.length - 1]? = some (pvRow r) := by
    unfold rowsP
    rw [List.getElem?_map, e]
    rfl
  show Option.map _ ((rowsP L)[L.length - 1]?) = _
  rw [e2]
  rfl
/-- a thing of which both say the same -/
def Th (L : Land) (s : Int) (x : PV) : Prop := Agree L s x ∧ x.fz = true
noncomputable def thg1 : D Fl := (dset 4 (dcallF f_ulaw_spots (dcons (dname 1) dnil)))
noncomputable def thg2 : D Fl := (dset 5 (dcallF f_ulaw_behind (dcons (dname 3) (dcons (dtup (dcons (dcallF f_ulaw_any (dcons (dname 0) (dcons (dname 4) dnil))) (dcons (dcallF f_ulaw_any (dcons (dname 0) (dcons (dname 4) dnil))) dnil))) dnil))))
noncomputable def thg3 : D Fl := (dpars [6, 7] (dcons (dop (fun a b => dfn gDiv [a, b]) (dcallF f_ulaw_units (dcons (dname 1) dnil)) (dcall (dfn gLen) (dcons (dname 4) dnil))) (dcons (dop (fun a b => dfn gMod [a, b]) (dcall (dfn gInt) (dcons (dcallF f_ulaw_units (dcons (dname 1) dnil)) dnil)) (dcall (dfn gLen) (dcons (dname 4) dnil))) dnil)))
noncomputable def thg4 : D Fl := (dset 8 (dlc (drange1 (dcons (dcall (dfn gLen) (dcons (dname 4) dnil)) dnil)) (.nm 13) [13] (dpure true) (dop (fun a b => dfn gAdd [a, b]) (dname 6) (dcall (dfn gInt) (dcons (dop (fun a b => dfn gLt [a, b]) (dname 13) (dname 7)) dnil)))))
noncomputable def thg5 : D Fl := (dset 9 (dcall (dfn gLen) (dcons (dop dixE (dname 1) (dcon (.int 0))) dnil)))
noncomputable def thg6 : D Fl := (dset 10 (dcall (dfn gTuple) (dcons (dlc (drange1 (dcons (dcall (dfn gLen) (dcons (dname 1) dnil)) dnil)) (.nm 14) [14] (dpure true) (dcall (dfn gTuple) (dcons (dslice (dname 8) (some (dop (fun a b => dfn gMul [a, b]) (dname 14) (dname 9))) (some (dop (fun a b => dfn gAdd [a, b]) (dop (fun a b => dfn gMul [a, b]) (dname 14) (dname 9)) (dname 9)))) dnil))) dnil)))
noncomputable def thg7 : D Fl := (dset 11 (dlst (dcons (dname 3) (dcons (dname 5) (dcons (dname 10) (dcons (dname 1) (dcons (dslice (dname 3) (some (dcon (.int 1))) none) (dcons (dop (fun a b => dfn gAdd [a, b]) (dname 3) (dslice (dname 3) none (some (dcon (.int 1))))) (dcons (dcall (dfn gList) (dcons (dname 3) dnil)) (dcons (dcon .non) (dcons (dtup dnil) dnil)))))))))))
noncomputable def thg8 : D Fl := (dset 11 (dop (fun a b => dfn gAdd [a, b]) (dname 11) (dlst (dcons (dop (fun a b => dfn gAdd [a, b]) (dslice (dname 3) none (some (dun (fun a => dfn gNeg [a]) (dcon (.int 1))))) (dtup (dcons (dop (fun a b => dfn gAdd [a, b]) (dtup (dcons (dop (fun a b => dfn gAdd [a, b]) (dop dixE (dop dixE (dname 3) (dun (fun a => dfn gNeg [a]) (dcon (.int 1)))) (dcon (.int 0))) (dcon (.int 1))) dnil)) (dslice (dop dixE (dname 3) (dun (fun a => dfn gNeg [a]) (dcon (.int 1)))) (some (dcon (.int 1))) none)) dnil))) (dcons (dbind (dname 3) drev) dnil)))))
noncomputable def thg9 : D Fl := (dset 11 (dop (fun a b => dfn gAdd [a, b]) (dname 11) (dlst (dcons (dcall (dfn gTuple) (dcons (dlc (ditems (dname 3)) (.nm 14) [14] (dpure true) (dbind (dname 14) drev)) dnil)) (dcons (dcall (dfn gTuple) (dcons (dlc (ditems (dname 3)) (.nm 14) [14] (dpure true) (dfrz (dcall (dfn gList) (dcons (dname 14) dnil)))) dnil)) dnil)))))
noncomputable def thg10 : D Fl := (dfor (.nm 12) (ditems (dname 11)) (dite (dtnot (dtst (dcallF f_ulaw_like (dcons (dcallF f_is_settled (dcons (dname 1) (dcons (dname 2) (dcons (dname 12) dnil)))) (dcons (dcallF f_ulaw_is_settled (dcons (dname 1) (dcons (dname 2) (dcons (dname 12) dnil)))) dnil))))) (dret (dcon (.bl false))) dskip))
noncomputable def thg11 : D Fl := (dret (dcon (.bl true)))
theorem thg_eq : b_ulaw_are_things_right = dseq thg1 (dseq thg2 (dseq thg3 (dseq thg4 (dseq thg5 (dseq thg6 (dseq thg7 (dseq thg8 (dseq thg9 (dseq thg10 thg11))))))))) := rfl
def envA (h : Hand) (L M : Land) (s : Int) (a4 a5 a6 a7 a8 a9 a10 a11 a12 : Sl) : PEnv := [.val (pvH h), .val (pvLand L), .val (.int s), .val (pvLand M), a4, a5, a6, a7, a8, a9, a10, a11, a12, .un, .un]
theorem like_step {L M : Land} {s : Int} {h : Hand} {a4 a5 a6 a7 a8 a9 a10 a11 : PV} {x : Sl} {p : PV} {Q : Fl → PEnv → Prop} (hx : Plain x) (hp : Th L s p) (q : Q .nx (envA h L M s (.val a4) (.val a5) (.val a6) (.val a7) (.val a8) (.val a9) (.val a10) (.val a11) (.val p))) :
    gate (setT (.nm 12) p (envA h L M s (.val a4) (.val a5) (.val a6) (.val a7) (.val a8) (.val a9) (.val a10) (.val a11) x)) fun e1 => WP (dite (dtnot (dtst (dcallF f_ulaw_like (dcons (dcallF f_is_settled (dcons (dname 1) (dcons (dname 2) (dcons (dname 12) dnil)))) (dcons (dcallF f_ulaw_is_settled (dcons (dname 1) (dcons (dname 2) (dcons (dname 12) dnil)))) dnil))))) (dret (dcon (.bl false))) dskip) e1 Q := by
  obtain ⟨⟨b, e1, e2⟩, hz⟩ := hp
  unfold envA at q ⊢
  simp [hz, e1, e2, sp_like_bl, hx.r 12]
  exact q
theorem thg10_ok {L M : Land} {s : Int} {h : Hand} {a4 a5 a6 a7 a8 a9 a10 : PV} {ts : List PV} (ht : ∀ p ∈ ts, Th L s p) :
    WP thg10 (envA h L M s (.val a4) (.val a5) (.val a6) (.val a7) (.val a8) (.val a9) (.val a10) (.val (.lst true ts)) .un) fun f e => f = .nx ∧ ∃ a11 x, e = envA h L M s (.val a4) (.val a5) (.val a6) (.val a7) (.val a8) (.val a9) (.val a10) (.val a11) x := by
  have hz : PV.fzs ts = true := PV.fzs_of fun x hx => (ht x hx).2
  have hb : ∀ (l : List PV), (∀ p ∈ l, Th L s p) → ∀ x, Plain x → WP (forP (setT (.nm 12)) (dite (dtnot (dtst (dcallF f_ulaw_like (dcons (dcallF f_is_settled (dcons (dname 1) (dcons (dname 2) (dcons (dname 12) dnil)))) (dcons (dcallF f_ulaw_is_settled (dcons (dname 1) (dcons (dname 2) (dcons (dname 12) dnil)))) dnil))))) (dret (dcon (.bl false))) dskip) l) (envA h L M s (.val a4) (.val a5) (.val a6) (.val a7) (.val a8) (.val a9) (.val a10) (.val (.lst false ts)) x) fun f e => f = .nx ∧ ∃ a11 x, e = envA h L M s (.val a4) (.val a5) (.val a6) (.val a7) (.val a8) (.val a9) (.val a10) (.val a11) x := by
    intro l
    induction l with
    | nil =>
      intro _ x _
      rw [wp_forP_nil]
      exact ⟨rfl, _, x, rfl⟩
    | cons p l ih =>
      intro hl x hx
      rw [wp_forP_cons]
      refine like_step hx (hl p (by simp)) ?_
      exact ih (fun q hq => hl q (by simp [hq])) _ plain_val
  have hb2 := hb ts ht .un plain_un
  unfold thg10 envA
  unfold envA at hb2
  rw [wp_for]
  simp only [wp_items, wp_name]
  simp [hz, frzs_of hz]
  simpa using hb2
end Wk
namespace Wk
open PySem PySem.Spec PyProof.Rows L2 Pv
theorem cutP_pis {F : List Int} {lo hi : Option Int} : cutP (pis F) lo hi = pis (cutG F lo hi) := cutP_map
section
variable {L M : Land} {w : Nat} {s : Int} {h : Hand}
theorem thg1_ok (hL : LandIs L w) : WP thg1 (envA h L M s .un .un .un .un .un .un .un .un .un) fun f e => f = .nx ∧ e = envA h L M s (.val (.lst true (sps (spots L)))) .un .un .un .un .un .un .un .un := by
  have a1 := sp_lspots (L := L) (by have := hL.h1; omega) (by have := hL.h2; omega) (by have := hL.wd; have := hL.w2; omega)
  unfold thg1 envA
  simp [a1]
theorem spots_pos (hL : LandIs L w) (h1 : 1 ≤ w) : 0 < (spots L).length := by
  unfold spots
  rw [spotsTo_len]
  have := hL.h1
  have := hL.wd
  exact Nat.mul_pos (by omega) (by omega)
theorem moved_len {p : Pr} : (moved M p).length = M.length := by unfold moved; rw [set_len, set_len]
theorem thg2_ok (hL : LandIs L w) (hM : LandIs M w) (hl : M.length = L.length) (h1 : 1 ≤ w) (ok : HandOk h) :
    WP thg2 (envA h L M s (.val (.lst true (sps (spots L)))) .un .un .un .un .un .un .un .un) fun f e => f = .nx ∧ ∃ h' N, HandOk h' ∧ (∀ r ∈ N, List.length r ≤ 64) ∧ List.length N ≤ 16 ∧ e = envA h' L M s (.val (.lst true (sps (spots L)))) (.val (pvLand N)) .un .un .un .un .un .un .un := by
  have hs := spots_pos hL h1
  have hs2 := spots_len hL
  obtain ⟨x1, h2, m1, e1, ok2⟩ := any (o := true) (xs := sps (spots L)) ok fzs_s (by simpa using hs) (by simp; omega)
  obtain ⟨x2, h3, m2, e2, ok3⟩ := any (o := true) (xs := sps (spots L)) ok2 fzs_s (by simpa using hs) (by simp; omega)
  obtain ⟨s1, g1, rfl⟩ := List.mem_map.mp m1
  obtain ⟨s2, g2, rfl⟩ := List.mem_map.mp m2
  have i1 := hL.inL hM hl (spots_in hL.row hL.wd g1).1
  have i2 := hL.inL hM hl (spots_in hL.row hL.wd g2).1
  have hb := sp_lbehind (p := (s1, s2)) hM i1 i2
  have hI := moved_is (p := (s1, s2)) hM i1 i2
  have hP : PV.tup [pvS s1, pvS s2] = pvP (s1, s2) := rfl
  unfold thg2 envA
  simp [e1, e2, hP, hb]
  exact ⟨h3, ok3, moved M (s1, s2), fun r hr => by have := hI.row r hr; have := hI.w2; omega, by rw [moved_len]; have := hM.h2; omega, rfl, rfl⟩
theorem thg3_ok {N : Land} (hL : LandIs L w) (h1 : 1 ≤ w) :
    WP thg3 (envA h L M s (.val (.lst true (sps (spots L)))) (.val (pvLand N)) .un .un .un .un .un .un .un) fun f e => f = .nx ∧ ∃ a b, e = envA h L M s (.val (.lst true (sps (spots L)))) (.val (pvLand N)) (.val (.int a)) (.val (.int b)) .un .un .un .un .un := by
  have hs := spots_pos hL h1
  have hs2 := spots_len hL
  have a1 := sp_lunits (L := L) (by have := hL.h2; omega)
  have hp : (0 : Int) < (spots L).length := by omega
  unfold thg3 envA
  simp [a1, gDiv_ok hp (by omega), hp]
  exact hs
theorem thg4_ok {N : Land} {a b : Int} (hL : LandIs L w) :
    WP thg4 (envA h L M s (.val (.lst true (sps (spots L)))) (.val (pvLand N)) (.val (.int a)) (.val (.int b)) .un .un .un .un .un) fun f e => f = .nx ∧ ∃ F, List.length F ≤ 64 ∧ e = envA h L M s (.val (.lst true (sps (spots L)))) (.val (pvLand N)) (.val (.int a)) (.val (.int b)) (.val (.lst true (pis F))) .un .un .un .un := by
  have hs2 := spots_len hL
  unfold thg4 envA
  simp [rangeP0]
  refine ⟨okB_nat (by omega), by omega, ?_⟩
  refine wp_lcT (fun _ => true) (fun k => .int (a + if (k : Int) < b then 1 else 0)) (fun k hk => ?_) ?_
  · simp
  · have e : ((List.range (spots L).length).filter fun _ => true).map (fun (k : Nat) => PV.int (a + if (k : Int) < b then 1 else 0)) = pis ((List.range (spots L).length).map fun (k : Nat) => a + if (k : Int) < b then 1 else 0) := by simp [pis]
    rw [e]
    simp
    exact ⟨_, by simpa using hs2, rfl⟩
theorem thg5_ok {a4 a5 a6 a7 a8 : PV} (hL : LandIs L w) :
    WP thg5 (envA h L M s (.val a4) (.val a5) (.val a6) (.val a7) (.val a8) .un .un .un .un) fun f e => f = .nx ∧ e = envA h L M s (.val a4) (.val a5) (.val a6) (.val a7) (.val a8) (.val (.int (wid L))) .un .un .un := by
  unfold thg5 envA
  simp [ixV_land0 hL.h1]
  rfl
theorem thg6_ok {a4 a5 a6 a7 : PV} {F : List Int} (hL : LandIs L w) (hF : F.length ≤ 64) :
    WP thg6 (envA h L M s (.val a4) (.val a5) (.val a6) (.val a7) (.val (.lst true (pis F))) (.val (.int (wid L))) .un .un .un) fun f e => f = .nx ∧ ∃ N, (∀ r ∈ N, List.length r ≤ 64) ∧ List.length N ≤ 16 ∧ e = envA h L M s (.val a4) (.val a5) (.val a6) (.val a7) (.val (.lst true (pis F))) (.val (.int (wid L))) (.val (pvLand N)) .un .un := by
  have h8 := hL.h2
  have hw := hL.w2
  have hwd := hL.wd
  unfold thg6 envA
  simp [rangeP0]
  refine ⟨okB_nat (by omega), by omega, ?_⟩
  refine wp_lcT (fun _ => true) (fun k => pvRow (cutG F (some ((k : Int) * wid L)) (some ((k : Int) * wid L + wid L)))) (fun k hk => ?_) ?_
  · have hm : mulOk (k : Int) (wid L) = true := mulOk_r (by omega) (by omega)
    simp -implicitDefEqProofs [hm, cutO_pis, gTuple_pis, cutP_pis]
    rfl
  · have e : ((List.range L.length).filter fun _ => true).map (fun (k : Nat) => pvRow (cutG F (some ((k : Int) * wid L)) (some ((k : Int) * wid L + wid L)))) = rowsP ((List.range L.length).map fun (k : Nat) => cutG F (some ((k : Int) * wid L)) (some ((k : Int) * wid L + wid L))) := by simp [rowsP]
    rw [e]
    simp [gTuple_rows]
    refine ⟨_, ?_, ?_, rfl⟩
    · intro r hr
      obtain ⟨k, _, rfl⟩ := List.mem_map.mp hr
      exact Nat.le_trans cutG_len hF
    · simp
      omega
end
end Wk
namespace Wk
open PySem PySem.Spec PyProof.Rows L2 Pv
section
variable {L M : Land} {w : Nat} {s : Int} {h : Hand}
structure Small (N : Land) : Prop where
  r : ∀ r ∈ N, List.length r ≤ 64
  l : List.length N ≤ 16
theorem Small.of {N : Land} (h : LandIs N w) : Small N := ⟨fun r hr => by have := h.row r hr; have := h.w2; omega, by have := h.h2; omega⟩
theorem th_land {N : Land} (ho : landOk L = true) (h1 : 1 ≤ s) (h2 : s ≤ 1000) (hN : Small N) : Th L s (pvLand N) := ⟨agree_land ho h1 h2 hN.r hN.l, fz_land⟩
theorem small_cut {N : Land} {lo hi : Option Int} (h : Small N) : Small (cutG N lo hi) := ⟨fun r hr => h.r r (cutG_mem hr), Nat.le_trans cutG_len h.l⟩
theorem thg7_ok {a4 a6 a7 a8 a9 : PV} {N1 N2 : Land} (hL : LandIs L w) (hM : LandIs M w) (ho : landOk L = true) (h1 : 1 ≤ s) (h2 : s ≤ 1000) (hN1 : Small N1) (hN2 : Small N2) :
    WP thg7 (envA h L M s (.val a4) (.val (pvLand N1)) (.val a6) (.val a7) (.val a8) (.val a9) (.val (pvLand N2)) .un .un) fun f e => f = .nx ∧ ∃ ts, (∀ p ∈ ts, Th L s p) ∧ List.length ts ≤ 9 ∧ e = envA h L M s (.val a4) (.val (pvLand N1)) (.val a6) (.val a7) (.val a8) (.val a9) (.val (pvLand N2)) (.val (.lst true ts)) .un := by
  have hl := hL.h1
  have hm := hM.h2
  have c1 : M.length + (cutG M none (some 1)).length ≤ 16777216 := by
    have := cutG_len (l := M) (lo := none) (hi := some 1)
    omega
  have sM := Small.of hM
  have sL := Small.of hL
  have s1 := small_cut (lo := some 1) (hi := none) sM
  have s2 : Small (M ++ cutG M none (some 1)) := ⟨fun r hr => by
    rcases List.mem_append.mp hr with h | h
    · exact sM.r r h
    · exact sM.r r (cutG_mem h), by
    have := cutG_len (l := M) (lo := none) (hi := some 1)
    simp
    omega⟩
  have e : ∀ X, WP thg7 (envA h L M s (.val a4) (.val (pvLand N1)) (.val a6) (.val a7) (.val a8) (.val a9) (.val (pvLand N2)) .un .un) X = X .nx (envA h L M s (.val a4) (.val (pvLand N1)) (.val a6) (.val a7) (.val a8) (.val a9) (.val (pvLand N2)) (.val (.lst true [pvLand M, pvLand N1, pvLand N2, pvLand L, pvLand (cutG M (some 1) none), pvLand (M ++ cutG M none (some 1)), .lst false (rowsP M), .non, .tup []])) .un) := by
    intro X
    unfold thg7 envA
    simp -implicitDefEqProofs [cutO_land, gAdd_land, c1, gList_land]
  rw [e]
  refine ⟨rfl, _, ?_, ?_, rfl⟩
  · intro p hp
    simp only [List.mem_cons, List.not_mem_nil, or_false] at hp
    rcases hp with rfl | rfl | rfl | rfl | rfl | rfl | rfl | rfl | rfl
    · exact th_land ho h1 h2 sM
    · exact th_land ho h1 h2 hN1
    · exact th_land ho h1 h2 hN2
    · exact th_land ho h1 h2 sL
    · exact th_land ho h1 h2 s1
    · exact th_land ho h1 h2 s2
    · exact ⟨agree_list ho h1 h2 fzs_r, by simp⟩
    · exact ⟨agree_non ho h1 h2, rfl⟩
    · exact ⟨agree_unit ho h1 h2 hl, rfl⟩
  · simp
theorem thg8_ok {a4 a5 a6 a7 a8 a9 a10 : PV} {ts : List PV} (hL : LandIs L w) (hM : LandIs M w) (hw : 1 ≤ w) (ho : landOk L = true) (h1 : 1 ≤ s) (h2 : s ≤ 1000) (ht : ∀ p ∈ ts, Th L s p) (hl : ts.length ≤ 9) :
    WP thg8 (envA h L M s (.val a4) (.val a5) (.val a6) (.val a7) (.val a8) (.val a9) (.val a10) (.val (.lst true ts)) .un) fun f e => f = .nx ∧ ∃ ts, (∀ p ∈ ts, Th L s p) ∧ List.length ts ≤ 11 ∧ e = envA h L M s (.val a4) (.val a5) (.val a6) (.val a7) (.val a8) (.val a9) (.val a10) (.val (.lst true ts)) .un := by
  have hz : PV.fzs ts = true := PV.fzs_of fun x hx => (ht x hx).2
  have hm := hM.h2
  have hm1 := hM.h1
  have hm2 := hM.w2
  obtain ⟨r, er⟩ : ∃ r, M.getLast? = some r := ⟨_, List.getLast?_eq_some_getLast (fun z => by rw [z] at hm1; simp at hm1)⟩
  have hr : r.length = w := hM.row r (List.mem_of_getLast? er)
  have cr := cutG_len (l := r) (lo := some 1) (hi := none)
  have cm := cutG_len (l := M) (lo := none) (hi := some (-1))
  have c1 : 1 + (cutG r (some 1) none).length ≤ 16777216 := by omega
  have c2 : (cutG M none (some (-1))).length + 1 ≤ 16777216 := by omega
  have sM := Small.of hM
  have s1 : Small (cutG M none (some (-1)) ++ [(cellAt r 0 + 1) :: cutG r (some 1) none]) := ⟨fun q hq => by
    rcases List.mem_append.mp hq with h | h
    · exact sM.r q (cutG_mem h)
    · rw [List.mem_singleton.mp h]
      simp
      omega, by
    simp
    omega⟩
  have s2 : Small M.reverse := ⟨fun q hq => sM.r q (List.mem_reverse.mp hq), by simpa using sM.l⟩
  have e : ∀ X, WP thg8 (envA h L M s (.val a4) (.val a5) (.val a6) (.val a7) (.val a8) (.val a9) (.val a10) (.val (.lst true ts)) .un) X = X .nx (envA h L M s (.val a4) (.val a5) (.val a6) (.val a7) (.val a8) (.val a9) (.val a10) (.val (.lst true (ts ++ [pvLand (cutG M none (some (-1)) ++ [(cellAt r 0 + 1) :: cutG r (some 1) none]), pvLand M.reverse]))) .un) := by
    intro X
    have i0 : ∀ a : Sl, ixV a (some (pvRow r)) (some (.int 0)) = some (.val (.int (cellAt r 0))) := fun a => ixV_row (by omega) (by omega)
    have c3 : ts.length + 2 ≤ 16777216 := by omega
    unfold thg8 envA
    simp -implicitDefEqProofs [cutO_land, cutO_row, ixV_land_last er, i0, gAdd_row1', c1, gAdd_land1, c2, hz, revO_land, c3]
  rw [e]
  refine ⟨rfl, _, ?_, ?_, rfl⟩
  · intro p hp
    rcases List.mem_append.mp hp with hp | hp
    · exact ht p hp
    · simp only [List.mem_cons, List.not_mem_nil, or_false] at hp
      rcases hp with rfl | rfl
      · exact th_land ho h1 h2 s1
      · exact th_land ho h1 h2 s2
  · simp
    omega
end
end Wk
namespace Wk
open PySem PySem.Spec PyProof.Rows L2 Pv
section
variable {L M : Land} {w : Nat} {s : Int} {h : Hand}
theorem fzs_lists {L : Land} : PV.fzs (listsP L) = true := by
  unfold listsP
  induction L with
  | nil => rfl
  | cons r L ih => rw [List.map_cons, PV.fzs, ih]; simp
theorem thg9_ok {a4 a5 a6 a7 a8 a9 a10 : PV} {ts : List PV} (hM : LandIs M w) (ho : landOk L = true) (h1 : 1 ≤ s) (h2 : s ≤ 1000) (ht : ∀ p ∈ ts, Th L s p) (hl : ts.length ≤ 11) :
    WP thg9 (envA h L M s (.val a4) (.val a5) (.val a6) (.val a7) (.val a8) (.val a9) (.val a10) (.val (.lst true ts)) .un) fun f e => f = .nx ∧ ∃ ts, (∀ p ∈ ts, Th L s p) ∧ e = envA h L M s (.val a4) (.val a5) (.val a6) (.val a7) (.val a8) (.val a9) (.val a10) (.val (.lst true ts)) .un := by
  have hz : PV.fzs ts = true := PV.fzs_of fun x hx => (ht x hx).2
  have hm := hM.h2
  have hm1 := hM.h1
  have sM := Small.of hM
  have s1 : Small (M.map List.reverse) := ⟨fun q hq => by
    obtain ⟨r, hr, rfl⟩ := List.mem_map.mp hq
    simpa using sM.r r hr, by simpa using sM.l⟩
  unfold thg9 envA
  simp -implicitDefEqProofs [items_land]
  refine ⟨by omega, ?_⟩
  refine wp_lcT (fun _ => true) (fun r => pvRow r.reverse) (fun q hq => ?_) ?_
  · simp -implicitDefEqProofs [revO_row]
  · have e : (M.filter fun _ => true).map (fun r => pvRow r.reverse) = rowsP (M.map List.reverse) := by simp [rowsP]
    rw [e]
    simp -implicitDefEqProofs [items_land, gTuple_rows]
    refine ⟨by omega, ?_⟩
    refine wp_lcT (fun _ => true) (fun r => .lst false (pis r)) (fun q hq => ?_) ?_
    · have g : gList [pvRow q] = some (.lst true (pis q)) := rfl
      simp -implicitDefEqProofs [g]
    · have e2 : (M.filter fun _ => true).map (fun r => PV.lst false (pis r)) = listsP M := by simp [listsP]
      rw [e2]
      have c3 : ts.length + 2 ≤ 16777216 := by omega
      simp -implicitDefEqProofs [gTuple_lst, fzs_lists, hz, c3, frzs_of (fzs_lists (L := M))]
      intro p hp
      rcases hp with hp | rfl | rfl
      · exact ht p hp
      · exact th_land ho h1 h2 s1
      · exact ⟨agree_lists ho h1 h2 hm1 hm, by simp [fzs_lists]⟩
theorem thg_fin {a4 a5 a6 a7 a8 a9 a10 a11 : PV} {x : Sl} {Q : Fl → PEnv → Prop} (q : Q (.rt (.val (.bl true))) (envA h L M s (.val a4) (.val a5) (.val a6) (.val a7) (.val a8) (.val a9) (.val a10) (.val a11) x)) :
    WP thg11 (envA h L M s (.val a4) (.val a5) (.val a6) (.val a7) (.val a8) (.val a9) (.val a10) (.val a11) x) Q := by
  unfold thg11 envA
  unfold envA at q
  simpa using q
theorem sp_things (hL : LandIs L w) (hM : LandIs M w) (hl : M.length = L.length) (hw : 1 ≤ w) (ho : landOk L = true) (h1 : 1 ≤ s) (h2 : s ≤ 1000) (ok : HandOk h) :
    ∃ h', f_ulaw_are_things_right [pvH h, pvLand L, .int s, pvLand M] = some (.bl true, [pvH h', pvLand L, .int s, pvLand M]) ∧ HandOk h' := by
  have key : ∃ r as, f_ulaw_are_things_right [pvH h, pvLand L, .int s, pvLand M] = some (r, as) ∧ ∃ h', r = .bl true ∧ as = [pvH h', pvLand L, .int s, pvLand M] ∧ HandOk h' := by
    refine wp_exit rfl ?_
    rw [thg_eq]
    rw [wp_seq]
    refine wp_mono (thg1_ok (h := h) (M := M) (s := s) hL) ?_
    rintro f e ⟨rfl, rfl⟩
    refine then_nx ?_
    rw [wp_seq]
    refine wp_mono (thg2_ok hL hM hl hw ok) ?_
    rintro f e ⟨rfl, h', N1, ok', n1, n2, rfl⟩
    refine then_nx ?_
    rw [wp_seq]
    refine wp_mono (thg3_ok hL hw) ?_
    rintro f e ⟨rfl, a, b, rfl⟩
    refine then_nx ?_
    rw [wp_seq]
    refine wp_mono (thg4_ok hL) ?_
    rintro f e ⟨rfl, F, hF, rfl⟩
    refine then_nx ?_
    rw [wp_seq]
    refine wp_mono (thg5_ok hL) ?_
    rintro f e ⟨rfl, rfl⟩
    refine then_nx ?_
    rw [wp_seq]
    refine wp_mono (thg6_ok hL hF) ?_
    rintro f e ⟨rfl, N2, n3, n4, rfl⟩
    refine then_nx ?_
    rw [wp_seq]
    refine wp_mono (thg7_ok hL hM ho h1 h2 ⟨n1, n2⟩ ⟨n3, n4⟩) ?_
    rintro f e ⟨rfl, ts, t1, t2, rfl⟩
    refine then_nx ?_
    rw [wp_seq]
    refine wp_mono (thg8_ok hL hM hw ho h1 h2 t1 t2) ?_
    rintro f e ⟨rfl, ts2, t3, t4, rfl⟩
    refine then_nx ?_
    rw [wp_seq]
    refine wp_mono (thg9_ok hM ho h1 h2 t3 t4) ?_
    rintro f e ⟨rfl, ts3, t5, rfl⟩
    refine then_nx ?_
    rw [wp_seq]
    refine wp_mono (thg10_ok t5) ?_
    rintro f e ⟨rfl, a11, x, rfl⟩
    refine then_nx ?_
    refine thg_fin ?_
    unfold envA
    simp
    exact ⟨_, rfl, ok'⟩
  obtain ⟨r, as, e, h', rfl, rfl, ok'⟩ := key
  exact ⟨h', e, ok'⟩
end
end Wk
namespace Wk
open PySem PySem.Spec PyProof.Rows L2 Pv
noncomputable def lnd1 : D Fl := (dset 2 (dlst dnil))
noncomputable def lnd2 : D Fl := (dfor (.nm 3) (ditems (dcallF f_ulaw_spots (dcons (dname 1) dnil))) (dexpr (dmeth gExtend (dname 2) (dcons (dlc (ditems (dcallF f_ulaw_beside (dcons (dname 1) (dcons (dname 3) dnil)))) (.nm 13) [13] (dpure true) (dcall (dfn gAbs) (dcons (dcallF f_ulaw_climb (dcons (dname 1) (dcons (dname 3) (dcons (dname 13) dnil)))) dnil))) dnil))))
noncomputable def lnd3 : D Fl := (dset 4 (dcall (dfn gMax) (dcons (dop (fun a b => dfn gAdd [a, b]) (dname 2) (dlst (dcons (dcon (.int 0)) dnil))) dnil)))
noncomputable def lnd4 : D Fl := (dset 5 (dcall (dfn gMax) (dcons (dcon (.int 1)) (dcons (dcallF f_ulaw_any (dcons (dname 0) (dcons (dlst (dcons (dcon (.int 1)) (dcons (dcon (.int 1)) (dcons (dcon (.int 2)) (dcons (dcon (.int 3)) (dcons (dname 4) (dcons (dop (fun a b => dfn gSub [a, b]) (dname 4) (dcon (.int 1))) dnil))))))) dnil))) dnil))))
noncomputable def lnd5 : D Fl := (dpars [6, 7] (dcons (dcallF f_ulaw_steep (dcons (dname 1) (dcons (dname 5) dnil))) (dcons (dlst (dcons (dcallF f_steep_pairs (dcons (dname 1) (dcons (dname 5) dnil))) (dcons (dcallF f_fall (dcons (dname 1) (dcons (dname 5) dnil))) (dcons (dcallF f_least_steep (dcons (dname 1) dnil)) dnil)))) dnil)))
noncomputable def lnd6 : D Fl := (dite (dtnot (dtst (dcallF f_ulaw_like (dcons (dname 7) (dcons (dlst (dcons (dcall (dfn gTuple) (dcons (dname 6) dnil)) (dcons (dif (dtst (dop (fun a b => dfn gNe [a, b]) (dname 6) (dlst dnil))) (dcallF f_ulaw_behind (dcons (dname 1) (dcons (dop dixE (dname 6) (dcon (.int 0))) dnil))) (dname 1)) (dcons (dname 4) dnil)))) dnil))))) (dret (dcon (.bl false))) dskip)
noncomputable def lnd7 : D Fl := (dset 8 (dcallF f_ulaw_settled (dcons (dname 1) (dcons (dname 5) dnil))))
noncomputable def lnd8 : D Fl := (dite (dtst (dop (fun a b => dfn gIs [a, b]) (dname 8) (dcon .non))) (dret (dcon (.bl true))) dskip)
noncomputable def lnd9 : D Fl := (dasg (.tp [(.nm 9), (.nm 10)]) (dname 8))
noncomputable def lnd10 : D Fl := (dset 11 (dcon (.int 0)))
noncomputable def lnd11 : D Fl := (dfor (.tp [(.nm 12), (.nm 13)]) (dzip (dcons (dname 9) (dcons (dname 1) dnil))) (dset 11 (dop (fun a b => dfn gAdd [a, b]) (dname 11) (dcall (dfn gSum) (dcons (dlc (dzip (dcons (dname 12) (dcons (dname 13) dnil))) (.tp [(.nm 14), (.nm 15)]) [14, 15] (dpure true) (dcall (dfn gAbs) (dcons (dop (fun a b => dfn gSub [a, b]) (dname 14) (dname 15)) dnil))) dnil)))))
noncomputable def lnd12 : D Fl := (dite (dtnot (dtst (dcallF f_ulaw_like (dcons (dlst (dcons (dcallF f_settled (dcons (dname 1) (dcons (dname 5) dnil))) (dcons (dcallF f_falls_many (dcons (dname 1) (dcons (dname 5) dnil))) (dcons (dcallF f_moved_by_falls (dcons (dname 1) (dcons (dname 5) dnil))) dnil)))) (dcons (dlst (dcons (dname 9) (dcons (dname 10) (dcons (dname 11) dnil)))) dnil))))) (dret (dcon (.bl false))) dskip)
noncomputable def lnd13 : D Fl := (dret (dand (dop (fun a b => dfn gEq [a, b]) (dcallF f_ulaw_units (dcons (dname 9) dnil)) (dcallF f_ulaw_units (dcons (dname 1) dnil))) (dcallF f_ulaw_are_things_right (dcons (dname 0) (dcons (dname 1) (dcons (dname 5) (dcons (dname 9) dnil)))))))
theorem lnd_eq : b_ulaw_is_land_right = dseq lnd1 (dseq lnd2 (dseq lnd3 (dseq lnd4 (dseq lnd5 (dseq lnd6 (dseq lnd7 (dseq lnd8 (dseq lnd9 (dseq lnd10 (dseq lnd11 (dseq lnd12 lnd13))))))))))) := rfl
def envB (h : Hand) (L : Land) (a2 a3 a4 a5 a6 a7 a8 a9 a10 a11 a12 a13 : Sl) : PEnv := [.val (pvH h), .val (pvLand L), a2, a3, a4, a5, a6, a7, a8, a9, a10, a11, a12, a13, .un, .un]
def stepsAt (L : Land) (a : Spt) : List Int := (beside L a).map fun b => iabs (ht L b - ht L a)
def stepsTo (L : Land) (l : List Spt) : List Int := (l.map (stepsAt L)).flatten
theorem stepsAt_len {L : Land} {a : Spt} : (stepsAt L a).length ≤ 4 := by
  unfold stepsAt
  rw [List.length_map]
  exact beside_len
theorem maxL_eq {i j : Int} {l m : List Int} (h : ∀ s, (i ≤ s ∧ ∀ x ∈ l, x ≤ s) ↔ (j ≤ s ∧ ∀ x ∈ m, x ≤ s)) : maxL i l = maxL j m := by
  have h1 := maxL_le.mpr ((h (maxL j m)).mpr (maxL_le.mp (Int.le_refl _)))
  have h2 := maxL_le.mpr ((h (maxL i l)).mp (maxL_le.mp (Int.le_refl _)))
  omega
theorem gMax_snoc {o : Bool} {l : List Int} : gMax [.lst o (pis (l ++ [0]))] = some (.int (maxL 0 l)) := by
  cases l with
  | nil => exact gMax_i (is := [])
  | cons a l =>
    have e : pis (a :: l ++ [0]) = PV.int a :: pis (l ++ [0]) := rfl
    rw [e, gMax_i]
    congr 2
    refine maxL_eq fun s => ?_
    simp
    constructor
    · rintro ⟨h1, h2⟩
      exact ⟨h2 0 (.inr rfl), h1, fun x hx => h2 x (.inl hx)⟩
    · rintro ⟨h1, h2, h3⟩
      exact ⟨h2, fun x hx => by rcases hx with h | rfl; exact h3 x h; exact h1⟩
theorem steps_greatest {L : Land} {w : Nat} (h : LandIs L w) : maxL 0 (stepsTo L (spots L)) = greatest L := by
  unfold greatest
  refine maxL_eq fun s => and_congr_right fun hs => ?_
  constructor
  · intro k x hx
    obtain ⟨p, hp, rfl⟩ := List.mem_map.mp hx
    rw [pairs_pf] at hp
    obtain ⟨h1, h2⟩ := mem_pf.mp hp
    obtain ⟨h3, _⟩ := List.mem_filter.mp h2
    have := k (iabs (ht L p.2 - ht L p.1)) (List.mem_flatten.mpr ⟨stepsAt L p.1, List.mem_map.mpr ⟨p.1, h1, rfl⟩, List.mem_map.mpr ⟨p.2, h3, rfl⟩⟩)
    unfold stepB iabs
    unfold iabs at this
    split at this <;> split <;> omega
  · intro k x hx
    obtain ⟨l, hl, hx⟩ := List.mem_flatten.mp hx
    obtain ⟨a, ha, rfl⟩ := List.mem_map.mp hl
    obtain ⟨b, hb, rfl⟩ := List.mem_map.mp hx
    obtain ⟨h5, h6⟩ := mem_beside.mp hb
    by_cases c : ltS a b = true
    · have := k (stepB L (a, b)) (List.mem_map.mpr ⟨(a, b), by rw [pairs_pf]; exact mem_pf.mpr ⟨ha, List.mem_filter.mpr ⟨hb, c⟩⟩, rfl⟩)
      unfold stepB iabs at this
      unfold iabs
      dsimp only at this
      split at this <;> split <;> omega
    · have c2 : ltS b a = true := by
        unfold ltS at c ⊢
        unfold adj at h6
        simp at c ⊢
        omega
      have := k (stepB L (b, a)) (List.mem_map.mpr ⟨(b, a), by rw [pairs_pf]; exact mem_pf.mpr ⟨mem_spots.mpr h5, List.mem_filter.mpr ⟨mem_beside.mpr ⟨mem_spots.mp ha, adj_symm h6⟩, c2⟩⟩, rfl⟩)
      unfold stepB iabs at this
      unfold iabs
      dsimp only at this
      split at this <;> split <;> omega
theorem greatest_le {L : Land} {w : Nat} {m : Int} (h : LandIs L w) (h0 : 0 ≤ m) (hm : inR m L) : 0 ≤ greatest L ∧ greatest L ≤ m := by
  constructor
  · exact (maxL_le.mp (Int.le_refl (greatest L))).1
  · unfold greatest
    rw [maxL_le]
    refine ⟨h0, fun x hx => ?_⟩
    obtain ⟨p, hp, rfl⟩ := List.mem_map.mp hx
    obtain ⟨h1, h2⟩ := pairs_in h hp
    have := ht_in hm h1
    have := ht_in hm h2
    unfold stepB iabs
    split <;> omega
section
variable {L M : Land} {w : Nat} {s : Int} {h : Hand}
theorem lnd1_ok : WP lnd1 (envB h L .un .un .un .un .un .un .un .un .un .un .un .un) fun f e => f = .nx ∧ e = envB h L (.val (.lst true (pis []))) .un .un .un .un .un .un .un .un .un .un .un := by
  unfold lnd1 envB
  simp -implicitDefEqProofs
  rfl
theorem lnd2_turn {l : List Int} {a : Spt} {x : Sl} {Q : Fl → PEnv → Prop} (hL : LandIs L w) (ha : InL L a) (hl : l.length ≤ 1000) (hx : Plain x)
    (q : Q .nx (envB h L (.val (.lst true (pis (l ++ stepsAt L a)))) (.val (pvS a)) .un .un .un .un .un .un .un .un .un .un)) :
    gate (setT (.nm 3) (pvS a) (envB h L (.val (.lst true (pis l))) x .un .un .un .un .un .un .un .un .un .un)) fun e1 => WP (dexpr (dmeth gExtend (dname 2) (dcons (dlc (ditems (dcallF f_ulaw_beside (dcons (dname 1) (dcons (dname 3) dnil)))) (.nm 13) [13] (dpure true) (dcall (dfn gAbs) (dcons (dcallF f_ulaw_climb (dcons (dname 1) (dcons (dname 3) (dcons (dname 13) dnil)))) dnil))) dnil))) e1 Q := by
  have hb := sp_lbeside (s := a) hL.h1
  have h4 := beside_len (L := L) (s := a)
  have h5 := stepsAt_len (L := L) (a := a)
  unfold envB at q ⊢
  simp -implicitDefEqProofs [hb]
  refine ⟨by omega, ?_⟩
  refine wp_lcT (fun _ => true) (fun b => .int (iabs (ht L b - ht L a))) (fun b hb => ?_) ?_
  · have hin := inB_in hL.row hL.wd (mem_beside.mp hb).1
    simp -implicitDefEqProofs [sp_climb ha hin, iabs]
  · have e : ((beside L a).filter fun _ => true).map (fun b => PV.int (iabs (ht L b - ht L a))) = pis (stepsAt L a) := by simp [pis, stepsAt]
    rw [e]
    have h6 : l.length + (stepsAt L a).length < 1000000 := by omega
    simp -implicitDefEqProofs [h6]
    exact q
theorem lnd2_ok (hL : LandIs L w) (hw : 1 ≤ w) : WP lnd2 (envB h L (.val (.lst true (pis []))) .un .un .un .un .un .un .un .un .un .un .un) fun f e => f = .nx ∧ ∃ x, e = envB h L (.val (.lst true (pis (stepsTo L (spots L))))) (.val x) .un .un .un .un .un .un .un .un .un .un := by
  have hs := spots_len hL
  have a1 := sp_lspots (L := L) (by have := hL.h1; omega) (by have := hL.h2; omega) (by have := hL.wd; have := hL.w2; omega)
  have hb : ∀ (l : List Spt) (acc : List Int) (x : Sl), Plain x → (∀ a ∈ l, InL L a) → acc.length + 4 * l.length ≤ 1000 → (l = [] → ∃ v, x = .val v) → WP (forP (setT (.nm 3)) (dexpr (dmeth gExtend (dname 2) (dcons (dlc (ditems (dcallF f_ulaw_beside (dcons (dname 1) (dcons (dname 3) dnil)))) (.nm 13) [13] (dpure true) (dcall (dfn gAbs) (dcons (dcallF f_ulaw_climb (dcons (dname 1) (dcons (dname 3) (dcons (dname 13) dnil)))) dnil))) dnil))) (sps l)) (envB h L (.val (.lst true (pis acc))) x .un .un .un .un .un .un .un .un .un .un) fun f e => f = .nx ∧ ∃ x, e = envB h L (.val (.lst true (pis (acc ++ stepsTo L l)))) (.val x) .un .un .un .un .un .un .un .un .un .un := by
    intro l
    induction l with
    | nil =>
      intro acc x hx _ _ hv
      obtain ⟨v, rfl⟩ := hv rfl
      show WP (forP _ _ []) _ _
      rw [wp_forP_nil]
      exact ⟨rfl, v, by simp [stepsTo]⟩
    | cons a l ih =>
      intro acc x hx hin hlen _
      show WP (forP _ _ (pvS a :: sps l)) _ _
      rw [wp_forP_cons]
      have h5 := stepsAt_len (L := L) (a := a)
      rw [List.length_cons] at hlen
      refine lnd2_turn hL (hin a (by simp)) (by omega) hx ?_
      have := ih (acc ++ stepsAt L a) (.val (pvS a)) plain_val (fun b hb => hin b (by simp [hb])) (by rw [List.length_append]; omega) fun _ => ⟨_, rfl⟩
      have e : acc ++ stepsAt L a ++ stepsTo L l = acc ++ stepsTo L (a :: l) := by simp [stepsTo]
      rw [e] at this
      exact this
  have hne : spots L ≠ [] := fun e => by
    have := spots_pos hL hw
    rw [e] at this
    exact absurd this (by decide)
  have hb2 := hb (spots L) [] .un plain_un (fun a ha => (spots_in hL.row hL.wd ha).1) (by simp; omega) (fun e => absurd e hne)
  unfold lnd2 envB
  rw [wp_for]
  simp -implicitDefEqProofs [a1]
  unfold envB at hb2
  simpa using hb2
end
end Wk
namespace Wk
open PySem PySem.Spec PyProof.Rows L2 Pv
theorem gNe_prs_nil {o o' : Bool} {l : List Pr} : gNe [.lst o (prs l), .lst o' []] = some (.bl (!decide (l = []))) := by
  have h := gEq_prs_nil (o := o) (o' := o') (l := l)
  show ((peq (.lst o (prs l)) (.lst o' [])).map fun b => PV.bl (!b)) = _
  have h' : ((peq (.lst o (prs l)) (.lst o' [])).map PV.bl) = some (.bl (decide (l = []))) := h
  cases e : peq (.lst o (prs l)) (.lst o' []) with
  | none => rw [e] at h'; cases h'
  | some b =>
    rw [e] at h'
    have : b = decide (l = []) := by simpa using h'
    rw [this]
    rfl
theorem tidy_S {L : Land} {a : Spt} {w : Nat} (hL : LandIs L w) (h : InL L a) : Tidy (dS a) 33 1 := by
  obtain ⟨a1, a2, a3, a4⟩ := h
  have := hL.h2
  have := hL.row _ (rowAt_mem a1 a2)
  have := hL.w2
  exact Tidy.tuple (TidyAll.cons (Tidy.int (by omega) (by omega)) (TidyAll.cons (Tidy.int (by omega) (by omega)) .nil))
theorem tidy_P {L : Land} {p : Pr} {w : Nat} (hL : LandIs L w) (h1 : InL L p.1) (h2 : InL L p.2) : Tidy (dP p) 73 2 :=
  Tidy.tuple (TidyAll.cons (tidy_S hL h1) (TidyAll.cons (tidy_S hL h2) .nil))
theorem tidy_land {L : Land} {w : Nat} {m : Int} (hL : LandIs L w) (hm : inR m L) (h : m ≤ 1000000) : Tidy (dLand L) 1100 2 := by
  have h1 := hL.h2
  have : Tidy (dLand L) (8 * ((8 * (13 + 2) + 3) + 2) + 3) 2 := by
    refine Tidy.tuple (TidyAll.mapN (fun r hr => ?_) h1)
    refine Tidy.tuple (TidyAll.mapN (fun x hx => ?_) (by rw [hL.row r hr]; exact hL.w2))
    have := hm r hr x hx
    exact Tidy.int (by omega) (by omega)
  exact this.le (by omega) (by omega)
theorem pd_prsT {l : List Pr} : pd (.tup (prs l)) = some (.tuple (l.map dP)) := by
  rw [pd, pds_P]
theorem steep_len {L : Land} {w : Nat} {s : Int} (hL : LandIs L w) : (steep L s).length ≤ 256 := by
  have hn := spots_len hL
  refine Nat.le_trans (flat_len (k := 4) (fun a => ?_) _) (by omega)
  rw [List.length_map]
  exact Nat.le_trans (List.length_filter_le _ _) beside_len
section
variable {L M : Land} {w : Nat} {s : Int} {h : Hand}
theorem lnd3_ok {x : PV} (hL : LandIs L w) : WP lnd3 (envB h L (.val (.lst true (pis (stepsTo L (spots L))))) (.val x) .un .un .un .un .un .un .un .un .un .un) fun f e => f = .nx ∧ e = envB h L (.val (.lst true (pis (stepsTo L (spots L))))) (.val x) (.val (.int (greatest L))) .un .un .un .un .un .un .un .un .un := by
  have hs := spots_len hL
  have hl : (stepsTo L (spots L)).length ≤ 256 := Nat.le_trans (flat_len (fun a => stepsAt_len) _) (by omega)
  have c : (stepsTo L (spots L)).length + 1 ≤ 16777216 := by omega
  have g : ∀ o, gMax [.lst o (pis (stepsTo L (spots L) ++ [0]))] = some (.int (greatest L)) := fun o => by rw [gMax_snoc, steps_greatest hL]
  unfold lnd3 envB
  simp -implicitDefEqProofs [c, g]
theorem lnd4_ok {x : PV} {l : List Int} {g : Int} (ok : HandOk h) (g0 : 0 ≤ g) (g1 : g ≤ 1000) : WP lnd4 (envB h L (.val (.lst true (pis l))) (.val x) (.val (.int g)) .un .un .un .un .un .un .un .un .un) fun f e => f = .nx ∧ ∃ h' s, HandOk h' ∧ 1 ≤ s ∧ s ≤ 1000 ∧ e = envB h' L (.val (.lst true (pis l))) (.val x) (.val (.int g)) (.val (.int s)) .un .un .un .un .un .un .un .un := by
  obtain ⟨y, h', m, e, ok'⟩ := any (o := true) (xs := [.int 1, .int 1, .int 2, .int 3, .int g, .int (g - 1)]) ok (by simp) (by simp) (by simp)
  have hy : ∃ k, y = .int k ∧ k ≤ 1000 := by
    simp only [List.mem_cons, List.not_mem_nil, or_false] at m
    rcases m with rfl | rfl | rfl | rfl | rfl | rfl
    · exact ⟨1, rfl, by omega⟩
    · exact ⟨1, rfl, by omega⟩
    · exact ⟨2, rfl, by omega⟩
    · exact ⟨3, rfl, by omega⟩
    · exact ⟨g, rfl, by omega⟩
    · exact ⟨g - 1, rfl, by omega⟩
  obtain ⟨k, rfl, hk⟩ := hy
  unfold lnd4 envB
  simp -implicitDefEqProofs [e]
  refine ⟨h', ok', (if k > 1 then k else 1), ?_, ?_, rfl, rfl⟩
  · split <;> omega
  · split <;> omega
theorem lnd5_ok {a2 a3 : PV} {g : Int} (hL : LandIs L w) (ho : landOk L = true) (h1 : 1 ≤ s) (h2 : s ≤ 1000) : WP lnd5 (envB h L (.val a2) (.val a3) (.val (.int g)) (.val (.int s)) .un .un .un .un .un .un .un .un) fun f e => f = .nx ∧ e = envB h L (.val a2) (.val a3) (.val (.int g)) (.val (.int s)) (.val (.lst true (prs (steep L s)))) (.val (.lst true [.tup (prs (steep L s)), pvLand (fallL L s), .int (greatest L)])) .un .un .un .un .un .un := by
  unfold lnd5 envB
  simp -implicitDefEqProofs [sp_lsteep hL, sp_steep_pairs hL ho h1 h2, sp_fall hL ho h1 h2, sp_least_steep hL ho]
def told1 (L : Land) (s : Int) : List PV := [.tup (prs (steep L s)), pvLand (fallL L s), .int (greatest L)]
theorem fz_told1 : PV.fzs (told1 L s) = true := by simp [told1]
theorem like1 {m : Int} (hL : LandIs L w) (hs : 0 ≤ s) (hm : inR m L) (h0 : 0 ≤ m) (h : m ≤ 1000000) : f_ulaw_like [.lst true (told1 L s), .lst true (told1 L s)] = some (.bl true, [.lst true (told1 L s), .lst true (told1 L s)]) := by
  have hd : pd (.lst true (told1 L s)) = some (.list [.tuple ((steep L s).map dP), dLand (fallL L s), .int (greatest L)]) := by
    unfold told1
    simp [pd, pds, pd_prsT, pd_land]
    rw [pds_P]
  have hg := greatest_le hL h0 hm
  have t1 : Tidy (.tuple ((steep L s).map dP)) (256 * (73 + 2) + 3) 3 := Tidy.tuple (TidyAll.mapN (fun p hp => by
    obtain ⟨h1, h2, _⟩ := steep_in hL hp
    exact tidy_P hL h1 h2) (steep_len hL))
  have t2 := (tidy_land (fall_is (s := s) hL).1 (inR_fall hL hs hm) h).le (Nat.le_refl _) (show 2 ≤ 3 by omega)
  have t3 : Tidy (.int (greatest L)) 13 3 := (Tidy.int (by omega) (by omega)).le (Nat.le_refl _) (by omega)
  have t := Tidy.list (TidyAll.cons t1 (TidyAll.cons t2 (TidyAll.cons t3 .nil)))
  obtain ⟨k1, k2⟩ := t.small (by omega) (by omega)
  exact sp_like hd hd k1 k2
theorem lnd6_ok {a2 a3 : PV} {m : Int} (hL : LandIs L w) (hs : 0 ≤ s) (hm : inR m L) (h0 : 0 ≤ m) (hm2 : m ≤ 1000000) : WP lnd6 (envB h L (.val a2) (.val a3) (.val (.int (greatest L))) (.val (.int s)) (.val (.lst true (prs (steep L s)))) (.val (.lst true (told1 L s))) .un .un .un .un .un .un) fun f e => f = .nx ∧ e = envB h L (.val a2) (.val a3) (.val (.int (greatest L))) (.val (.int s)) (.val (.lst true (prs (steep L s)))) (.val (.lst true (told1 L s))) .un .un .un .un .un .un := by
  have hl := like1 hL hs hm h0 hm2
  have hn : (PV.lst true (told1 L s)).fz = false := by simp
  have e1 : gTuple [.lst true (prs (steep L s))] = some (.tup (prs (steep L s))) := by rw [gTuple_lst, if_pos fzs_P]
  have ht : told1 L s = [.tup (prs (steep L s)), pvLand (fallL L s), .int (greatest L)] := rfl
  have hfl : flatP (.lst true (told1 L s)) = true := by simp [fz_told1]
  generalize told1 L s = t at *
  unfold lnd6 envB
  simp -implicitDefEqProofs [e1, gNe_prs_nil]
  cases e : steep L s with
  | nil =>
    have ef : fallL L s = L := by unfold fallL; rw [e]
    rw [e, ef] at ht
    simp -implicitDefEqProofs
    rw [← ht]
    simp -implicitDefEqProofs [hl, hfl]
  | cons p l =>
    obtain ⟨h1, h2, _⟩ := steep_in hL (show p ∈ steep L s by rw [e]; simp)
    have ef : fallL L s = moved L p := by unfold fallL; rw [e]
    rw [e, ef] at ht
    simp -implicitDefEqProofs [ixV_prs, sp_lbehind hL h1 h2]
    rw [← ht]
    simp -implicitDefEqProofs [hl, hfl]
end
end Wk
namespace Wk
open PySem PySem.Spec PyProof.Rows L2 Pv
def rsum (r q : List Int) : Int := ((r.zip q).map fun p => iabs (p.1 - p.2)).sum
def msum (M L : Land) : Int := ((M.zip L).map fun p => rsum p.1 p.2).sum
theorem iabs_comm {a b : Int} : iabs (a - b) = iabs (b - a) := by
  unfold iabs
  split <;> split <;> omega
theorem rsum_app {a b c d : List Int} (h : a.length = c.length) : rsum (a ++ b) (c ++ d) = rsum a c + rsum b d := by
  unfold rsum
  rw [List.zip_append h, List.map_append, List.sum_append]
theorem rsum_flat {w : Nat} : ∀ {M L : Land}, (∀ r ∈ M, r.length = w) → (∀ r ∈ L, r.length = w) → M.length = L.length → rsum M.flatten L.flatten = msum M L
  | [], [], _, _, _ => by simp [rsum, msum]
  | [], _ :: _, _, _, h => by simp at h
  | _ :: _, [], _, _, h => by simp at h
  | r :: M, q :: L, h1, h2, h => by
    rw [List.flatten_cons, List.flatten_cons, rsum_app (by rw [h1 r (by simp), h2 q (by simp)]), rsum_flat (fun x hx => h1 x (by simp [hx])) (fun x hx => h2 x (by simp [hx])) (by simpa using h)]
    unfold msum
    simp
theorem rsum_comm : ∀ {a b : List Int}, rsum a b = rsum b a
  | [], b => by cases b <;> simp [rsum]
  | _ :: _, [] => by simp [rsum]
  | x :: a, y :: b => by
    have := rsum_comm (a := a) (b := b)
    unfold rsum at *
    simp [this, iabs_comm (a := x) (b := y)]
theorem movedSum_eq {L M : Land} {w : Nat} (hL : LandIs L w) (hM : LandIs M w) (hl : M.length = L.length) : movedSum L M = msum M L := by
  have e : movedSum L M = rsum (hts L) (hts M) := rfl
  rw [e, rsum_comm]
  exact rsum_flat hM.row hL.row hl
theorem rsum_le {m : Int} : ∀ {a b : List Int}, (∀ x ∈ a, 0 ≤ x ∧ x ≤ m) → (∀ x ∈ b, 0 ≤ x ∧ x ≤ m) → 0 ≤ rsum a b ∧ rsum a b ≤ m * a.length
  | [], b, _, _ => by simp [rsum]
  | x :: a, [], h, _ => by
    have h0 := h x (by simp)
    have : 0 ≤ m * ((a.length + 1 : Nat) : Int) := Int.mul_nonneg (by omega) (by omega)
    simp [rsum]
    simpa using this
  | x :: a, y :: b, h1, h2 => by
    have ih := rsum_le (a := a) (b := b) (m := m) (fun z hz => h1 z (by simp [hz])) (fun z hz => h2 z (by simp [hz]))
    have g1 := h1 x (by simp)
    have g2 := h2 y (by simp)
    have e : rsum (x :: a) (y :: b) = iabs (x - y) + rsum a b := by simp [rsum]
    have e2 : m * (((x :: a).length : Nat) : Int) = m * (a.length : Int) + m := by
      rw [List.length_cons]
      rw [show ((a.length + 1 : Nat) : Int) = (a.length : Int) + 1 by omega, Int.mul_add, Int.mul_one]
    rw [e, e2]
    unfold iabs
    split <;> omega
section
variable {L M : Land} {w : Nat} {s : Int} {h : Hand}
theorem lnd11_turn {a2 a3 a4 a5 a6 a7 a8 a9 a10 : PV} {x y : Sl} {r q : List Int} {v : Int} {Q : Fl → PEnv → Prop} (hr : r.length ≤ 1000) (hx : Plain x) (hy : Plain y)
    (k : Q .nx (envB h L (.val a2) (.val a3) (.val a4) (.val a5) (.val a6) (.val a7) (.val a8) (.val a9) (.val a10) (.val (.int (v + rsum r q))) (.val (pvRow r)) (.val (pvRow q)))) :
    gate (setT (.tp [(.nm 12), (.nm 13)]) (.tup [pvRow r, pvRow q]) (envB h L (.val a2) (.val a3) (.val a4) (.val a5) (.val a6) (.val a7) (.val a8) (.val a9) (.val a10) (.val (.int v)) x y)) fun e1 => WP (dset 11 (dop (fun a b => dfn gAdd [a, b]) (dname 11) (dcall (dfn gSum) (dcons (dlc (dzip (dcons (dname 12) (dcons (dname 13) dnil))) (.tp [(.nm 14), (.nm 15)]) [14, 15] (dpure true) (dcall (dfn gAbs) (dcons (dop (fun a b => dfn gSub [a, b]) (dname 14) (dname 15)) dnil))) dnil)))) e1 Q := by
  have ez : zipO [pvRow r, pvRow q] = some ((r.zip q).map fun p => PV.tup [.int p.1, .int p.2]) := by
    unfold pvRow
    rw [zipO_tup, zip_pis]
  unfold envB at k ⊢
  simp -implicitDefEqProofs [hx.r 12, hy.r 12, hy.r 13, ez]
  refine ⟨by omega, ?_⟩
  refine wp_lcT (fun _ => true) (fun p => .int (iabs (p.1 - p.2))) (fun p hp => ?_) ?_
  · simp -implicitDefEqProofs [iabs]
  · have e : ((r.zip q).filter fun _ => true).map (fun p => PV.int (iabs (p.1 - p.2))) = pis ((r.zip q).map fun p => iabs (p.1 - p.2)) := by simp [pis]
    rw [e]
    simp -implicitDefEqProofs
    exact k
theorem zip_rows {A B : Land} : ((rowsP A).zip (rowsP B)).map (fun p => PV.tup [p.1, p.2]) = (A.zip B).map fun p => PV.tup [pvRow p.1, pvRow p.2] := by
  unfold rowsP
  rw [List.zip_map, List.map_map]
  rfl
theorem lnd11_ok {a2 a3 a4 a5 a6 a7 a8 a10 : PV} (hM : LandIs M w) :
    WP lnd11 (envB h L (.val a2) (.val a3) (.val a4) (.val a5) (.val a6) (.val a7) (.val a8) (.val (pvLand M)) (.val a10) (.val (.int 0)) .un .un) fun f e => f = .nx ∧ ∃ x y, e = envB h L (.val a2) (.val a3) (.val a4) (.val a5) (.val a6) (.val a7) (.val a8) (.val (pvLand M)) (.val a10) (.val (.int (msum M L))) x y := by
  have hb : ∀ (l : List (List Int × List Int)) (v : Int) (x y : Sl), Plain x → Plain y → (∀ p ∈ l, p.1.length ≤ 1000) → WP (forP (setT (.tp [(.nm 12), (.nm 13)])) (dset 11 (dop (fun a b => dfn gAdd [a, b]) (dname 11) (dcall (dfn gSum) (dcons (dlc (dzip (dcons (dname 12) (dcons (dname 13) dnil))) (.tp [(.nm 14), (.nm 15)]) [14, 15] (dpure true) (dcall (dfn gAbs) (dcons (dop (fun a b => dfn gSub [a, b]) (dname 14) (dname 15)) dnil))) dnil)))) (l.map fun p => PV.tup [pvRow p.1, pvRow p.2])) (envB h L (.val a2) (.val a3) (.val a4) (.val a5) (.val a6) (.val a7) (.val a8) (.val (pvLand M)) (.val a10) (.val (.int v)) x y) fun f e => f = .nx ∧ ∃ x y, e = envB h L (.val a2) (.val a3) (.val a4) (.val a5) (.val a6) (.val a7) (.val a8) (.val (pvLand M)) (.val a10) (.val (.int (v + (l.map fun p => rsum p.1 p.2).sum))) x y := by
    intro l
    induction l with
    | nil =>
      intro v x y _ _ _
      rw [List.map_nil, wp_forP_nil]
      exact ⟨rfl, x, y, by simp⟩
    | cons p l ih =>
      intro v x y hx hy hp
      rw [List.map_cons, wp_forP_cons]
      refine lnd11_turn (hp p (by simp)) hx hy ?_
      have := ih (v + rsum p.1 p.2) (.val (pvRow p.1)) (.val (pvRow p.2)) plain_val plain_val fun q hq => hp q (by simp [hq])
      rw [Int.add_assoc] at this
      rw [List.map_cons, List.sum_cons]
      exact this
  have h2 := hb (M.zip L) 0 .un .un plain_un plain_un fun p hp => by
    have h1 := hM.row p.1 (List.of_mem_zip hp).1
    have := hM.w2
    omega
  have ez : zipO [pvLand M, pvLand L] = some ((M.zip L).map fun p => PV.tup [pvRow p.1, pvRow p.2]) := by
    unfold pvLand
    rw [zipO_tup, zip_rows]
  rw [Int.zero_add] at h2
  unfold lnd11 envB
  rw [wp_for]
  simp -implicitDefEqProofs [ez]
  unfold envB at h2
  exact h2
end
end Wk
namespace Wk
open PySem PySem.Spec PyProof.Rows L2 Pv
section
variable {L M : Land} {w k : Nat} {s : Int} {h : Hand}
theorem lnd12_ok {a2 a3 a4 a6 a7 a8 : PV} {x y : Sl} {m : Int} (hL : LandIs L w) (ho : landOk L = true) (h1 : 1 ≤ s) (h2 : s ≤ 1000) (he : Ends L s k) (hk : k ≤ 800) (hm : inR m L) (h0 : 0 ≤ m) (hm2 : m ≤ 1000) :
    WP lnd12 (envB h L (.val a2) (.val a3) (.val a4) (.val (.int s)) (.val a6) (.val a7) (.val a8) (.val (pvLand (itF s L k))) (.val (.int k)) (.val (.int (msum (itF s L k) L))) x y) fun f e => f = .nx ∧ e = envB h L (.val a2) (.val a3) (.val a4) (.val (.int s)) (.val a6) (.val a7) (.val a8) (.val (pvLand (itF s L k))) (.val (.int k)) (.val (.int (msum (itF s L k) L))) x y := by
  obtain ⟨hM, hl⟩ := itF_is (s := s) hL k
  have hmM := inR_it hL (show 0 ≤ s by omega) hm k
  have e1 := sp_settled hL ho h1 h2 he (by omega)
  have e2 := sp_falls_many hL ho h1 h2 he (by omega)
  have e3 := sp_moved_by hL ho h1 h2 he (by omega)
  rw [movedSum_eq hL hM hl] at e3
  have hb : 0 ≤ msum (itF s L k) L ∧ msum (itF s L k) L ≤ 1000000 := by
    rw [← rsum_flat hM.row hL.row hl]
    have g := rsum_le (m := m) (a := (itF s L k).flatten) (b := L.flatten) (fun x hx => by
      obtain ⟨r, hr, hx⟩ := List.mem_flatten.mp hx
      exact hmM r hr x hx) (fun x hx => by
      obtain ⟨r, hr, hx⟩ := List.mem_flatten.mp hx
      exact hm r hr x hx)
    have g2 : (itF s L k).flatten.length ≤ 64 := hts_len hM
    have g3 : m * (((itF s L k).flatten.length : Nat) : Int) ≤ 1000 * 64 := Int.mul_le_mul hm2 (by omega) (by omega) (by omega)
    omega
  have hlike : f_ulaw_like [.lst true [pvLand (itF s L k), .int k, .int (msum (itF s L k) L)], .lst true [pvLand (itF s L k), .int k, .int (msum (itF s L k) L)]] = some (.bl true, [.lst true [pvLand (itF s L k), .int k, .int (msum (itF s L k) L)], .lst true [pvLand (itF s L k), .int k, .int (msum (itF s L k) L)]]) := by
    have hd : pd (.lst true [pvLand (itF s L k), .int k, .int (msum (itF s L k) L)]) = some (.list [dLand (itF s L k), .int k, .int (msum (itF s L k) L)]) := by
      simp [pd, pds, pd_land]
    have t1 := tidy_land hM hmM (by omega)
    have t2 : Tidy (.int (k : Int)) 13 2 := (Tidy.int (by omega) (by omega)).le (Nat.le_refl _) (by omega)
    have t3 : Tidy (.int (msum (itF s L k) L)) 13 2 := (Tidy.int (by omega) (by omega)).le (Nat.le_refl _) (by omega)
    obtain ⟨k1, k2⟩ := (Tidy.list (TidyAll.cons t1 (TidyAll.cons t2 (TidyAll.cons t3 .nil)))).small (by omega) (by omega)
    exact sp_like hd hd k1 k2
  unfold lnd12 envB
  simp -implicitDefEqProofs [e1, e2, e3, hlike]
theorem lnd13_ok {a2 a3 a4 a6 a7 a8 a10 a11 : PV} {x y : Sl} (hL : LandIs L w) (hM : LandIs M w) (hl : M.length = L.length) (hw : 1 ≤ w) (hu : units M = units L) (ho : landOk L = true) (h1 : 1 ≤ s) (h2 : s ≤ 1000) (ok : HandOk h) :
    WP lnd13 (envB h L (.val a2) (.val a3) (.val a4) (.val (.int s)) (.val a6) (.val a7) (.val a8) (.val (pvLand M)) (.val a10) (.val a11) x y) fun f e => f = .rt (.val (.bl true)) ∧ ∃ h' x y, HandOk h' ∧ e = envB h' L (.val a2) (.val a3) (.val a4) (.val (.int s)) (.val a6) (.val a7) (.val a8) (.val (pvLand M)) (.val a10) (.val a11) x y := by
  obtain ⟨h', e, ok'⟩ := sp_things hL hM hl hw ho h1 h2 ok
  have u1 := sp_lunits (L := L) (by have := hL.h2; omega)
  have u2 := sp_lunits (L := M) (by have := hM.h2; omega)
  unfold lnd13 envB
  simp -implicitDefEqProofs [u1, u2, hu, e]
  exact ⟨h', ok', rfl⟩
end
end Wk
namespace Wk
open PySem PySem.Spec PyProof.Rows L2 Pv
theorem then_rt {K : PEnv → (Fl → PEnv → Prop) → Prop} {Q : Fl → PEnv → Prop} {e : PEnv} {r : Sl} (h : Q (.rt r) e) : thenF (.rt r) K Q e := h
section
variable {L M : Land} {w k : Nat} {s : Int} {h : Hand}
theorem lnd7_ok {a2 a3 a4 a6 a7 : PV} (hL : LandIs L w) : WP lnd7 (envB h L (.val a2) (.val a3) (.val a4) (.val (.int s)) (.val a6) (.val a7) .un .un .un .un .un .un) fun f e => f = .nx ∧ ∃ r, ((∃ k, k ≤ 800 ∧ Ends L s k ∧ r = .tup [pvLand (itF s L k), .int k]) ∨ r = .non) ∧ e = envB h L (.val a2) (.val a3) (.val a4) (.val (.int s)) (.val a6) (.val a7) (.val r) .un .un .un .un .un := by
  obtain ⟨r, as, e, hr, rfl⟩ := sp_lsettled (s := s) hL
  unfold lnd7 envB
  simp -implicitDefEqProofs [e]
  exact hr
theorem lnd8_non {a2 a3 a4 a6 a7 : PV} {Q : Fl → PEnv → Prop} (q : Q (.rt (.val (.bl true))) (envB h L (.val a2) (.val a3) (.val a4) (.val (.int s)) (.val a6) (.val a7) (.val .non) .un .un .un .un .un)) :
    WP lnd8 (envB h L (.val a2) (.val a3) (.val a4) (.val (.int s)) (.val a6) (.val a7) (.val .non) .un .un .un .un .un) Q := by
  unfold lnd8 envB
  unfold envB at q
  simpa -implicitDefEqProofs using q
theorem lnd8_tup {a2 a3 a4 a6 a7 : PV} {xs : List PV} {Q : Fl → PEnv → Prop} (hz : PV.fzs xs = true) (q : Q .nx (envB h L (.val a2) (.val a3) (.val a4) (.val (.int s)) (.val a6) (.val a7) (.val (.tup xs)) .un .un .un .un .un)) :
    WP lnd8 (envB h L (.val a2) (.val a3) (.val a4) (.val (.int s)) (.val a6) (.val a7) (.val (.tup xs)) .un .un .un .un .un) Q := by
  unfold lnd8 envB
  unfold envB at q
  simpa -implicitDefEqProofs [hz] using q
theorem lnd9_ok {a2 a3 a4 a6 a7 : PV} {N : Land} {k : Int} {Q : Fl → PEnv → Prop} (q : Q .nx (envB h L (.val a2) (.val a3) (.val a4) (.val (.int s)) (.val a6) (.val a7) (.val (.tup [pvLand N, .int k])) (.val (pvLand N)) (.val (.int k)) .un .un .un)) :
    WP lnd9 (envB h L (.val a2) (.val a3) (.val a4) (.val (.int s)) (.val a6) (.val a7) (.val (.tup [pvLand N, .int k])) .un .un .un .un .un) Q := by
  unfold lnd9 envB
  unfold envB at q
  simpa -implicitDefEqProofs using q
theorem lnd10_ok {a2 a3 a4 a6 a7 a8 a9 a10 : PV} {Q : Fl → PEnv → Prop} (q : Q .nx (envB h L (.val a2) (.val a3) (.val a4) (.val (.int s)) (.val a6) (.val a7) (.val a8) (.val a9) (.val a10) (.val (.int 0)) .un .un)) :
    WP lnd10 (envB h L (.val a2) (.val a3) (.val a4) (.val (.int s)) (.val a6) (.val a7) (.val a8) (.val a9) (.val a10) .un .un .un) Q := by
  unfold lnd10 envB
  unfold envB at q
  simpa -implicitDefEqProofs using q
theorem sp_right (hL : LandIs L w) (hw : 1 ≤ w) (hm : inR 92 L) (ok : HandOk h) : ∃ h', f_ulaw_is_land_right [pvH h, pvLand L] = some (.bl true, [pvH h', pvLand L]) ∧ HandOk h' := by
  have ho := landOk_of hL hw hm (by omega)
  have hg := greatest_le hL (by omega) hm
  have key : ∃ r as, f_ulaw_is_land_right [pvH h, pvLand L] = some (r, as) ∧ ∃ h', r = .bl true ∧ as = [pvH h', pvLand L] ∧ HandOk h' := by
    refine wp_exit rfl ?_
    rw [lnd_eq]
    rw [wp_seq]
    refine wp_mono (lnd1_ok (h := h) (L := L)) ?_
    rintro f e ⟨rfl, rfl⟩
    refine then_nx ?_
    rw [wp_seq]
    refine wp_mono (lnd2_ok hL hw) ?_
    rintro f e ⟨rfl, x, rfl⟩
    refine then_nx ?_
    rw [wp_seq]
    refine wp_mono (lnd3_ok hL) ?_
    rintro f e ⟨rfl, rfl⟩
    refine then_nx ?_
    rw [wp_seq]
    refine wp_mono (lnd4_ok ok hg.1 (by omega)) ?_
    rintro f e ⟨rfl, h', s, ok', s1, s2, rfl⟩
    refine then_nx ?_
    rw [wp_seq]
    refine wp_mono (lnd5_ok hL ho s1 s2) ?_
    rintro f e ⟨rfl, rfl⟩
    refine then_nx ?_
    rw [wp_seq]
    refine wp_mono (lnd6_ok (m := 92) hL (by omega) hm (by omega) (by omega)) ?_
    rintro f e ⟨rfl, rfl⟩
    refine then_nx ?_
    rw [wp_seq]
    refine wp_mono (lnd7_ok hL) ?_
    rintro f e ⟨rfl, r, hr, rfl⟩
    refine then_nx ?_
    rw [wp_seq]
    rcases hr with ⟨k, hk, he, rfl⟩ | rfl
    · obtain ⟨hM, hl⟩ := itF_is (s := s) hL k
      refine lnd8_tup (by simp) ?_
      refine then_nx ?_
      rw [wp_seq]
      refine lnd9_ok ?_
      refine then_nx ?_
      rw [wp_seq]
      refine lnd10_ok ?_
      refine then_nx ?_
      rw [wp_seq]
      refine wp_mono (lnd11_ok hM) ?_
      rintro f e ⟨rfl, x2, y2, rfl⟩
      refine then_nx ?_
      rw [wp_seq]
      refine wp_mono (lnd12_ok (m := 92) hL ho s1 s2 he hk hm (by omega) (by omega)) ?_
      rintro f e ⟨rfl, rfl⟩
      refine then_nx ?_
      refine wp_mono (lnd13_ok hL hM hl hw (units_it hL k) ho s1 s2 ok') ?_
      rintro f e ⟨rfl, h3, x3, y3, ok3, rfl⟩
      unfold envB
      simp
      exact ⟨h3, rfl, ok3⟩
    · refine lnd8_non ?_
      refine then_rt ?_
      unfold envB
      simp
      exact ⟨h', rfl, ok'⟩
  obtain ⟨r, as, e, h', rfl, rfl, ok'⟩ := key
  exact ⟨h', e, ok'⟩
end
end Wk
namespace Wk
open PySem PySem.Spec PyProof.Rows L2 Pv
noncomputable def tellD : D Sl := dcallF f_ulaw_is_land_right (dcons (dname 1) (dcons (dcallF f_ulaw_heap (dcons (dname 1) dnil)) dnil))
theorem tell_ok {h : Hand} {v : PV} {x : PV} (ok : HandOk h) : WP tellD [.val v, .val (pvH h), .val x] fun r e => r = .val (.bl true) ∧ ∃ h', HandOk h' ∧ e = [.val v, .val (pvH h'), .val x] := by
  obtain ⟨h2, L, w, e1, ok2, hL, hw, hm⟩ := sp_lheap ok
  obtain ⟨h3, e2, ok3⟩ := sp_right hL hw hm ok2
  unfold tellD
  simp -implicitDefEqProofs [e1, e2]
  exact ⟨h3, ok3, rfl⟩
theorem law_holds : ∀ ns : List Int, ns.length ≤ 63 → LawD f_law ns := by
  intro ns hn
  obtain ⟨h, as, e, ok⟩ := sp_hand (ns := ns) (by omega)
  obtain ⟨a, rfl⟩ := List.length_eq_one_iff.mp (mkfn_out e)
  have key : ∃ r as, f_law [.frl (ns.map .int)] = some (r, as) ∧ r = .bl true := by
    refine wp_exit rfl ?_
    unfold b_law
    have hb : okB 4 := by decide
    have hb2 : WP (lcP (setT (.nm 2)) [2] (dpure true) tellD (rangeP 0 4 1) []) [.val (.frl (ns.map .int)), .val (pvH h), .un] fun a e => a = [.bl true, .bl true, .bl true, .bl true] ∧ ∃ h', e = [.val (.frl (ns.map .int)), .val (pvH h'), .un] := by
      refine wp_lcI (fun n a e => a = List.replicate n (.bl true) ∧ ∃ h', HandOk h' ∧ e = [.val (.frl (ns.map .int)), .val (pvH h'), .un]) (n := 0) ⟨rfl, h, ok, rfl⟩ ?_ ?_
      · rintro n p a e hp ⟨rfl, h', ok', rfl⟩
        obtain ⟨hn, rfl⟩ := rangeP_get hp
        have hs : setT (.nm 2) (PV.int (0 + (n : Int) * 1)) [.val (.frl (ns.map .int)), .val (pvH h'), .un] = some [.val (.frl (ns.map .int)), .val (pvH h'), .val (.int (0 + (n : Int) * 1))] := by simp
        rw [hs, gate_some, wp_pure, if_pos rfl]
        refine wp_mono (tell_ok ok') ?_
        rintro r e ⟨rfl, h3, ok3, rfl⟩
        rw [unalV_val, gate_some]
        refine ⟨?_, h3, ok3, ?_⟩
        · rw [List.replicate_succ', Nat.zero_add]
        · simp
      · rintro a e ⟨rfl, h', ok', rfl⟩
        rw [rangeP_len]
        exact ⟨rfl, h', rfl⟩
    simp -implicitDefEqProofs [e, hb]
    refine ⟨by rw [rangeP_len]; decide, ?_⟩
    refine wp_mono hb2 ?_
    rintro a e ⟨rfl, h', rfl⟩
    simp [blsP]
  obtain ⟨r, as, e, rfl⟩ := key
  exact ⟨as, e⟩
end Wk
open PySem PySem.W PyProof.Rows in
set_option maxRecDepth 100000 in
set_option maxHeartbeats 0 in
theorem PySem.Challenge.cw_hillandwater_k67_whole_settled_lands_of_holds : PySem.Challenge.rw_hillandwater_k67_whole_settled_lands_of.Holds := by
  w_on; o_law; k_head; (case hw => w_witness2)
  k_fill
  refine Pv.walkG (l := PySem.Challenge.rw_hillandwater_k67_whole_settled_lands_of) (n := 63) (k := 11) (x := "script") (D := Wk.f_law) rfl (by decide) rfl ⟨rfl, by decide, by decide⟩ (fun w h Y => PySem.W.kIn_of Y) ?F Wk.law_holds
  case F =>
    intro w mg fa h KX G hmg
    refine' Wk.all_mk KX G hmg ?T ?D_ulaw_hand ?D_ulaw_spots ?D_ulaw_beside ?D_ulaw_climb ?D_ulaw_steep ?D_ulaw_behind ?D_ulaw_settled ?D_ulaw_draw ?D_ulaw_any ?D_ulaw_like ?D_ulaw_units ?D_is_integer ?D_is_within ?D_is_height ?D_is_row ?D_is_land ?D_check_land ?D_check_steep ?D_height_of ?D_step_between ?D_all_spots ?D_stepped ?D_is_on_land ?D_spots_beside ?D_pairs_beside ?D_raw_greatest_step ?D_all_heights ?D_is_settled ?D_ulaw_is_settled ?D_ulaw_are_things_right ?D_higher_first ?D_raw_steep_pairs ?D_steep_pairs ?D_with_height ?D_moved_unit ?D_raw_fall ?D_fall ?D_least_steep ?D_all_falls ?D_settled ?D_falls_many ?D_moved_by_falls ?D_ulaw_is_land_right ?D_ulaw_land ?D_ulaw_heap ?D_law
    case T =>
      refine' ⟨?z_abs, ?z_all, ?z_bool, ?z_int, ?z_isinstance, ?z_len, ?z_list, ?z_max, ?z_min, ?z_range, ?z_repr, ?z_sorted, ?z_sum, ?z_tuple, ?z_zip, ?c_MOST_FALLS, ?c_MOST_HEIGHT, ?c_MOST_SIDE, ?c_SIDES⟩
      case z_abs =>
        refine' PySem.W.mg_none_of KX G ?a
        (case a => k_is)
      case z_all =>
        refine' PySem.W.mg_none_of KX G ?a
        (case a => k_is)
      case z_bool =>
        refine' PySem.W.mg_none_of KX G ?a
        (case a => k_is)
      case z_int =>
        refine' PySem.W.mg_none_of KX G ?a
        (case a => k_is)
      case z_isinstance =>
        refine' PySem.W.mg_none_of KX G ?a
        (case a => k_is)
      case z_len =>
        refine' PySem.W.mg_none_of KX G ?a
        (case a => k_is)
      case z_list =>
        refine' PySem.W.mg_none_of KX G ?a
        (case a => k_is)
      case z_max =>
        refine' PySem.W.mg_none_of KX G ?a
        (case a => k_is)
      case z_min =>
        refine' PySem.W.mg_none_of KX G ?a
        (case a => k_is)
      case z_range =>
        refine' PySem.W.mg_none_of KX G ?a
        (case a => k_is)
      case z_repr =>
        refine' PySem.W.mg_none_of KX G ?a
        (case a => k_is)
      case z_sorted =>
        refine' PySem.W.mg_none_of KX G ?a
        (case a => k_is)
      case z_sum =>
        refine' PySem.W.mg_none_of KX G ?a
        (case a => k_is)
      case z_tuple =>
        refine' PySem.W.mg_none_of KX G ?a
        (case a => k_is)
      case z_zip =>
        refine' PySem.W.mg_none_of KX G ?a
        (case a => k_is)
      case c_MOST_FALLS =>
        refine' Wk.gc_of KX G ?a ?g
        (case a => k_is)
        case g =>
          exact Wk.gt_int
      case c_MOST_HEIGHT =>
        refine' Wk.gc_of KX G ?a ?g
        (case a => k_is)
        case g =>
          exact Wk.gt_int
      case c_MOST_SIDE =>
        refine' Wk.gc_of KX G ?a ?g
        (case a => k_is)
        case g =>
          exact Wk.gt_int
      case c_SIDES =>
        refine' Wk.gc_of KX G ?a ?g
        (case a => k_is)
        case g =>
          refine' Wk.gt_tup ?l1 ?z1 ?g1
          (case l1 => k_is)
          (case z1 => decide)
          case g1 =>
            refine' Wk.gts_cons ?h2 ?t2
            case h2 =>
              refine' Wk.gt_tup ?l3 ?z3 ?g3
              (case l3 => k_is)
              (case z3 => decide)
              case g3 =>
                refine' Wk.gts_cons ?h4 ?t4
                case h4 =>
                  exact Wk.gt_int
                case t4 =>
                  refine' Wk.gts_cons ?h5 ?t5
                  case h5 =>
                    exact Wk.gt_int
                  case t5 =>
                    exact Wk.gts_nil
            case t2 =>
              refine' Wk.gts_cons ?h6 ?t6
              case h6 =>
                refine' Wk.gt_tup ?l7 ?z7 ?g7
                (case l7 => k_is)
                (case z7 => decide)
                case g7 =>
                  refine' Wk.gts_cons ?h8 ?t8
                  case h8 =>
                    exact Wk.gt_int
                  case t8 =>
                    refine' Wk.gts_cons ?h9 ?t9
                    case h9 =>
                      exact Wk.gt_int
                    case t9 =>
                      exact Wk.gts_nil
              case t6 =>
                refine' Wk.gts_cons ?h10 ?t10
                case h10 =>
                  refine' Wk.gt_tup ?l11 ?z11 ?g11
                  (case l11 => k_is)
                  (case z11 => decide)
                  case g11 =>
                    refine' Wk.gts_cons ?h12 ?t12
                    case h12 =>
                      exact Wk.gt_int
                    case t12 =>
                      refine' Wk.gts_cons ?h13 ?t13
                      case h13 =>
                        exact Wk.gt_int
                      case t13 =>
                        exact Wk.gts_nil
                case t10 =>
                  refine' Wk.gts_cons ?h14 ?t14
                  case h14 =>
                    refine' Wk.gt_tup ?l15 ?z15 ?g15
                    (case l15 => k_is)
                    (case z15 => decide)
                    case g15 =>
                      refine' Wk.gts_cons ?h16 ?t16
                      case h16 =>
                        exact Wk.gt_int
                      case t16 =>
                        refine' Wk.gts_cons ?h17 ?t17
                        case h17 =>
                          exact Wk.gt_int
                        case t17 =>
                          exact Wk.gts_nil
                  case t14 =>
                    exact Wk.gts_nil
    case D_ulaw_hand =>
      refine' Wk.defAt ?a ?l ?c ?k
      (case a => k_is)
      (case l => k_is)
      (case c => k_is)
      (case k => k_is)
    case D_ulaw_spots =>
      refine' Wk.defAt ?a ?l ?c ?k
      (case a => k_is)
      (case l => k_is)
      (case c => k_is)
      (case k => k_is)
    case D_ulaw_beside =>
      refine' Wk.defAt ?a ?l ?c ?k
      (case a => k_is)
      (case l => k_is)
      (case c => k_is)
      (case k => k_is)
    case D_ulaw_climb =>
      refine' Wk.defAt ?a ?l ?c ?k
      (case a => k_is)
      (case l => k_is)
      (case c => k_is)
      (case k => k_is)
    case D_ulaw_steep =>
      refine' Wk.defAt ?a ?l ?c ?k
      (case a => k_is)
      (case l => k_is)
      (case c => k_is)
      (case k => k_is)
    case D_ulaw_behind =>
      refine' Wk.defAt ?a ?l ?c ?k
      (case a => k_is)
      (case l => k_is)
      (case c => k_is)
      (case k => k_is)
    case D_ulaw_settled =>
      refine' Wk.defAt ?a ?l ?c ?k
      (case a => k_is)
      (case l => k_is)
      (case c => k_is)
      (case k => k_is)
    case D_ulaw_draw =>
      refine' Wk.defAt ?a ?l ?c ?k
      (case a => k_is)
      (case l => k_is)
      (case c => k_is)
      (case k => k_is)
    case D_ulaw_any =>
      refine' Wk.defAt ?a ?l ?c ?k
      (case a => k_is)
      (case l => k_is)
      (case c => k_is)
      (case k => k_is)
    case D_ulaw_like =>
      refine' Wk.defAt ?a ?l ?c ?k
      (case a => k_is)
      (case l => k_is)
      (case c => k_is)
      (case k => k_is)
    case D_ulaw_units =>
      refine' Wk.defAt ?a ?l ?c ?k
      (case a => k_is)
      (case l => k_is)
      (case c => k_is)
      (case k => k_is)
    case D_is_integer =>
      refine' Wk.defAt ?a ?l ?c ?k
      (case a => k_is)
      (case l => k_is)
      (case c => k_is)
      (case k => k_is)
    case D_is_within =>
      refine' Wk.defAt ?a ?l ?c ?k
      (case a => k_is)
      (case l => k_is)
      (case c => k_is)
      (case k => k_is)
    case D_is_height =>
      refine' Wk.defAt ?a ?l ?c ?k
      (case a => k_is)
      (case l => k_is)
      (case c => k_is)
      (case k => k_is)
    case D_is_row =>
      refine' Wk.defAt ?a ?l ?c ?k
      (case a => k_is)
      (case l => k_is)
      (case c => k_is)
      (case k => k_is)
    case D_is_land =>
      refine' Wk.defAt ?a ?l ?c ?k
      (case a => k_is)
      (case l => k_is)
      (case c => k_is)
      (case k => k_is)
    case D_check_land =>
      refine' Wk.defAt ?a ?l ?c ?k
      (case a => k_is)
      (case l => k_is)
      (case c => k_is)
      (case k => k_is)
    case D_check_steep =>
      refine' Wk.defAt ?a ?l ?c ?k
      (case a => k_is)
      (case l => k_is)
      (case c => k_is)
      (case k => k_is)
    case D_height_of =>
      refine' Wk.defAt ?a ?l ?c ?k
      (case a => k_is)
      (case l => k_is)
      (case c => k_is)
      (case k => k_is)
    case D_step_between =>
      refine' Wk.defAt ?a ?l ?c ?k
      (case a => k_is)
      (case l => k_is)
      (case c => k_is)
      (case k => k_is)
    case D_all_spots =>
      refine' Wk.defAt ?a ?l ?c ?k
      (case a => k_is)
      (case l => k_is)
      (case c => k_is)
      (case k => k_is)
    case D_stepped =>
      refine' Wk.defAt ?a ?l ?c ?k
      (case a => k_is)
      (case l => k_is)
      (case c => k_is)
      (case k => k_is)
    case D_is_on_land =>
      refine' Wk.defAt ?a ?l ?c ?k
      (case a => k_is)
      (case l => k_is)
      (case c => k_is)
      (case k => k_is)
    case D_spots_beside =>
      refine' Wk.defAt ?a ?l ?c ?k
      (case a => k_is)
      (case l => k_is)
      (case c => k_is)
      (case k => k_is)
    case D_pairs_beside =>
      refine' Wk.defAt ?a ?l ?c ?k
      (case a => k_is)
      (case l => k_is)
      (case c => k_is)
      (case k => k_is)
    case D_raw_greatest_step =>
      refine' Wk.defAt ?a ?l ?c ?k
      (case a => k_is)
      (case l => k_is)
      (case c => k_is)
      (case k => k_is)
    case D_all_heights =>
      refine' Wk.defAt ?a ?l ?c ?k
      (case a => k_is)
      (case l => k_is)
      (case c => k_is)
      (case k => k_is)
    case D_is_settled =>
      refine' Wk.defAt ?a ?l ?c ?k
      (case a => k_is)
      (case l => k_is)
      (case c => k_is)
      (case k => k_is)
    case D_ulaw_is_settled =>
      refine' Wk.defAt ?a ?l ?c ?k
      (case a => k_is)
      (case l => k_is)
      (case c => k_is)
      (case k => k_is)
    case D_ulaw_are_things_right =>
      refine' Wk.defAt ?a ?l ?c ?k
      (case a => k_is)
      (case l => k_is)
      (case c => k_is)
      (case k => k_is)
    case D_higher_first =>
      refine' Wk.defAt ?a ?l ?c ?k
      (case a => k_is)
      (case l => k_is)
      (case c => k_is)
      (case k => k_is)
    case D_raw_steep_pairs =>
      refine' Wk.defAt ?a ?l ?c ?k
      (case a => k_is)
      (case l => k_is)
      (case c => k_is)
      (case k => k_is)
    case D_steep_pairs =>
      refine' Wk.defAt ?a ?l ?c ?k
      (case a => k_is)
      (case l => k_is)
      (case c => k_is)
      (case k => k_is)
    case D_with_height =>
      refine' Wk.defAt ?a ?l ?c ?k
      (case a => k_is)
      (case l => k_is)
      (case c => k_is)
      (case k => k_is)
    case D_moved_unit =>
      refine' Wk.defAt ?a ?l ?c ?k
      (case a => k_is)
      (case l => k_is)
      (case c => k_is)
      (case k => k_is)
    case D_raw_fall =>
      refine' Wk.defAt ?a ?l ?c ?k
      (case a => k_is)
      (case l => k_is)
      (case c => k_is)
      (case k => k_is)
    case D_fall =>
      refine' Wk.defAt ?a ?l ?c ?k
      (case a => k_is)
      (case l => k_is)
      (case c => k_is)
      (case k => k_is)
    case D_least_steep =>
      refine' Wk.defAt ?a ?l ?c ?k
      (case a => k_is)
      (case l => k_is)
      (case c => k_is)
      (case k => k_is)
    case D_all_falls =>
      refine' Wk.defAt ?a ?l ?c ?k
      (case a => k_is)
      (case l => k_is)
      (case c => k_is)
      (case k => k_is)
    case D_settled =>
      refine' Wk.defAt ?a ?l ?c ?k
      (case a => k_is)
      (case l => k_is)
      (case c => k_is)
      (case k => k_is)
    case D_falls_many =>
      refine' Wk.defAt ?a ?l ?c ?k
      (case a => k_is)
      (case l => k_is)
      (case c => k_is)
      (case k => k_is)
    case D_moved_by_falls =>
      refine' Wk.defAt ?a ?l ?c ?k
      (case a => k_is)
      (case l => k_is)
      (case c => k_is)
      (case k => k_is)
    case D_ulaw_is_land_right =>
      refine' Wk.defAt ?a ?l ?c ?k
      (case a => k_is)
      (case l => k_is)
      (case c => k_is)
      (case k => k_is)
    case D_ulaw_land =>
      refine' Wk.defAt ?a ?l ?c ?k
      (case a => k_is)
      (case l => k_is)
      (case c => k_is)
      (case k => k_is)
    case D_ulaw_heap =>
      refine' Wk.defAt ?a ?l ?c ?k
      (case a => k_is)
      (case l => k_is)
      (case c => k_is)
      (case k => k_is)
    case D_law =>
      refine' Wk.defAt ?a ?l ?c ?k
      (case a => k_is)
      (case l => k_is)
      (case c => k_is)
      (case k => k_is)
