import PyProof.Rows.All
import Wide.All
import OpenK.AllK
import Wide.FinOn
import HandS.ForMost
import HandS.Exc
import HandS.ExcOwn
import HandS.WordsExc
import HandS.IsInst
import HandS.Deep
import HandS.Style
import HandS.Wide
import HandS.Walk
import HandS.DictComp
import HandS.CallSlots
import HandS.Conv
import HandS.Lambda
import HandS.Defaults
import HandS.Head0
import HandS.Head1
import HandS.Head2
import HandS.HeadEnd
import HandS.HeadHook1
import HandS.HeadHook2
import PySem.Challenge.RW_recalcrows_k08_steps_taken
set_option Elab.async false
set_option linter.all false
set_option maxRecDepth 100000
set_option maxHeartbeats 4000000
/-! A value-level interpreter over the hand layer: data, how the heap bears them. -/
namespace VI
open PySem L2

/-- data: o tells whether a list, a dict is owned (may be changed) or frozen -/
inductive D where
  | non | bl (b : Bool) | int (i : Int) | str (s : Str)
  | lst (o : Bool) (ds : List D) | tup (ds : List D)
  | dic (o : Bool) (ks : List Key) (ds : List D)
  | ins (C : Str) (fn : List Str) (ds : List D)
  | ref (k : Nat)
  /-- the script -/
  | scr (ns : List Int)

abbrev Cn := Addr → Nat
abbrev cz : Cn := fun _ => 0
abbrev one (a : Addr) : Cn := fun p => if p = a then 1 else 0
abbrev cadd (c d : Cn) : Cn := fun p => c p + d p

/-- the world as known: F the frozen part of H, A where the shared objects stand -/
structure Hw where
  K : PySem.W.Frag
  ct : Str → Addr
  F : Hp
  H : Hp
  A : List Addr

mutual
def RT (E : Hw) : D → V → Cn → Prop
  | .non, v, c => v = .non ∧ c = cz
  | .bl b, v, c => v = .bl b ∧ c = cz
  | .int i, v, c => v = .int i ∧ c = cz
  | .str s, v, c => v = .str s ∧ c = cz
  | .lst false ds, v, c => c = cz ∧ ∃ a vs, v = .ref a ∧ E.F a = some (.lst vs) ∧ RTs E ds vs cz
  | .lst true ds, v, c => ∃ a vs c', v = .ref a ∧ E.H a = some (.lst vs) ∧ RTs E ds vs c' ∧ c = cadd (one a) c'
  | .tup ds, v, c => ∃ a vs, v = .ref a ∧ E.F a = some (.tup vs) ∧ RTs E ds vs c
  | .dic false ks ds, v, c => c = cz ∧ ∃ a kvs, v = .ref a ∧ E.F a = some (.dK kvs) ∧ kvs.map (·.1) = ks ∧ RTs E ds (kvs.map (·.2)) cz
  | .dic true ks ds, v, c => ∃ a kvs c', v = .ref a ∧ E.H a = some (.dK kvs) ∧ kvs.map (·.1) = ks ∧ RTs E ds (kvs.map (·.2)) c' ∧ c = cadd (one a) c'
  | .ins C fn ds, v, c => c = cz ∧ ∃ a dx fs, v = .ref a ∧ E.F a = some (.ins (E.ct C) dx fs) ∧ fs.map (·.1) = fn ∧ RTs E ds (fs.map (·.2)) cz
  | .ref k, v, c => c = cz ∧ ∃ a, v = .ref a ∧ E.A[k]? = some a
  | .scr ns, v, c => c = cz ∧ ∃ a, v = .ref a ∧ SqL E.K E.F a (ns.map V.int)
def RTs (E : Hw) : List D → List V → Cn → Prop
  | [], vs, c => vs = [] ∧ c = cz
  | d :: ds, vs, c => ∃ v vs' c1 c2, vs = v :: vs' ∧ RT E d v c1 ∧ RTs E ds vs' c2 ∧ c = cadd c1 c2
end

theorem cadd_z {c d : Cn} (h : cz = cadd c d) : c = cz ∧ d = cz := by
  constructor
  · funext p
    have := congrFun h p
    simp only [cadd, cz] at this ⊢
    omega
  · funext p
    have := congrFun h p
    simp only [cadd, cz] at this ⊢
    omega
theorem cadd_zz : cadd cz cz = cz := rfl
theorem cadd_rz (c : Cn) : cadd c cz = c := rfl
theorem cadd_lz (c : Cn) : cadd cz c = c := by funext p; simp [cadd, cz]
theorem cadd_assoc (a b c : Cn) : cadd (cadd a b) c = cadd a (cadd b c) := by funext p; simp only [cadd]; omega
theorem cadd_comm (a b : Cn) : cadd a b = cadd b a := by funext p; simp only [cadd]; omega
theorem one_ne (a : Addr) {c : Cn} : cadd (one a) c ≠ cz := fun h => by
  have := congrFun h a
  simp [cadd, one, cz] at this

mutual
def frz : D → D
  | .non => .non | .bl b => .bl b | .int i => .int i | .str s => .str s
  | .lst _ ds => .lst false (frzs ds)
  | .tup ds => .tup (frzs ds)
  | .dic _ ks ds => .dic false ks (frzs ds)
  | .ins C fn ds => .ins C fn (frzs ds)
  | .ref k => .ref k
  | .scr ns => .scr ns
def frzs : List D → List D
  | [] => []
  | d :: ds => frz d :: frzs ds
end
theorem frzs_map : ∀ ds, frzs ds = ds.map frz
  | [] => rfl
  | d :: ds => by rw [frzs, frzs_map ds]; rfl
mutual
/-- all frozen -/
def allF : D → Bool
  | .non => true | .bl _ => true | .int _ => true | .str _ => true
  | .lst o ds => !o && allFs ds
  | .tup ds => allFs ds
  | .dic o _ ds => !o && allFs ds
  | .ins _ _ ds => allFs ds
  | .ref _ => true
  | .scr _ => true
def allFs : List D → Bool
  | [] => true
  | d :: ds => allF d && allFs ds
end

structure Step (E : Hw) (ce : Cn) (E' : Hw) : Prop where
  k : E'.K = E.K
  ct : E'.ct = E.ct
  f : ∀ a o, E.F a = some o → E'.F a = some o
  a : ∃ l, E'.A = E.A ++ l
  h : ∀ a o, ce a ≠ 0 → E.H a = some o → E'.H a = some o
theorem Step.refl (E : Hw) (ce : Cn) : Step E ce E := ⟨rfl, rfl, fun _ _ h => h, ⟨[], by simp⟩, fun _ _ _ h => h⟩
theorem Step.trans {E E1 E2 : Hw} {ce : Cn} (s : Step E ce E1) (t : Step E1 ce E2) : Step E ce E2 :=
  ⟨t.k.trans s.k, t.ct.trans s.ct, fun a o h => t.f a o (s.f a o h), by
    obtain ⟨l, e⟩ := s.a
    obtain ⟨l', e'⟩ := t.a
    exact ⟨l ++ l', by rw [e', e, List.append_assoc]⟩, fun a o n h => t.h a o n (s.h a o n h)⟩
theorem Step.less {E E1 : Hw} {ce c' : Cn} (s : Step E ce E1) (h : ∀ p, c' p ≠ 0 → ce p ≠ 0) : Step E c' E1 :=
  ⟨s.k, s.ct, s.f, s.a, fun a o n q => s.h a o (h a n) q⟩

theorem sqL_mono {K : PySem.W.Frag} {F F' : Hp} {a : Addr} {vs : List V} (h : ∀ a o, F a = some o → F' a = some o) (s : SqL K F a vs) : SqL K F' a vs := by
  rcases s with (s | ⟨o, s⟩) | s
  · exact .inl (.inl (h _ _ s))
  · exact .inl (.inr ⟨o, h _ _ s⟩)
  · exact .inr s
theorem sqT_mono {K : PySem.W.Frag} {F F' : Hp} {a : Addr} {vs : List V} (h : ∀ a o, F a = some o → F' a = some o) (s : SqT K F a vs) : SqT K F' a vs := by
  rcases s with (s | ⟨o, s⟩) | s
  · exact .inl (.inl (h _ _ s))
  · exact .inl (.inr ⟨o, h _ _ s⟩)
  · exact .inr s

mutual
/-- what is known stays known -/
theorem RT.mono {E E' : Hw} : ∀ (d : D) {v : V} {c : Cn}, Step E c E' → RT E d v c → RT E' d v c
  | .non, _, _, _, h => by simpa [RT] using h
  | .bl _, _, _, _, h => by simpa [RT] using h
  | .int _, _, _, _, h => by simpa [RT] using h
  | .str _, _, _, _, h => by simpa [RT] using h
  | .lst false ds, _, _, s, h => by
    simp only [RT] at h ⊢
    obtain ⟨rfl, a, vs, e, q, r⟩ := h
    exact ⟨rfl, a, vs, e, s.f _ _ q, RTs.mono ds s r⟩
  | .lst true ds, _, _, s, h => by
    simp only [RT] at h ⊢
    obtain ⟨a, vs, c', e, q, r, rfl⟩ := h
    exact ⟨a, vs, c', e, s.h a _ (by simp [cadd, one]) q, RTs.mono ds (s.less fun p hp => by simp only [cadd]; omega) r, rfl⟩
  | .tup ds, _, _, s, h => by
    simp only [RT] at h ⊢
    obtain ⟨a, vs, e, q, r⟩ := h
    exact ⟨a, vs, e, s.f _ _ q, RTs.mono ds s r⟩
  | .dic false ks ds, _, _, s, h => by
    simp only [RT] at h ⊢
    obtain ⟨rfl, a, kvs, e, q, z, r⟩ := h
    exact ⟨rfl, a, kvs, e, s.f _ _ q, z, RTs.mono ds s r⟩
  | .dic true ks ds, _, _, s, h => by
    simp only [RT] at h ⊢
    obtain ⟨a, kvs, c', e, q, z, r, rfl⟩ := h
    exact ⟨a, kvs, c', e, s.h a _ (by simp [cadd, one]) q, z, RTs.mono ds (s.less fun p hp => by simp only [cadd]; omega) r, rfl⟩
  | .ins C fn ds, _, _, s, h => by
    simp only [RT] at h ⊢
    obtain ⟨rfl, a, dx, fs, e, q, z, r⟩ := h
    rw [s.ct]
    exact ⟨rfl, a, dx, fs, e, s.f _ _ q, z, RTs.mono ds s r⟩
  | .ref k, _, _, s, h => by
    simp only [RT] at h ⊢
    obtain ⟨rfl, a, e, q⟩ := h
    obtain ⟨l, e'⟩ := s.a
    refine ⟨rfl, a, e, ?_⟩
    rw [e', List.getElem?_append_left (List.getElem?_eq_some_iff.mp q).1]
    exact q
  | .scr ns, _, _, s, h => by
    simp only [RT] at h ⊢
    obtain ⟨rfl, a, e, q⟩ := h
    rw [s.k]
    exact ⟨rfl, a, e, sqL_mono s.f q⟩
theorem RTs.mono {E E' : Hw} : ∀ (ds : List D) {vs : List V} {c : Cn}, Step E c E' → RTs E ds vs c → RTs E' ds vs c
  | [], _, _, _, h => by simpa [RTs] using h
  | d :: ds, _, _, s, h => by
    simp only [RTs] at h ⊢
    obtain ⟨v, vs', c1, c2, e, r, q, rfl⟩ := h
    exact ⟨v, vs', c1, c2, e, RT.mono d (s.less fun p hp => by simp only [cadd]; omega) r, RTs.mono ds (s.less fun p hp => by simp only [cadd]; omega) q, rfl⟩
end
mutual
/-- what is owned stands in the heap -/
theorem RT.dom {E : Hw} : ∀ (d : D) {v : V} {c : Cn}, RT E d v c → ∀ p, c p ≠ 0 → E.H p ≠ none
  | .non, _, _, h, p, n => by simp only [RT] at h; rw [h.2] at n; exact absurd rfl n
  | .bl _, _, _, h, p, n => by simp only [RT] at h; rw [h.2] at n; exact absurd rfl n
  | .int _, _, _, h, p, n => by simp only [RT] at h; rw [h.2] at n; exact absurd rfl n
  | .str _, _, _, h, p, n => by simp only [RT] at h; rw [h.2] at n; exact absurd rfl n
  | .lst false ds, _, _, h, p, n => by simp only [RT] at h; rw [h.1] at n; exact absurd rfl n
  | .lst true ds, _, _, h, p, n => by
    simp only [RT] at h
    obtain ⟨a, vs, c', e, q, r, rfl⟩ := h
    by_cases z : p = a
    · rw [z, q]; exact fun w => nomatch w
    · exact RTs.dom ds r p (by simpa [cadd, one, z] using n)
  | .tup ds, _, _, h, p, n => by
    simp only [RT] at h
    obtain ⟨a, vs, e, q, r⟩ := h
    exact RTs.dom ds r p n
  | .dic false ks ds, _, _, h, p, n => by simp only [RT] at h; rw [h.1] at n; exact absurd rfl n
  | .dic true ks ds, _, _, h, p, n => by
    simp only [RT] at h
    obtain ⟨a, kvs, c', e, q, w, r, rfl⟩ := h
    by_cases z : p = a
    · rw [z, q]; exact fun w => nomatch w
    · exact RTs.dom ds r p (by simpa [cadd, one, z] using n)
  | .ins C fn ds, _, _, h, p, n => by simp only [RT] at h; rw [h.1] at n; exact absurd rfl n
  | .ref k, _, _, h, p, n => by simp only [RT] at h; rw [h.1] at n; exact absurd rfl n
  | .scr _, _, _, h, p, n => by simp only [RT] at h; rw [h.1] at n; exact absurd rfl n
theorem RTs.dom {E : Hw} : ∀ (ds : List D) {vs : List V} {c : Cn}, RTs E ds vs c → ∀ p, c p ≠ 0 → E.H p ≠ none
  | [], _, _, h, p, n => by simp only [RTs] at h; rw [h.2] at n; exact absurd rfl n
  | d :: ds, _, _, h, p, n => by
    simp only [RTs] at h
    obtain ⟨v, vs', c1, c2, e, r, q, rfl⟩ := h
    by_cases z : c1 p = 0
    · exact RTs.dom ds q p (by simpa [cadd, z] using n)
    · exact RT.dom d r p z
end
mutual
/-- a frozen view: into any E' in which what is owned stands frozen -/
theorem RT.freeze {E E' : Hw} (k : E'.K = E.K) (ct : E'.ct = E.ct) (hA : E'.A = E.A) (f : ∀ a o, E.F a = some o → E'.F a = some o) : ∀ (d : D) {v : V} {c : Cn}, RT E d v c → (∀ p o, c p ≠ 0 → E.H p = some o → E'.F p = some o) → RT E' (frz d) v cz
  | .non, _, _, h, _ => by simp only [RT, frz] at h ⊢; exact ⟨h.1, trivial⟩
  | .bl _, _, _, h, _ => by simp only [RT, frz] at h ⊢; exact ⟨h.1, trivial⟩
  | .int _, _, _, h, _ => by simp only [RT, frz] at h ⊢; exact ⟨h.1, trivial⟩
  | .str _, _, _, h, _ => by simp only [RT, frz] at h ⊢; exact ⟨h.1, trivial⟩
  | .lst false ds, _, _, h, g => by
    simp only [RT, frz] at h ⊢
    obtain ⟨rfl, a, vs, e, q, r⟩ := h
    exact ⟨trivial, a, vs, e, f _ _ q, RTs.freeze k ct hA f ds r g⟩
  | .lst true ds, _, _, h, g => by
    simp only [RT, frz] at h ⊢
    obtain ⟨a, vs, c', e, q, r, rfl⟩ := h
    exact ⟨trivial, a, vs, e, g a _ (by simp [cadd, one]) q, RTs.freeze k ct hA f ds r fun p o n z => g p o (by simp only [cadd]; omega) z⟩
  | .tup ds, _, _, h, g => by
    simp only [RT, frz] at h ⊢
    obtain ⟨a, vs, e, q, r⟩ := h
    exact ⟨a, vs, e, f _ _ q, RTs.freeze k ct hA f ds r g⟩
  | .dic false ks ds, _, _, h, g => by
    simp only [RT, frz] at h ⊢
    obtain ⟨rfl, a, kvs, e, q, z, r⟩ := h
    exact ⟨trivial, a, kvs, e, f _ _ q, z, RTs.freeze k ct hA f ds r g⟩
  | .dic true ks ds, _, _, h, g => by
    simp only [RT, frz] at h ⊢
    obtain ⟨a, kvs, c', e, q, z, r, rfl⟩ := h
    exact ⟨trivial, a, kvs, e, g a _ (by simp [cadd, one]) q, z, RTs.freeze k ct hA f ds r fun p o n z => g p o (by simp only [cadd]; omega) z⟩
  | .ins C fn ds, _, _, h, g => by
    simp only [RT, frz] at h ⊢
    obtain ⟨rfl, a, dx, fs, e, q, z, r⟩ := h
    rw [ct]
    exact ⟨trivial, a, dx, fs, e, f _ _ q, z, RTs.freeze k ct hA f ds r g⟩
  | .ref i, _, _, h, g => by
    simp only [RT, frz] at h ⊢
    obtain ⟨rfl, a, e, q⟩ := h
    exact ⟨trivial, a, e, by rw [hA]; exact q⟩
  | .scr ns, _, _, h, g => by
    simp only [RT, frz] at h ⊢
    obtain ⟨rfl, a, e, q⟩ := h
    rw [k]
    exact ⟨trivial, a, e, sqL_mono f q⟩
theorem RTs.freeze {E E' : Hw} (k : E'.K = E.K) (ct : E'.ct = E.ct) (hA : E'.A = E.A) (f : ∀ a o, E.F a = some o → E'.F a = some o) : ∀ (ds : List D) {vs : List V} {c : Cn}, RTs E ds vs c → (∀ p o, c p ≠ 0 → E.H p = some o → E'.F p = some o) → RTs E' (frzs ds) vs cz
  | [], _, _, h, _ => by simp only [RTs, frzs] at h ⊢; exact ⟨h.1, trivial⟩
  | d :: ds, _, _, h, g => by
    simp only [RTs, frzs] at h ⊢
    obtain ⟨v, vs', c1, c2, e, r, q, rfl⟩ := h
    exact ⟨v, vs', cz, cz, e, RT.freeze k ct hA f d r fun p o n z => g p o (by simp only [cadd]; omega) z, RTs.freeze k ct hA f ds q fun p o n z => g p o (by simp only [cadd]; omega) z, rfl⟩
end
mutual
theorem RT.allF {E : Hw} : ∀ (d : D) {v : V} {c : Cn}, RT E d v c → allF d = true → c = cz
  | .non, _, _, h, _ => by simp only [RT] at h; exact h.2
  | .bl _, _, _, h, _ => by simp only [RT] at h; exact h.2
  | .int _, _, _, h, _ => by simp only [RT] at h; exact h.2
  | .str _, _, _, h, _ => by simp only [RT] at h; exact h.2
  | .lst false ds, _, _, h, _ => by simp only [RT] at h; exact h.1
  | .lst true ds, _, _, h, g => by simp [VI.allF] at g
  | .tup ds, _, _, h, g => by
    simp only [RT] at h
    obtain ⟨a, vs, e, q, r⟩ := h
    exact RTs.allF ds r (by simpa [VI.allF] using g)
  | .dic false ks ds, _, _, h, _ => by simp only [RT] at h; exact h.1
  | .dic true ks ds, _, _, h, g => by simp [VI.allF] at g
  | .ins C fn ds, _, _, h, _ => by simp only [RT] at h; exact h.1
  | .ref k, _, _, h, _ => by simp only [RT] at h; exact h.1
  | .scr _, _, _, h, _ => by simp only [RT] at h; exact h.1
theorem RTs.allF {E : Hw} : ∀ (ds : List D) {vs : List V} {c : Cn}, RTs E ds vs c → allFs ds = true → c = cz
  | [], _, _, h, _ => by simp only [RTs] at h; exact h.2
  | d :: ds, _, _, h, g => by
    simp only [RTs] at h
    obtain ⟨v, vs', c1, c2, e, r, q, rfl⟩ := h
    simp only [VI.allFs, Bool.and_eq_true] at g
    rw [RT.allF d r g.1, RTs.allF ds q g.2]
    rfl
end
mutual
theorem frz_id : ∀ d, allF d = true → frz d = d
  | .non, _ => rfl | .bl _, _ => rfl | .int _, _ => rfl | .str _, _ => rfl
  | .lst false ds, h => by simp only [allF, Bool.not_false, Bool.true_and] at h; rw [frz, frzs_id ds h]
  | .lst true ds, h => by simp [allF] at h
  | .tup ds, h => by simp only [allF] at h; rw [frz, frzs_id ds h]
  | .dic false ks ds, h => by simp only [allF, Bool.not_false, Bool.true_and] at h; rw [frz, frzs_id ds h]
  | .dic true ks ds, h => by simp [allF] at h
  | .ins C fn ds, h => by simp only [allF] at h; rw [frz, frzs_id ds h]
  | .ref k, _ => rfl
  | .scr _, _ => rfl
theorem frzs_id : ∀ ds, allFs ds = true → frzs ds = ds
  | [], _ => rfl
  | d :: ds, h => by
    simp only [allFs, Bool.and_eq_true] at h
    rw [frzs, frz_id d h.1, frzs_id ds h.2]
end
theorem RTs.length {E : Hw} : ∀ {ds : List D} {vs : List V} {c : Cn}, RTs E ds vs c → ds.length = vs.length
  | [], _, _, h => by simp only [RTs] at h; rw [h.1]; rfl
  | d :: ds, _, _, h => by
    simp only [RTs] at h
    obtain ⟨v, vs', c1, c2, rfl, r, q, rfl⟩ := h
    simp [RTs.length q]
end VI

namespace VI
open PySem L2

/-! ### slots, shared objects, the state -/
def RE (E : Hw) : List (Option D) → L2.St → Cn → Prop
  | [], σ, c => σ = [] ∧ c = cz
  | none :: ρ, σ, c => ∃ x σ', σ = x :: σ' ∧ RE E ρ σ' c
  | some d :: ρ, σ, c => ∃ v σ' c1 c2, σ = some v :: σ' ∧ RT E d v c1 ∧ RE E ρ σ' c2 ∧ c = cadd c1 c2
/-- a shared object: its class, its attributes -/
structure RO where
  cls : Str
  fn : List Str
  ds : List D
def RM (E : Hw) : List RO → List Addr → Cn → Prop
  | [], A, c => A = [] ∧ c = cz
  | r :: μ, A, c => ∃ a A' dx fs c1 c2, A = a :: A' ∧ E.H a = some (.ins (E.ct r.cls) dx fs) ∧ fs.map (·.1) = r.fn ∧ RTs E r.ds (fs.map (·.2)) c1 ∧ RM E μ A' c2 ∧ c = cadd (one a) (cadd c1 c2)
structure VS where
  ρ : List (Option D)
  μ : List RO
theorem RE.mono {E E' : Hw} : ∀ {ρ : List (Option D)} {σ : L2.St} {c : Cn}, Step E c E' → RE E ρ σ c → RE E' ρ σ c
  | [], _, _, _, h => h
  | none :: ρ, _, _, s, h => by
    simp only [RE] at h ⊢
    obtain ⟨x, σ', e, r⟩ := h
    exact ⟨x, σ', e, RE.mono s r⟩
  | some d :: ρ, _, _, s, h => by
    simp only [RE] at h ⊢
    obtain ⟨v, σ', c1, c2, e, r, q, rfl⟩ := h
    exact ⟨v, σ', c1, c2, e, RT.mono d (s.less fun p hp => by simp only [cadd]; omega) r, RE.mono (s.less fun p hp => by simp only [cadd]; omega) q, rfl⟩
theorem RM.mono {E E' : Hw} : ∀ {μ : List RO} {A : List Addr} {c : Cn}, Step E c E' → RM E μ A c → RM E' μ A c
  | [], _, _, _, h => h
  | r :: μ, _, _, s, h => by
    simp only [RM] at h ⊢
    obtain ⟨a, A', dx, fs, c1, c2, e, q, z, t, m, rfl⟩ := h
    refine ⟨a, A', dx, fs, c1, c2, e, ?_, z, RTs.mono _ (s.less fun p hp => by simp only [cadd]; omega) t, RM.mono (s.less fun p hp => by simp only [cadd]; omega) m, rfl⟩
    rw [s.ct]
    exact s.h a _ (by simp [cadd, one]) q
theorem RE.length {E : Hw} : ∀ {ρ : List (Option D)} {σ : L2.St} {c : Cn}, RE E ρ σ c → ρ.length = σ.length
  | [], _, _, h => by simp only [RE] at h; rw [h.1]; rfl
  | none :: ρ, _, _, h => by
    simp only [RE] at h
    obtain ⟨x, σ', rfl, r⟩ := h
    simp [RE.length r]
  | some d :: ρ, _, _, h => by
    simp only [RE] at h
    obtain ⟨v, σ', c1, c2, rfl, r, q, rfl⟩ := h
    simp [RE.length q]
theorem RE.dom {E : Hw} : ∀ {ρ : List (Option D)} {σ : L2.St} {c : Cn}, RE E ρ σ c → ∀ p, c p ≠ 0 → E.H p ≠ none
  | [], _, _, h, p, n => by simp only [RE] at h; rw [h.2] at n; exact absurd rfl n
  | none :: ρ, _, _, h, p, n => by
    simp only [RE] at h
    obtain ⟨x, σ', rfl, r⟩ := h
    exact RE.dom r p n
  | some d :: ρ, _, _, h, p, n => by
    simp only [RE] at h
    obtain ⟨v, σ', c1, c2, rfl, r, q, rfl⟩ := h
    by_cases z : c1 p = 0
    · exact RE.dom q p (by simpa [cadd, z] using n)
    · exact RT.dom d r p z
theorem RM.dom {E : Hw} : ∀ {μ : List RO} {A : List Addr} {c : Cn}, RM E μ A c → ∀ p, c p ≠ 0 → E.H p ≠ none
  | [], _, _, h, p, n => by simp only [RM] at h; rw [h.2] at n; exact absurd rfl n
  | r :: μ, _, _, h, p, n => by
    simp only [RM] at h
    obtain ⟨a, A', dx, fs, c1, c2, e, q, z, t, m, rfl⟩ := h
    by_cases w : p = a
    · rw [w, q]; exact fun y => nomatch y
    · by_cases z : c1 p = 0
      · exact RM.dom m p (by simpa [cadd, one, w, z] using n)
      · exact RTs.dom _ t p z
/-- a slot taken out, and anything put in -/
theorem RE.at {E : Hw} : ∀ {ρ : List (Option D)} {σ : L2.St} {c : Cn} {i : Nat} {d : D}, RE E ρ σ c → ρ[i]? = some (some d) →
    ∃ v c1 c2, σ[i]? = some (some v) ∧ RT E d v c1 ∧ c = cadd c1 c2 ∧ RE E (ρ.set i none) σ c2
  | [], _, _, _, _, _, e => by simp at e
  | none :: ρ, _, _, 0, _, _, e => by simp at e
  | none :: ρ, _, _, i + 1, d, h, e => by
    simp only [RE] at h
    obtain ⟨x, σ', rfl, r⟩ := h
    obtain ⟨v, c1, c2, e1, t, ec, q⟩ := RE.at (i := i) r (by simpa using e)
    exact ⟨v, c1, c2, by simpa using e1, t, ec, by simp only [List.set_cons_succ, RE]; exact ⟨x, σ', rfl, q⟩⟩
  | some d0 :: ρ, _, _, 0, d, h, e => by
    simp only [RE] at h
    obtain ⟨v, σ', c1, c2, rfl, r, q, rfl⟩ := h
    have ed : d0 = d := by simpa using e
    subst ed
    exact ⟨v, c1, c2, rfl, r, rfl, by simp only [List.set_cons_zero, RE]; exact ⟨_, _, rfl, q⟩⟩
  | some d0 :: ρ, _, _, i + 1, d, h, e => by
    simp only [RE] at h
    obtain ⟨v, σ', c1, c2, rfl, r, q, rfl⟩ := h
    obtain ⟨v', c1', c2', e1, t, rfl, q'⟩ := RE.at (i := i) q (by simpa using e)
    refine ⟨v', c1', cadd c1 c2', by simpa using e1, t, by funext p; simp only [cadd]; omega, ?_⟩
    simp only [List.set_cons_succ, RE]
    exact ⟨v, σ', c1, c2', rfl, r, q', rfl⟩
/-- a slot forgotten -/
theorem RE.drop {E : Hw} : ∀ {ρ : List (Option D)} {σ : L2.St} {c : Cn} (i : Nat), RE E ρ σ c → ∃ c', (∀ p, c' p ≤ c p) ∧ RE E (ρ.set i none) σ c'
  | [], _, c, _, h => ⟨c, fun _ => Nat.le_refl _, h⟩
  | none :: ρ, _, c, 0, h => ⟨c, fun _ => Nat.le_refl _, h⟩
  | none :: ρ, _, _, i + 1, h => by
    simp only [RE] at h
    obtain ⟨x, σ', rfl, r⟩ := h
    obtain ⟨c', le, q⟩ := RE.drop i r
    exact ⟨c', le, by simp only [List.set_cons_succ, RE]; exact ⟨x, σ', rfl, q⟩⟩
  | some d0 :: ρ, _, _, 0, h => by
    simp only [RE] at h
    obtain ⟨v, σ', c1, c2, rfl, r, q, rfl⟩ := h
    exact ⟨c2, fun p => by simp only [cadd]; omega, by simp only [List.set_cons_zero, RE]; exact ⟨_, _, rfl, q⟩⟩
  | some d0 :: ρ, _, _, i + 1, h => by
    simp only [RE] at h
    obtain ⟨v, σ', c1, c2, rfl, r, q, rfl⟩ := h
    obtain ⟨c', le, q'⟩ := RE.drop i q
    refine ⟨cadd c1 c', fun p => by have := le p; simp only [cadd]; omega, ?_⟩
    simp only [List.set_cons_succ, RE]
    exact ⟨v, σ', c1, c', rfl, r, q', rfl⟩
/-- a value put into an empty slot -/
theorem RE.put {E : Hw} : ∀ {ρ : List (Option D)} {σ : L2.St} {c c1 : Cn} {i : Nat} {d : D} {v : V}, RE E ρ σ c → ρ[i]? = some none → RT E d v c1 → RE E (ρ.set i (some d)) (σ.set i (some v)) (cadd c1 c)
  | [], _, _, _, _, _, _, _, e, _ => by simp at e
  | none :: ρ, _, _, _, 0, d, v, h, e, r => by
    simp only [RE] at h
    obtain ⟨x, σ', rfl, q⟩ := h
    simp only [List.set_cons_zero, RE]
    exact ⟨v, σ', _, _, rfl, r, q, rfl⟩
  | none :: ρ, _, _, _, i + 1, d, v, h, e, r => by
    simp only [RE] at h
    obtain ⟨x, σ', rfl, q⟩ := h
    simp only [List.set_cons_succ, RE]
    exact ⟨x, _, rfl, RE.put q (by simpa using e) r⟩
  | some d0 :: ρ, _, _, _, 0, _, _, _, e, _ => by simp at e
  | some d0 :: ρ, _, _, c1, i + 1, d, v, h, e, r => by
    simp only [RE] at h
    obtain ⟨v', σ', c1', c2', rfl, r', q, rfl⟩ := h
    simp only [List.set_cons_succ, RE]
    exact ⟨v', _, c1', cadd c1 c2', rfl, r', RE.put q (by simpa using e) r, by funext p; simp only [cadd]; omega⟩
/-- what stands in σ at an empty slot does not matter -/
theorem RE.any {E : Hw} : ∀ {ρ : List (Option D)} {σ : L2.St} {c : Cn} {i : Nat} {x : Option V}, RE E ρ σ c → ρ[i]? = some none → RE E ρ (σ.set i x) c
  | [], _, _, _, _, _, e => by simp at e
  | none :: ρ, _, _, 0, x, h, e => by
    simp only [RE] at h ⊢
    obtain ⟨y, σ', rfl, q⟩ := h
    exact ⟨x, σ', rfl, q⟩
  | none :: ρ, _, _, i + 1, x, h, e => by
    simp only [RE] at h ⊢
    obtain ⟨y, σ', rfl, q⟩ := h
    exact ⟨y, _, rfl, RE.any q (by simpa using e)⟩
  | some d0 :: ρ, _, _, 0, _, _, e => by simp at e
  | some d0 :: ρ, _, _, i + 1, x, h, e => by
    simp only [RE] at h ⊢
    obtain ⟨v', σ', c1', c2', rfl, r', q, rfl⟩ := h
    exact ⟨v', _, c1', c2', rfl, r', RE.any q (by simpa using e), rfl⟩

/-- THE STATE is borne: ce is what is owned elsewhere (values on the way, callers) -/
structure Wd (E : Hw) (σ : L2.St) (s : VS) (ce : Cn) : Prop where
  same : ∀ a o, E.F a = some o → E.H a = some o
  own : ∃ c1 c2, RE E s.ρ σ c1 ∧ RM E s.μ E.A c2 ∧ (∀ p, c1 p + c2 p + ce p ≤ 1) ∧ (∀ p, c1 p + c2 p + ce p ≠ 0 → E.F p = none)
  ex : ∀ p, ce p ≠ 0 → E.H p ≠ none
theorem Wd.less {E : Hw} {σ : L2.St} {s : VS} {ce c' : Cn} (w : Wd E σ s ce) (h : ∀ p, c' p ≤ ce p) : Wd E σ s c' := by
  obtain ⟨c1, c2, a, b, t, f⟩ := w.own
  exact ⟨w.same, ⟨c1, c2, a, b, fun p => by have := h p; have := t p; omega, fun p n => f p (by have := h p; omega)⟩, fun p n => w.ex p (by have := h p; omega)⟩
/-- the exception as it lies: x the class and its fields -/
structure EXC where
  cls : Str
  fn : List Str
  ds : List D
inductive Res (α : Type) where
  | ok (a : α) (s : VS)
  | ex (x : EXC) (s : VS)
abbrev M (α : Type) := VS → Option (Res α)
def M.ret {α : Type} (a : α) : M α := fun s => some (.ok a s)
def M.bnd {α β : Type} (m : M α) (f : α → M β) : M β := fun s => match m s with
  | some (.ok a s') => f a s'
  | some (.ex x s') => some (.ex x s')
  | none => none
/-- an exception's own dict: where it stands and what it bears -/
def ExR (E : Hw) (x : EXC) (cls : Value) (d : Option Addr) : Prop := cls = .ref (E.ct x.cls) ∧
  ((x.fn = [] ∧ x.ds = [] ∧ d = none) ∨ ∃ dd fs, d = some dd ∧ E.H dd = some (.xd fs) ∧ fs.map (·.1) = x.fn ∧ RTs E x.ds (fs.map (·.2)) cz)
/-- what is wanted of an exception that leaves -/
abbrev WY := L2.St → VS → EXC → Value → Option Addr → Hp → Prop
/-- a run of m from a state: Q of every end -/
def RA {α β : Type} (W : WX) (Rel : Hw → α → β → Cn → Prop) (m : M α) (σ : L2.St) (E : Hw) (s : VS) (ce : Cn) (Q : β → Hp → Prop) : Prop := match m s with
    | some (.ok a s') => ∀ (b : β) (E' : Hw) (c : Cn), Step E ce E' → Rel E' a b c → Wd E' σ s' (cadd ce c) → Q b E'.H
    | some (.ex x s') => ∀ (cls : Value) (d : Option Addr) (E' : Hw), Step E ce E' → ExR E' x cls d → Wd E' σ s' ce → W cls d σ E'.H
    | none => False
def Run {α β : Type} (K : PySem.W.Frag) (ct : Str → Addr) (W : WX) (Rel : Hw → α → β → Cn → Prop) (m : M α) (σ : L2.St) (H : Hp) (Q : β → Hp → Prop) : Prop :=
  ∃ (E : Hw) (s : VS) (ce : Cn), E.K = K ∧ E.ct = ct ∧ E.H = H ∧ Wd E σ s ce ∧ RA W Rel m σ E s ce Q
end VI

/-! The own small language: its expressions and statements, and what they do to data. -/
namespace VI
open PySem L2

/-- built-in operations -/
inductive Pr where
  | add | sub | mul | mod | fdiv | pow | neg
  | eq | ne | lt | le | gt | ge | isN | notN | isB | notB
  | mem | nmem | memd | nmemd
  | ix | ixd
  | len | lend | list | tuple | int1 | abs | max2 | min2 | sum | all | any
  | isi (T : String)
  | get2 | lrng | str1
  deriving DecidableEq
/-- operations that change a list or a dict that stands in a slot or an attribute -/
inductive Mp where
  | app | popl | popa | rev | clr | ext | setl | setd | insr
  deriving DecidableEq
/-- what is walked -/
inductive Sk where
  | val | tupS | strS | rng1 | rng2 | enum | zip
  deriving DecidableEq

inductive Ex where
  | var (i : Nat) | frv (i : Nat) | mov (i : Nat)
  | con (d : D) | glo (x : Str)
  | fld (C : Str) (q : Ex) (f : Str)
  | pr (p : Pr) (as : List Ex)
  | lst (as : List Ex) | tup (as : List Ex) | dic0
  | not (a : Ex) | and (a b : Ex) | or (a b : Ex) | ife (c a b : Ex)
  | tru (q : Ex)
  | call (f : Nat) (as : List Ex)
  | meth (C m : Str) (f : Nat) (q : Ex) (as : List Ex)
  | mk (C : Str) (f : Nat) (fz : Bool) (as : List Ex)
  | io (i : Nat)
  | mt (m : Mp) (tg : Ex) (as : List Ex)
  | slc (a : Ex) (lo hi : List Ex)
  | joi (z : Str) (a : Ex)
  | dgt (a k x : Ex)
  | lc (tg : List Nat) (sk : Sk) (src : List Ex) (cond : List Ex) (e : Ex)
  | dc (tg : List Nat) (sk : Sk) (src : List Ex) (k e : Ex)
  | chn (p q : Pr) (a b c : Ex)

/-- my limit of lengths -/
abbrev lim : Nat := 1000000
def keyOf : D → Option Key
  | .int i => some (.inl i)
  | .str s => some (.inr s)
  | _ => none
def keyD : Key → D
  | .inl i => .int i
  | .inr s => .str s
def look {α β : Type} [DecidableEq α] : List α → List β → α → Option β
  | k :: ks, d :: ds, x => if k = x then some d else look ks ds x
  | _, _, _ => none
mutual
def toPy : D → Option PyData
  | .non => some .none
  | .bl b => some (.bool b)
  | .int i => some (.int i)
  | .str s => some (.str s)
  | .lst _ ds => (toPys ds).map .list
  | .tup ds => (toPys ds).map .tuple
  | _ => none
def toPys : List D → Option (List PyData)
  | [] => some []
  | d :: ds => match toPy d, toPys ds with
    | some x, some xs => some (x :: xs)
    | _, _ => none
end
/-- == of data -/
def eqD (a b : D) : Option Bool := match toPy a, toPy b with
  | some x, some y => if SeqAt.shaped x && SeqAt.shaped y then some (PyData.eqv x y) else none
  | _, _ => none
def memD (a : D) (ds : List D) : Option Bool := match toPy a, toPys ds with
  | some x, some ys => if SeqAt.shaped x && SeqAt.shaped (.list ys) then some (ys.any fun z => PyData.eqv z x) else none
  | _, _ => none
/-- x in xs where xs is a tuple: flat things only -/
def flatD : D → Bool
  | .non => true | .bl _ => true | .int _ => true | .str _ => true
  | _ => false
def eqF : D → D → Bool
  | .non, .non => true
  | .bl a, .bl b => a == b
  | .bl a, .int b => (if a then 1 else 0) == b
  | .int a, .bl b => a == (if b then 1 else 0)
  | .int a, .int b => a == b
  | .str a, .str b => a == b
  | _, _ => false
def memT (a : D) (ds : List D) : Option Bool := match toPy a, toPys ds with
  | some x, some ys => if SeqAt.shaped x && SeqAt.shaped (.tuple ys) then some (ys.any fun z => PyData.eqv z x) else none
  | _, _ => none
def memO (a b : D) : Option Bool := match a, b with
  | a, .lst _ ds => memD a ds
  | a, .tup ds => if flatD a && ds.all flatD then some (ds.any fun y => eqF y a) else memT a ds
  | .str x, .str z => if x.cps.size = 1 then some (decide (x.cps.getD 0 0 ∈ z.cps.toList)) else none
  | _, _ => none
def memdD (a b : D) : Option Bool := match b with
  | .dic _ ks ds => (keyOf a).map fun k => (look ks ds k).isSome
  | _ => none
def kindD : D → Option String
  | .non => some "NoneType"
  | .bl _ => some "bool"
  | .int _ => some "int"
  | .str _ => some "str"
  | .lst _ _ => some "list"
  | .tup _ => some "tuple"
  | .dic _ _ _ => some "dict"
  | _ => none
def isiD (T : String) (d : D) : Option Bool := (kindD d).bind fun k => kitB k T
def intsD : List D → Option (List Int)
  | [] => some []
  | .int i :: ds => (intsD ds).map (i :: ·)
  | _ => none
def boolsD : List D → Option (List Bool)
  | [] => some []
  | .bl i :: ds => (boolsD ds).map (i :: ·)
  | _ => none
def strsD : List D → Option (List Str)
  | [] => some []
  | .str i :: ds => (strsD ds).map (i :: ·)
  | _ => none
def okA (d : D) : Option D := if allF d then some d else none
def cutD (ds : List D) (lo hi : Option Int) : List D := (ds.drop (HT.sIx ds.length 0 lo)).take (HT.sIx ds.length ds.length hi - HT.sIx ds.length 0 lo)

def addD : D → D → Option D
  | .int i, .int j => some (.int (i + j))
  | .int i, .bl k => some (.int (i + (if k then 1 else 0)))
  | .str x, .str y => if x.length + y.length ≤ lim then some (.str (x ++ y)) else none
  | .lst _ xs, .lst _ ys => if allFs xs && allFs ys && decide (xs.length + ys.length ≤ lim) then some (.lst true (xs ++ ys)) else none
  | _, _ => none
def mulD : D → D → Option D
  | .str z, .int n => if z.length ≤ 4000 ∧ -(2 ^ 63) ≤ n ∧ n ≤ 4000 then some (.str (Txt.mul z n)) else none
  | .int i, .int j => if i.natAbs.log2 + j.natAbs.log2 < 1000000 then some (.int (i * j)) else none
  | .lst _ xs, .int k => if allFs xs && decide (-(2 ^ 63) ≤ k ∧ k < 2 ^ 63 ∧ xs.length * k.toNat ≤ lim) then some (.lst true (List.replicate k.toNat xs).flatten) else none
  | _, _ => none
def ixD : D → D → Option D
  | .lst _ ds, .int i => (atI ds i).bind okA
  | .tup ds, .int i => (atI ds i).bind okA
  | .scr ns, .int i => (atI ns i).map .int
  | .str z, .int i => if z.length ≤ lim then (atI z.cps.toList i).map fun c => .str ⟨#[c]⟩ else none
  | _, _ => none
def ixdD : D → D → Option D
  | .dic _ ks ds, k => (keyOf k).bind fun k => (look ks ds k).bind okA
  | _, _ => none
def slD (x : D) (lo hi : Option Int) : Option D := match x with
  | .lst _ ds => if allFs ds then some (.lst true (cutD ds lo hi)) else none
  | .str z => if z.length ≤ lim then some (.str (cutS z lo hi)) else none
  | _ => none
def lenD : D → Option Int
  | .lst _ ds => some ds.length
  | .tup ds => some ds.length
  | .scr ns => some ns.length
  | .str z => if z.length ≤ lim then some z.length else none
  | _ => none
def lendD : D → Option Int
  | .dic _ ks _ => some ks.length
  | _ => none
def cmpD (f : Int → Int → Bool) : D → D → Option D
  | .int i, .int j => some (.bl (f i j))
  | _, _ => none
def joinD : D → D → Option D
  | .str a, .lst _ ds => (strsD ds).bind fun ys => if (ys.map (·.length)).sum + ys.length * a.length ≤ lim then some (.str (Txt.join a ys)) else none
  | _, _ => none
def isNon : D → Bool
  | .non => true
  | _ => false

def subD : D → D → Option D
  | .int i, .int j => some (.int (i - j))
  | _, _ => none
def modD : D → D → Option D
  | .int i, .int j => if 0 < j then some (.int (i % j)) else none
  | _, _ => none
def fdivD : D → D → Option D
  | .int i, .int j => if 0 < j ∧ j.natAbs.log2 < 9000 then some (.int (i / j)) else none
  | _, _ => none
def powD : D → D → Option D
  | .int i, .int j => if 0 ≤ j ∧ j ≤ 1000000 ∧ i.natAbs < 2 ^ 64 then some (.int (i ^ j.toNat)) else none
  | _, _ => none
def negD : D → Option D
  | .int i => some (.int (-i))
  | _ => none
def isBD : D → D → Option D
  | .bl a, .bl b => some (.bl (decide (a = b)))
  | _, _ => none
def notBD : D → D → Option D
  | .bl a, .bl b => some (.bl (!decide (a = b)))
  | _, _ => none
def listD : D → Option D
  | .lst _ ds => if allFs ds then some (.lst true ds) else none
  | .tup ds => if allFs ds then some (.lst true ds) else none
  | _ => none
def tupleD : D → Option D
  | .lst _ ds => if allFs ds then some (.tup ds) else none
  | _ => none
def int1D : D → Option D
  | .int i => some (.int i)
  | .bl k => some (.int (if k then 1 else 0))
  | _ => none
def absD : D → Option D
  | .int i => some (.int (if i < 0 then -i else i))
  | _ => none
def max2D : D → D → Option D
  | .int i, .int j => some (.int (if j > i then j else i))
  | _, _ => none
def min2D : D → D → Option D
  | .int i, .int j => some (.int (if j < i then j else i))
  | _, _ => none
def sumD : D → Option D
  | .lst _ ds => (intsD ds).map fun ns => .int ns.sum
  | _ => none
def allD : D → Option D
  | .lst _ ds => (boolsD ds).map fun bs => .bl (bs.all id)
  | _ => none
def anyD : D → Option D
  | .lst _ ds => (boolsD ds).map fun bs => .bl (bs.any id)
  | _ => none
def get2D : D → D → D → Option D
  | .dic _ ks ds, k, x => (keyOf k).bind fun k => match look ks ds k with
    | some d => okA d
    | none => okA x
  | _, _, _ => none
def lrngD : D → Option D
  | .int n => if -1000000 ≤ n ∧ n ≤ lim then some (.lst true ((List.range n.toNat).map fun i : Nat => .int (i : Int))) else none
  | _ => none
def strD : D → Option D
  | .int i => if i.natAbs.log2 < 1920 then some (.str (toString i)) else none
  | _ => none
def fn1 (f : D → Option D) : List D → Option D
  | [a] => f a
  | _ => none
def fn2 (f : D → D → Option D) : List D → Option D
  | [a, b] => f a b
  | _ => none
def fn3 (f : D → D → D → Option D) : List D → Option D
  | [a, b, c] => f a b c
  | _ => none
def Pr.fn : Pr → List D → Option D
  | .add => fn2 addD | .sub => fn2 subD | .mul => fn2 mulD | .mod => fn2 modD | .fdiv => fn2 fdivD | .pow => fn2 powD | .neg => fn1 negD
  | .eq => fn2 fun a b => (eqD a b).map .bl
  | .ne => fn2 fun a b => (eqD a b).map fun k => .bl (!k)
  | .lt => fn2 (cmpD fun i j => decide (i < j)) | .le => fn2 (cmpD fun i j => decide (i ≤ j)) | .gt => fn2 (cmpD fun i j => decide (j < i)) | .ge => fn2 (cmpD fun i j => decide (j ≤ i))
  | .isN => fn1 fun a => some (.bl (isNon a)) | .notN => fn1 fun a => some (.bl (!isNon a))
  | .isB => fn2 isBD | .notB => fn2 notBD
  | .mem => fn2 fun a b => (memO a b).map .bl
  | .nmem => fn2 fun a b => (memO a b).map fun k => .bl (!k)
  | .memd => fn2 fun a b => (memdD a b).map .bl
  | .nmemd => fn2 fun a b => (memdD a b).map fun k => .bl (!k)
  | .ixd => fn2 ixdD | .lend => fn1 fun a => (lendD a).map .int
  | .ix => fn2 ixD
  | .len => fn1 fun a => (lenD a).map .int
  | .list => fn1 listD | .tuple => fn1 tupleD | .int1 => fn1 int1D | .abs => fn1 absD | .max2 => fn2 max2D | .min2 => fn2 min2D
  | .sum => fn1 sumD | .all => fn1 allD | .any => fn1 anyD
  | .isi T => fn1 fun a => (isiD T a).map .bl
  | .get2 => fn3 get2D | .lrng => fn1 lrngD | .str1 => fn1 strD
theorem fn1_some {f : D → Option D} {ds : List D} {d : D} (h : fn1 f ds = some d) : ∃ a, ds = [a] ∧ f a = some d := by
  match ds, h with
  | [a], h => exact ⟨a, rfl, h⟩
theorem fn2_some {f : D → D → Option D} {ds : List D} {d : D} (h : fn2 f ds = some d) : ∃ a b, ds = [a, b] ∧ f a b = some d := by
  match ds, h with
  | [a, b], h => exact ⟨a, b, rfl, h⟩
theorem fn3_some {f : D → D → D → Option D} {ds : List D} {d : D} (h : fn3 f ds = some d) : ∃ a b c, ds = [a, b, c] ∧ f a b c = some d := by
  match ds, h with
  | [a, b, c], h => exact ⟨a, b, c, rfl, h⟩

/-- these make nothing new -/
def Pr.quiet : Pr → Bool
  | .add => false | .mul => false | .list => false | .tuple => false | .lrng => false
  | _ => true

/-- all at the key -/
def putAt {α : Type} [DecidableEq α] : List α → List D → α → D → List D
  | k :: ks, d :: ds, x, v => (if k = x then v else d) :: putAt ks ds x v
  | _, _, _, _ => []
/-- the first at the key -/
def putOne {α : Type} [DecidableEq α] : List α → List D → α → D → List D
  | k :: ks, d :: ds, x, v => if k = x then v :: ds else d :: putOne ks ds x v
  | _, _, _, _ => []
/-- a changing operation on an owned thing: what it becomes, what comes out -/
def Mp.fn : Mp → D → List D → Option (D × D)
  | .app, .lst true ds, [d] => if ds.length < lim then some (.lst true (ds ++ [d]), .non) else none
  | .popl, .lst true ds, [] => (ds[ds.length - 1]?).bind fun d => (okA d).map fun d => (.lst true ds.dropLast, d)
  | .popa, .lst true ds, [.int i] => if -(2 ^ 63) ≤ i ∧ i < 2 ^ 63 then (ixN ds.length i).bind fun k => (ds[k]?).bind fun d => (okA d).map fun d => (.lst true (ds.eraseIdx k), d) else none
  | .rev, .lst true ds, [] => some (.lst true ds.reverse, .non)
  | .clr, .lst true _, [] => some (.lst true [], .non)
  | .insr, .lst true ds, [.int i, d] => if ds.length < lim ∧ 0 ≤ i ∧ i < 2 ^ 63 then some (.lst true (ds.take i.toNat ++ [d] ++ ds.drop i.toNat), .non) else none
  | .setl, .lst true ds, [d, .int k] => (ixN ds.length k).map fun j => (.lst true (ds.set j d), .non)
  | .setd, .dic true ks ds, [d, k] => (keyOf k).bind fun k => if ks.length < lim then
      some (if (look ks ds k).isSome then (.dic true ks (putAt ks ds k d), .non) else (.dic true (ks ++ [k]) (ds ++ [d]), .non)) else none
  | _, _, _ => none

def Mp.kind : Mp → D → Bool
  | .setd, .dic _ _ _ => true
  | .setd, _ => false
  | _, .lst _ _ => true
  | _, _ => false
/-- the end of a call -/
inductive CR where
  | ok (d : D) (ps : List (Option D)) (μ : List RO)
  | ex (x : EXC) (ps : List (Option D)) (μ : List RO)
structure Tab where
  glo : Str → Option D
  call : Nat → List D → List RO → Option CR
  fuel : Nat

mutual
def isQ : Ex → Bool
  | .var _ => true | .con _ => true | .glo _ => true
  | .fld _ q _ => isQ q
  | .pr p as => p.quiet && isQs as
  | _ => false
def isQs : List Ex → Bool
  | [] => true
  | a :: as => isQ a && isQs as
end
mutual
def evq (T : Tab) (s : VS) : Ex → Option D
  | .var i => match s.ρ[i]? with
    | some (some d) => some d
    | _ => none
  | .con d => some d
  | .glo x => T.glo x
  | .fld C q f => match evq T s q with
    | some (.ref k) => (s.μ[k]?).bind fun r => if r.cls = C then look r.fn r.ds f else none
    | some (.ins C' fn ds) => if C' = C then look fn ds f else none
    | _ => none
  | .pr p as => (evqs T s as).bind p.fn
  | _ => none
def evqs (T : Tab) (s : VS) : List Ex → Option (List D)
  | [] => some []
  | a :: as => match evq T s a, evqs T s as with
    | some d, some ds => some (d :: ds)
    | _, _ => none
end
/-- an argument of an operation: its value, or the slot where it stands -/
inductive AV where
  | val (d : D) | sl (i : Nat)
def AV.get (s : VS) : AV → Option D
  | .val d => some d
  | .sl i => match s.ρ[i]? with
    | some (some d) => some d
    | _ => none
def AV.gets (s : VS) : List AV → Option (List D)
  | [] => some []
  | a :: as => match a.get s, AV.gets s as with
    | some d, some ds => some (d :: ds)
    | _, _ => none
def M.fail {α : Type} : M α := fun _ => none
def M.opt {α : Type} (o : Option α) : M α := fun s => o.map fun a => .ok a s
def M.get : M VS := fun s => some (.ok s s)
def frzM (d : D) : M D := M.ret (frz d)
def setSlot (i : Nat) (d : Option D) : M Unit := fun s => some (.ok () ⟨s.ρ.set i d, s.μ⟩)
/-- the items of a source -/
def srcD (sk : Sk) (ds : List D) : Option (List D) := match sk, ds with
  | .val, [.lst false ds] => some ds
  | .val, [.scr ns] => some (ns.map .int)
  | .tupS, [.tup ds] => if allFs ds then some ds else none
  | .strS, [.str z] => some (z.cps.toList.map fun c => .str ⟨#[c]⟩)
  | .rng1, [.int n] => if -1000000 ≤ n ∧ n ≤ lim then some ((List.range n.toNat).map fun i : Nat => .int (i : Int)) else none
  | .rng2, [.int a, .int b] => if (-1000000 ≤ a ∧ a ≤ lim) ∧ -1000000 ≤ b ∧ b ≤ lim then some ((List.range (b - a).toNat).map fun i : Nat => .int (a + (i : Int))) else none
  | .enum, [.lst false ds] => some ((List.range ds.length).zipWith (fun (i : Nat) d => .tup [.int (i : Int), d]) ds)
  | .zip, [.lst false xs, .lst false ys] => some (xs.zipWith (fun x y => .tup [x, y]) ys)
  | _, _ => none
/-- names of a target get their values -/
def bindT (tg : List Nat) (d : D) (ρ : List (Option D)) : Option (List (Option D)) := match tg with
  | [i] => some (ρ.set i (some d))
  | [i, j] => match d with
    | .tup [x, y] => some ((ρ.set i (some x)).set j (some y))
    | _ => none
  | [i, j, k] => match d with
    | .tup [x, y, z] => some (((ρ.set i (some x)).set j (some y)).set k (some z))
    | _ => none
  | _ => none
def wipeR (ρ : List (Option D)) : List Nat → List (Option D)
  | [] => ρ
  | v :: vs => (wipeR ρ vs).set v none
def loopC (f : D → M (Option D)) : List D → List D → M (List D)
  | [], acc => M.ret acc
  | x :: xs, acc => (f x).bnd fun r => match r with
    | some d => if acc.length < lim then loopC f xs (acc ++ [d]) else M.fail
    | none => loopC f xs acc
def lcBody (tg : List Nat) (mc : M Bool) (me : M D) : D → M (Option D) := fun d s => match bindT tg d (wipeR s.ρ tg) with
  | some ρ => (mc.bnd fun b => if b then me.bnd fun d => M.ret (some (frz d)) else M.ret none) ⟨ρ, s.μ⟩
  | none => none
def lcEnd (tg : List Nat) : Option (Res (List D)) → Option (Res D)
  | some (.ok ds s') => some (.ok (.lst true ds) ⟨wipeR s'.ρ tg, s'.μ⟩)
  | _ => none
def lcM (tg : List Nat) (mc : M Bool) (me : M D) (items : List D) : M D := fun s => lcEnd tg (loopC (lcBody tg mc me) items [] ⟨wipeR s.ρ tg, s.μ⟩)
def dcBody (tg : List Nat) (mk me : M D) : D → M (Key × D) := fun d s => match bindT tg d (wipeR s.ρ tg) with
  | some ρ => (mk.bnd fun k => match keyOf (frz k) with
    | some k => me.bnd fun d => M.ret (k, frz d)
    | none => M.fail) ⟨ρ, s.μ⟩
  | none => none
def dicSet (ks : List Key) (ds : List D) (k : Key) (d : D) : List Key × List D := if (look ks ds k).isSome then (ks, putAt ks ds k d) else (ks ++ [k], ds ++ [d])
def loopK (f : D → M (Key × D)) : List D → List Key × List D → M (List Key × List D)
  | [], acc => M.ret acc
  | x :: xs, acc => (f x).bnd fun kd => if acc.1.length < lim then loopK f xs (dicSet acc.1 acc.2 kd.1 kd.2) else M.fail
def dcEnd (tg : List Nat) : Option (Res (List Key × List D)) → Option (Res D)
  | some (.ok ds s') => some (.ok (.dic true ds.1 ds.2) ⟨wipeR s'.ρ tg, s'.μ⟩)
  | _ => none
def dcM (tg : List Nat) (mk me : M D) (items : List D) : M D := fun s => dcEnd tg (loopK (dcBody tg mk me) items ([], []) ⟨wipeR s.ρ tg, s.μ⟩)
/-- the shared objects' attributes: one changed -/
def putFd : List Str → List D → Str → D → List Str × List D
  | g :: fn, x :: ds, f, d => if g = f then (g :: fn, d :: ds) else (g :: (putFd fn ds f d).1, x :: (putFd fn ds f d).2)
  | _, _, f, d => ([f], [d])
def fput (r : RO) (f : Str) (d : D) : RO := ⟨r.cls, (putFd r.fn r.ds f d).1, (putFd r.fn r.ds f d).2⟩
mutual
def noRef : D → Bool
  | .lst _ ds => noRefs ds
  | .tup ds => noRefs ds
  | .dic _ _ ds => noRefs ds
  | .ins _ _ ds => noRefs ds
  | .ref _ => false
  | _ => true
def noRefs : List D → Bool
  | [] => true
  | d :: ds => noRef d && noRefs ds
end
/-- the callee's answer for the slots that were handed in -/
def backs : List AV → List (Option D) → List (Option D) → Option (List (Option D))
  | [], _, ρ => some ρ
  | .val _ :: as, _ :: ps, ρ => backs as ps ρ
  | .sl i :: as, some d :: ps, ρ => match ρ[i]? with
    | some none => backs as ps (ρ.set i (some d))
    | _ => none
  | _, _, _ => none
/-- what is handed in: the values, the slots without them -/
def hands : List AV → List (Option D) → Option (List D × List (Option D))
  | [], ρ => some ([], ρ)
  | .val d :: as, ρ => (hands as ρ).map fun (ds, ρ) => (d :: ds, ρ)
  | .sl i :: as, ρ => match ρ[i]? with
    | some (some d) => (hands as (ρ.set i none)).map fun (ds, ρ) => (d :: ds, ρ)
    | _ => none
/-- a call: closed where no shared object is handed in -/
def callM (T : Tab) (f : Nat) (as : List AV) : M D := fun s => match hands as s.ρ with
  | some (ds, ρ) =>
    if noRefs ds then match T.call f ds [] with
      | some (.ok d ps []) => (backs as ps ρ).map fun ρ => .ok d ⟨ρ, s.μ⟩
      | some (.ex x ps []) => (backs as ps ρ).map fun ρ => .ex x ⟨ρ, s.μ⟩
      | _ => none
    else match T.call f ds s.μ with
      | some (.ok d ps μ) => (backs as ps ρ).map fun ρ => .ok d ⟨ρ, μ⟩
      | some (.ex x ps μ) => (backs as ps ρ).map fun ρ => .ex x ⟨ρ, μ⟩
      | _ => none
  | none => none

/-- an instance of the class C without an attribute m, to be called upon -/
def isObjD (C m : Str) (s : VS) : D → Bool
  | .ref k => match s.μ[k]? with
    | some r => decide (r.cls = C) && r.fn.all fun x => decide (x ≠ m)
    | none => false
  | .ins C' fn _ => decide (C' = C) && fn.all fun x => decide (x ≠ m)
  | _ => false
/-- a new instance of C: frozen at once, or shared -/
def mkM (T : Tab) (C : Str) (f : Nat) (fz : Bool) (as : List AV) : M D := fun s => match hands as (s.ρ.map fun _ => none) with
  | some (ds, _) =>
    if fz then (if noRefs ds then match T.call f (.ref 0 :: ds) [⟨C, [], []⟩] with
      | some (.ok .non _ [r]) => if r.cls = C ∧ noRefs r.ds = true then some (.ok (.ins C r.fn (frzs r.ds)) s) else none
      | some (.ex x _ _) => if noRefs x.ds then some (.ex x s) else none
      | _ => none
      else none)
    else match T.call f (.ref s.μ.length :: ds) (s.μ ++ [⟨C, [], []⟩]) with
      | some (.ok .non _ μ) => some (.ok (.ref s.μ.length) ⟨s.ρ, μ⟩)
      | _ => none
  | none => none
/-- a slot that is occupied -/
def slotM (i : Nat) : M AV := fun s => match s.ρ[i]? with
  | some (some _) => some (.ok (.sl i) s)
  | _ => none
mutual
def ev (T : Tab) : Ex → M D
  | .frv i => fun s => match s.ρ[i]? with
    | some (some d) => some (.ok (frz d) ⟨s.ρ.set i (some (frz d)), s.μ⟩)
    | _ => none
  | .mov i => fun s => match s.ρ[i]? with
    | some (some d) => some (.ok d ⟨s.ρ.set i none, s.μ⟩)
    | _ => none
  | .var i => fun s => match s.ρ[i]? with
    | some (some d) => if allF d then some (.ok d s) else none
    | _ => none
  | .con d => fun s => if allF d then some (.ok d s) else none
  | .glo x => fun s => match T.glo x with
    | some d => if allF d then some (.ok d s) else none
    | none => none
  | .fld C q f => fun s => match evq T s (.fld C q f) with
    | some d => if allF d then some (.ok d s) else none
    | none => none
  | .pr p as => if p.quiet && isQs as then (fun s => match evq T s (.pr p as) with
      | some d => if allF d then some (.ok d s) else none
      | none => none)
    else (evA T as).bnd fun vs s => match AV.gets s vs with
      | some ds => (p.fn ds).map fun d => .ok d s
      | none => none
  | .lst as => (evs T as).bnd fun ds => if ds.length ≤ lim then M.ret (.lst true ds) else M.fail
  | .tup as => (evs T as).bnd fun ds => if ds.length ≤ lim then M.ret (.tup ds) else M.fail
  | .dic0 => M.ret (.dic true [] [])
  | .not a => (ev T a).bnd fun d => match d with
    | .bl b => M.ret (.bl (!b))
    | _ => M.fail
  | .and a b => (ev T a).bnd fun d => match d with
    | .bl true => ev T b
    | .bl false => M.ret (.bl false)
    | _ => M.fail
  | .or a b => (ev T a).bnd fun d => match d with
    | .bl true => M.ret (.bl true)
    | .bl false => ev T b
    | _ => M.fail
  | .ife c a b => (ev T c).bnd fun d => match d with
    | .bl true => ev T a
    | .bl false => ev T b
    | _ => M.fail
  | .call f as => (evG T as).bnd (callM T f)
  | .meth C m f q as => fun s => match evq T s q with
    | some d => if isObjD C m s d && allF d then ((evG T as).bnd fun vs => callM T f (.val d :: vs)) s else none
    | none => none
  | .mk C f fz as => (evG T as).bnd (mkM T C f fz)
  | .lc tg sk src cond e => ((evs T src).bnd fun ds => M.opt (srcD sk ds)).bnd fun items => lcM tg (evc T cond) (ev T e) items
  | .dc tg sk src k e => ((evs T src).bnd fun ds => M.opt (srcD sk ds)).bnd fun items => dcM tg (ev T k) (ev T e) items
  | .chn p q a b c => if p.quiet && q.quiet then (ev T a).bnd fun x => (ev T b).bnd fun y => match p.fn [frz x, frz y] with
    | some (.bl true) => (ev T c).bnd fun z => match q.fn [frz y, frz z] with
      | some d => if allF d then M.ret d else M.fail
      | none => M.fail
    | some (.bl false) => M.ret (.bl false)
    | _ => M.fail
    else M.fail
  | .mt m (.var i) as => fun s => match s.ρ[i]? with
    | some (some o) => if m.kind o then (((evs T as).bnd fun ds s => match s.ρ[i]? with
      | some (some o) => (m.fn o ds).map fun (o', d) => .ok d ⟨s.ρ.set i (some o'), s.μ⟩
      | _ => none) s) else none
    | _ => none
  | .slc a lo hi => ((match a with
      | .var i => slotM i
      | a => (ev T a).bnd fun d => M.ret (.val (frz d))) : M AV).bnd fun v => (evP T lo).bnd fun l => (evP T hi).bnd fun h s => ((v.get s).bind fun d => slD d l h).map fun d => .ok d s
  | .joi z a => (ev T a).bnd fun d => M.opt (joinD (.str z) d)
  | .dgt a k x => (ev T a).bnd fun d => match d with
    | .dic false ks ds => (ev T k).bnd fun k => (ev T x).bnd fun x => M.opt (get2D (.dic false ks ds) k (frz x))
    | _ => M.fail
  | _ => M.fail
/-- a part of a slice -/
def evP (T : Tab) : List Ex → M (Option Int)
  | [] => M.ret none
  | [a] => (ev T a).bnd fun d => match d with
    | .int i => M.ret (some i)
    | _ => M.fail
  | _ => M.fail
/-- frozen values -/
def evs (T : Tab) : List Ex → M (List D)
  | [] => M.ret []
  | a :: as => (ev T a).bnd fun d => (evs T as).bnd fun ds => M.ret (frz d :: ds)
def evA (T : Tab) : List Ex → M (List AV)
  | [] => M.ret []
  | .var i :: as => (slotM i).bnd fun d => (evA T as).bnd fun ds => M.ret (d :: ds)
  | a :: as => (ev T a).bnd fun d => (evA T as).bnd fun ds => M.ret (.val (frz d) :: ds)
def evG (T : Tab) : List Ex → M (List AV)
  | [] => M.ret []
  | .io i :: as => (slotM i).bnd fun d => (evG T as).bnd fun ds => M.ret (d :: ds)
  | a :: as => (ev T a).bnd fun d => (evG T as).bnd fun ds => M.ret (.val (frz d) :: ds)
/-- tests one behind the other -/
def evc (T : Tab) : List Ex → M Bool
  | [] => M.ret true
  | a :: as => (ev T a).bnd fun d => match d with
    | .bl true => evc T as
    | .bl false => M.ret false
    | _ => M.fail
end
end VI

namespace VI
open PySem L2

theorem PE.weak {X : Cx} {e : Expr} {t t' : TE} (h : PE X e t) (w : ∀ σ H Q, t' σ H Q → t σ H Q) : PE X e t' := ⟨fun pins s σ H Q I q => h.run pins s σ H Q I (w σ H Q q)⟩
theorem PA.weak {X : Cx} {e : List Expr} {t t' : TA} (h : PA X e t) (w : ∀ σ H Q, t' σ H Q → t σ H Q) : PA X e t' := ⟨fun pos pins s σ H Q I q => h.run pos pins s σ H Q I (w σ H Q q)⟩
theorem PT.weak {X : Cx} {e : Expr} {t t' : TT} (h : PT X e t) (w : ∀ σ H Q, t' σ H Q → t σ H Q) : PT X e t' := ⟨fun pins s σ H Q I q => h.run pins s σ H Q I (w σ H Q q)⟩
theorem PS.weak {X : Cx} {e : Stmt} {t t' : TS} (h : PS X e t) (w : ∀ D σ H, t' D σ H → t D σ H) : PS X e t' := ⟨fun pins s σ H D I q => h.run pins s σ H D I (w D σ H q)⟩
theorem PSs.weak {X : Cx} {e : List Stmt} {t t' : TS} (h : PSs X e t) (w : ∀ D σ H, t' D σ H → t D σ H) : PSs X e t' := ⟨fun pins s σ H D I q => h.run pins s σ H D I (w D σ H q)⟩

/-- only new things -/
structure New (E E' : Hw) : Prop where
  k : E'.K = E.K
  ct : E'.ct = E.ct
  a : E'.A = E.A
  f : ∀ a o, E.F a = some o → E'.F a = some o
  s : ∀ a o, E'.F a = some o → E'.H a = some o
  h : ∀ a o, E.H a = some o → E'.H a = some o
  n : ∀ a, E.H a ≠ none → E'.F a = E.F a
theorem New.refl {E : Hw} (h : ∀ a o, E.F a = some o → E.H a = some o) : New E E := ⟨rfl, rfl, rfl, fun _ _ h => h, h, fun _ _ h => h, fun _ _ => rfl⟩
theorem New.step {E E' : Hw} (n : New E E') (c : Cn) : Step E c E' := ⟨n.k, n.ct, n.f, ⟨[], by rw [n.a]; simp⟩, fun a o _ h => n.h a o h⟩
theorem New.trans {E E1 E2 : Hw} (n : New E E1) (m : New E1 E2) : New E E2 :=
  ⟨m.k.trans n.k, m.ct.trans n.ct, m.a.trans n.a, fun a o h => m.f a o (n.f a o h), m.s, fun a o h => m.h a o (n.h a o h), fun a h => by
    rw [m.n a, n.n a h]
    intro z
    cases q : E.H a with
    | none => exact h q
    | some o => rw [n.h a o q] at z; cases z⟩
/-- a new thing, owned -/
def Hw.lay (E : Hw) (p : Addr) (o : HO) : Hw := { E with H := upd E.H p o }
/-- a new thing, frozen at once -/
def Hw.layF (E : Hw) (p : Addr) (o : HO) : Hw := { E with H := upd E.H p o, F := upd E.F p o }
theorem lay_new {E : Hw} (h : ∀ a o, E.F a = some o → E.H a = some o) {p : Addr} {o : HO} (hp : E.H p = none) : New E (E.lay p o) := by
  refine ⟨rfl, rfl, rfl, fun _ _ h => h, fun a u q => ?_, fun a u q => ?_, fun _ _ => rfl⟩
  · show upd E.H p o a = some u
    rw [upd_ne (ne_of_none (h a u q) hp)]
    exact h a u q
  · show upd E.H p o a = some u
    rw [upd_ne (ne_of_none q hp)]
    exact q
theorem layF_new {E : Hw} (h : ∀ a o, E.F a = some o → E.H a = some o) {p : Addr} {o : HO} (hp : E.H p = none) : New E (E.layF p o) := by
  have hF : ∀ a u, E.F a = some u → a ≠ p := fun a u q => ne_of_none (h a u q) hp
  refine ⟨rfl, rfl, rfl, fun a u q => ?_, fun a u q => ?_, fun a u q => ?_, fun a n => ?_⟩
  · show upd E.F p o a = some u
    rw [upd_ne (hF a u q)]
    exact q
  · by_cases z : a = p
    · subst z
      have e : upd E.F a o a = some u := q
      rw [upd_same] at e
      show upd E.H a o a = some u
      rw [upd_same]
      exact e
    · have e : upd E.F p o a = some u := q
      rw [upd_ne z] at e
      show upd E.H p o a = some u
      rw [upd_ne z]
      exact h a u e
  · show upd E.H p o a = some u
    rw [upd_ne (ne_of_none q hp)]
    exact q
  · show upd E.F p o a = E.F a
    exact upd_ne fun z => n (by rw [z]; exact hp)

theorem Wd.new {E E' : Hw} {σ : L2.St} {s : VS} {ce c : Cn} (w : Wd E σ s ce) (n : New E E') (h1 : ∀ q, c q ≤ 1) (h2 : ∀ q, c q ≠ 0 → E.H q = none ∧ E'.F q = none ∧ E'.H q ≠ none) : Wd E' σ s (cadd ce c) := by
  obtain ⟨c1, c2, a, b, t, f⟩ := w.own
  have d1 : ∀ p, c1 p + c2 p + ce p ≠ 0 → E.H p ≠ none := fun p z => by
    by_cases z1 : c1 p = 0
    · by_cases z2 : c2 p = 0
      · exact w.ex p (by omega)
      · exact RM.dom b p z2
    · exact RE.dom a p z1
  refine ⟨n.s, ⟨c1, c2, RE.mono (n.step _) a, by rw [n.a]; exact RM.mono (n.step _) b, fun p => ?_, fun p z => ?_⟩, fun p z => ?_⟩
  · have := t p
    have := h1 p
    simp only [cadd]
    by_cases zc : c p = 0
    · omega
    · have := d1 p
      have : c1 p + c2 p + ce p = 0 := by
        by_cases y : c1 p + c2 p + ce p = 0
        · exact y
        · exact absurd (h2 p zc).1 (d1 p y)
      omega
  · simp only [cadd] at z
    by_cases zc : c p = 0
    · have y : c1 p + c2 p + ce p ≠ 0 := by omega
      rw [n.n p (d1 p y)]
      exact f p y
    · exact (h2 p zc).2.1
  · simp only [cadd] at z
    by_cases zc : c p = 0
    · have y : ce p ≠ 0 := by omega
      intro q
      cases r : E.H p with
      | none => exact w.ex p y r
      | some o => rw [n.h p o r] at q; cases q
    · exact (h2 p zc).2.2
/-- a value on the way is frozen -/
theorem Wd.freeze {E : Hw} {σ : L2.St} {s : VS} {ce c : Cn} {d : D} {v : V} (w : Wd E σ s (cadd ce c)) (r : RT E d v c) :
    ∃ E', Step E ce E' ∧ E'.H = E.H ∧ RT E' (frz d) v cz ∧ Wd E' σ s ce := by
  obtain ⟨c1, c2, a, b, t, f⟩ := w.own
  simp only [cadd] at t f
  have fn : ∀ p, c p ≠ 0 → E.F p = none := fun p z => f p (by omega)
  let E' : Hw := { E with F := fun p => if c p = 0 then E.F p else E.H p }
  have hf : ∀ p o, E.F p = some o → E'.F p = some o := fun p o h => by
    show (if c p = 0 then E.F p else E.H p) = some o
    by_cases z : c p = 0
    · rw [if_pos z]; exact h
    · rw [fn p z] at h; cases h
  have st : ∀ c', Step E c' E' := fun c' => ⟨rfl, rfl, hf, ⟨[], by simp [E']⟩, fun _ _ _ h => h⟩
  refine ⟨E', st ce, rfl, RT.freeze (E := E) (E' := E') rfl rfl rfl hf d r fun p o z h => ?_, ⟨fun p o h => ?_, ⟨c1, c2, RE.mono (st _) a, RM.mono (st _) b, fun p => by have := t p; omega, fun p z => ?_⟩, fun p z => w.ex p (by simp only [cadd]; omega)⟩⟩
  · show (if c p = 0 then E.F p else E.H p) = some o
    rw [if_neg z]
    exact h
  · have h' : (if c p = 0 then E.F p else E.H p) = some o := h
    by_cases z : c p = 0
    · rw [if_pos z] at h'; exact w.same p o h'
    · rw [if_neg z] at h'; exact h'
  · show (if c p = 0 then E.F p else E.H p) = none
    have := t p
    rw [if_pos (by omega)]
    exact f p (by omega)

def RX (E : Hw) : List D → List V → Prop
  | [], vs => vs = []
  | d :: ds, vs => ∃ v vs' c, vs = v :: vs' ∧ RT E d v c ∧ RX E ds vs'
theorem RTs.rx {E : Hw} : ∀ {ds : List D} {vs : List V} {c : Cn}, RTs E ds vs c → RX E ds vs
  | [], _, _, h => by simp only [RTs] at h; exact h.1
  | d :: ds, _, _, h => by
    simp only [RTs] at h
    obtain ⟨v, vs', c1, c2, rfl, r, q, rfl⟩ := h
    exact ⟨v, vs', c1, rfl, r, RTs.rx q⟩
/-- an operation that makes nothing; one that makes things -/
def PR (K : PySem.W.Frag) (ct : Str → Addr) (p : Pr) (vs : List V) (H : Hp) (Q : VK) : Prop :=
  ∃ (E : Hw) (ds : List D) (d : D), E.K = K ∧ E.ct = ct ∧ E.H = H ∧ (∀ a o, E.F a = some o → E.H a = some o) ∧ RX E ds vs ∧ p.fn ds = some d ∧
    if p.quiet = true then ∀ v, RT E d v cz → Q v H
    else ∀ (v : V) (E' : Hw) (c : Cn), New E E' → RT E' d v c → (∀ q, c q ≤ 1) → (∀ q, c q ≠ 0 → E.H q = none ∧ E'.F q = none) → Q v E'.H

section
variable {α β γ δ : Type} {K : PySem.W.Frag} {ct : Str → Addr} {W : WX} {Rel : Hw → α → β → Cn → Prop} {Rel' : Hw → γ → δ → Cn → Prop} {m : M α} {f : α → M γ} {σ : L2.St} {E : Hw} {s : VS} {ce : Cn} {Q : δ → Hp → Prop} {R : β → Hp → Prop}
theorem RA.ok {a : α} {s' : VS} (e : m s = some (.ok a s')) : RA W Rel m σ E s ce R = ∀ (b : β) (E' : Hw) (c : Cn), Step E ce E' → Rel E' a b c → Wd E' σ s' (cadd ce c) → R b E'.H := by
  unfold RA
  rw [e]
theorem RA.exc {x : EXC} {s' : VS} (e : m s = some (.ex x s')) : RA W Rel m σ E s ce R = ∀ (cls : Value) (d : Option Addr) (E' : Hw), Step E ce E' → ExR E' x cls d → Wd E' σ s' ce → W cls d σ E'.H := by
  unfold RA
  rw [e]
theorem RA.non (e : m s = none) : RA W Rel m σ E s ce R = False := by
  unfold RA
  rw [e]
theorem RA.eq {m' : M α} (e : m s = m' s) (h : RA W Rel m σ E s ce R) : RA W Rel m' σ E s ce R := by
  unfold RA at h ⊢
  rw [← e]
  exact h
/-- THE BIND: m first, then what f goes on with -/
theorem RA.bnd (h : RA W Rel' (m.bnd f) σ E s ce Q)
    (k : ∀ (a : α) (b : β) (E1 : Hw) (s1 : VS) (c : Cn), Step E ce E1 → Rel E1 a b c → Wd E1 σ s1 (cadd ce c) → RA W Rel' (f a) σ E1 s1 ce Q → R b E1.H) : RA W Rel m σ E s ce R := by
  cases q : m s with
  | none =>
    rw [RA.non (show M.bnd m f s = none by unfold M.bnd; rw [q])] at h
    exact h.elim
  | some r =>
    cases r with
    | ex x s' =>
      rw [RA.exc (show M.bnd m f s = some (.ex x s') by unfold M.bnd; rw [q])] at h
      rw [RA.exc q]
      exact h
    | ok a s' =>
      have e : M.bnd m f s = f a s' := by unfold M.bnd; rw [q]
      rw [RA.ok q]
      intro b E' c st r w'
      refine k a b E' s' c st r w' ?_
      cases q2 : f a s' with
      | none => rw [RA.non (e.trans q2)] at h; exact h.elim
      | some r2 =>
        cases r2 with
        | ok g s2 =>
          rw [RA.ok (e.trans q2)] at h
          rw [RA.ok q2]
          exact fun b E2 c' st2 r' w2 => h b E2 c' (st.trans st2) r' w2
        | ex x s2 =>
          rw [RA.exc (e.trans q2)] at h
          rw [RA.exc q2]
          exact fun cls d E2 st2 r' w2 => h cls d E2 (st.trans st2) r' w2
theorem RA.ret {a : α} {b : β} (h : RA W Rel (M.ret a) σ E s ce R) {E' : Hw} {c : Cn} (st : Step E ce E') (r : Rel E' a b c) (w : Wd E' σ s (cadd ce c)) : R b E'.H := by
  rw [RA.ok (show M.ret a s = some (.ok a s) from rfl)] at h
  exact h b E' c st r w
theorem Run.mk (eK : E.K = K) (ec : E.ct = ct) (w : Wd E σ s ce) (h : RA W Rel m σ E s ce R) : Run K ct W Rel m σ E.H R := ⟨E, s, ce, eK, ec, rfl, w, h⟩
end
end VI

/-! The built-in operations keep what they are taken for. -/
namespace VI
open PySem L2 PyProof.Rows

section
variable {E : Hw} {x y z : V} {a b : D} {c : Cn} {H : Hp} {Q : VK} {K : PySem.W.Frag} {ct : Str → Addr} {p : Pr}
theorem rx1 {ds : List D} (h : RX E ds [x]) : ∃ a c, ds = [a] ∧ RT E a x c := by
  cases ds with
  | nil => simp [RX] at h
  | cons a ds =>
    simp only [RX] at h
    obtain ⟨v, vs', c, e, r, h⟩ := h
    cases e
    cases ds with
    | nil => exact ⟨a, c, rfl, r⟩
    | cons b ds => simp only [RX] at h; obtain ⟨_, _, _, e, _⟩ := h; cases e
theorem rx2 {ds : List D} (h : RX E ds [x, y]) : ∃ a b c c', ds = [a, b] ∧ RT E a x c ∧ RT E b y c' := by
  cases ds with
  | nil => simp [RX] at h
  | cons a ds =>
    simp only [RX] at h
    obtain ⟨v, vs', c, e, r, h⟩ := h
    cases e
    obtain ⟨b, c', rfl, r'⟩ := rx1 h
    exact ⟨a, b, c, c', rfl, r, r'⟩
theorem rx3 {ds : List D} (h : RX E ds [x, y, z]) : ∃ a b d c c' c'', ds = [a, b, d] ∧ RT E a x c ∧ RT E b y c' ∧ RT E d z c'' := by
  cases ds with
  | nil => simp [RX] at h
  | cons a ds =>
    simp only [RX] at h
    obtain ⟨v, vs', c, e, r, h⟩ := h
    cases e
    obtain ⟨b, d, c', c'', rfl, r', r''⟩ := rx2 h
    exact ⟨a, b, d, c, c', c'', rfl, r, r', r''⟩
theorem rx0 {ds : List D} (h : RX E ds []) : ds = [] := by
  cases ds with
  | nil => rfl
  | cons a ds => simp only [RX] at h; obtain ⟨_, _, _, e, _⟩ := h; cases e
theorem PR.q {vs : List V} (h : PR K ct p vs H Q) (hq : p.quiet = true) : ∃ (E : Hw) (ds : List D) (d : D), E.K = K ∧ E.ct = ct ∧ E.H = H ∧ (∀ a o, E.F a = some o → E.H a = some o) ∧ RX E ds vs ∧ p.fn ds = some d ∧ ∀ v, RT E d v cz → Q v H := by
  obtain ⟨E, ds, d, e1, e2, e3, hs, hx, hf, k⟩ := h
  rw [if_pos hq] at k
  exact ⟨E, ds, d, e1, e2, e3, hs, hx, hf, k⟩
theorem PR.n {vs : List V} (h : PR K ct p vs H Q) (hq : p.quiet = false) : ∃ (E : Hw) (ds : List D) (d : D), E.K = K ∧ E.ct = ct ∧ E.H = H ∧ (∀ a o, E.F a = some o → E.H a = some o) ∧ RX E ds vs ∧ p.fn ds = some d ∧
    ∀ (v : V) (E' : Hw) (c : Cn), New E E' → RT E' d v c → (∀ q, c q ≤ 1) → (∀ q, c q ≠ 0 → E.H q = none ∧ E'.F q = none) → Q v E'.H := by
  obtain ⟨E, ds, d, e1, e2, e3, hs, hx, hf, k⟩ := h
  rw [if_neg (by rw [hq]; decide)] at k
  exact ⟨E, ds, d, e1, e2, e3, hs, hx, hf, k⟩
/-- the end of an operation that makes things: nothing made; a list made -/
theorem flat_end {d : D} {v : V} (hs : ∀ a o, E.F a = some o → E.H a = some o) (k : ∀ (v : V) (E' : Hw) (c : Cn), New E E' → RT E' d v c → (∀ q, c q ≤ 1) → (∀ q, c q ≠ 0 → E.H q = none ∧ E'.F q = none) → Q v E'.H) (r : RT E d v cz) : Q v E.H :=
  k v E cz (New.refl hs) r (fun _ => Nat.zero_le _) fun q h => absurd rfl h
theorem list_end {ds : List D} {vs : List V} {q : Addr} (hs : ∀ a o, E.F a = some o → E.H a = some o) (k : ∀ (v : V) (E' : Hw) (c : Cn), New E E' → RT E' (.lst true ds) v c → (∀ q, c q ≤ 1) → (∀ q, c q ≠ 0 → E.H q = none ∧ E'.F q = none) → Q v E'.H)
    (r : RTs E ds vs cz) (hq : E.H q = none) : Q (.ref q) (upd E.H q (.lst vs)) := by
  have n : New E (E.lay q (.lst vs)) := lay_new hs hq
  refine k (.ref q) (E.lay q (.lst vs)) (cadd (one q) cz) n ?_ (fun p => ?_) fun p h => ?_
  · simp only [RT]
    exact ⟨q, vs, cz, rfl, upd_same, RTs.mono ds (n.step _) r, rfl⟩
  · simp only [cadd, one, cz]
    split <;> omega
  · have e : p = q := by
      by_cases z : p = q
      · exact z
      · simp [cadd, one, z] at h
    subst e
    refine ⟨hq, ?_⟩
    show E.F p = none
    cases r : E.F p with
    | none => rfl
    | some o => rw [hs p o r] at hq; cases hq
theorem tup_end {ds : List D} {vs : List V} {q : Addr} (hs : ∀ a o, E.F a = some o → E.H a = some o) (k : ∀ (v : V) (E' : Hw) (c : Cn), New E E' → RT E' (.tup ds) v c → (∀ q, c q ≤ 1) → (∀ q, c q ≠ 0 → E.H q = none ∧ E'.F q = none) → Q v E'.H)
    (r : RTs E ds vs cz) (hq : E.H q = none) : Q (.ref q) (upd E.H q (.tup vs)) := by
  have n : New E (E.layF q (.tup vs)) := layF_new hs hq
  refine k (.ref q) (E.layF q (.tup vs)) cz n ?_ (fun p => Nat.zero_le _) fun p h => absurd rfl h
  simp only [RT]
  exact ⟨q, vs, rfl, upd_same, RTs.mono ds (n.step _) r⟩
theorem RTs.fz {E : Hw} {ds : List D} {vs : List V} {c : Cn} (h : RTs E ds vs c) (g : allFs ds = true) : RTs E ds vs cz := by
  have e := RTs.allF ds h g
  rw [e] at h
  exact h
/-- the list that a D bears, as it stands in the heap -/
theorem lst_at {o : Bool} {ds : List D} (hs : ∀ a o, E.F a = some o → E.H a = some o) (r : RT E (.lst o ds) x c) : ∃ a vs c', x = .ref a ∧ E.H a = some (.lst vs) ∧ RTs E ds vs c' ∧ (o = false → E.F a = some (.lst vs) ∧ c' = cz) := by
  cases o with
  | true =>
    simp only [RT] at r
    obtain ⟨a, vs, c', e, q, t, _⟩ := r
    exact ⟨a, vs, c', e, q, t, fun z => by cases z⟩
  | false =>
    simp only [RT] at r
    obtain ⟨_, a, vs, e, q, t⟩ := r
    exact ⟨a, vs, cz, e, hs _ _ q, t, fun _ => ⟨q, rfl⟩⟩
theorem tup_at {ds : List D} (hs : ∀ a o, E.F a = some o → E.H a = some o) (r : RT E (.tup ds) x c) : ∃ a vs, x = .ref a ∧ E.F a = some (.tup vs) ∧ E.H a = some (.tup vs) ∧ RTs E ds vs c := by
  simp only [RT] at r
  obtain ⟨a, vs, e, q, t⟩ := r
  exact ⟨a, vs, e, q, hs _ _ q, t⟩
theorem dic_at {o : Bool} {ks : List Key} {ds : List D} (hs : ∀ a o, E.F a = some o → E.H a = some o) (r : RT E (.dic o ks ds) x c) : ∃ a kvs c', x = .ref a ∧ E.H a = some (.dK kvs) ∧ kvs.map (·.1) = ks ∧ RTs E ds (kvs.map (·.2)) c' := by
  cases o with
  | true =>
    simp only [RT] at r
    obtain ⟨a, vs, c', e, q, z, t, _⟩ := r
    exact ⟨a, vs, c', e, q, z, t⟩
  | false =>
    simp only [RT] at r
    obtain ⟨_, a, vs, e, q, z, t⟩ := r
    exact ⟨a, vs, cz, e, hs _ _ q, z, t⟩
theorem RTs.at {E : Hw} : ∀ {ds : List D} {vs : List V} {c : Cn} {i : Nat} {d : D}, RTs E ds vs c → ds[i]? = some d → ∃ v c', vs[i]? = some v ∧ RT E d v c'
  | [], _, _, _, _, _, e => by simp at e
  | d :: ds, _, _, 0, d', h, e => by
    simp only [RTs] at h
    obtain ⟨v, vs', c1, c2, rfl, r, q, rfl⟩ := h
    have : d = d' := by simpa using e
    subst this
    exact ⟨v, c1, rfl, r⟩
  | d :: ds, _, _, i + 1, d', h, e => by
    simp only [RTs] at h
    obtain ⟨v, vs', c1, c2, rfl, r, q, rfl⟩ := h
    obtain ⟨v', c', e', r'⟩ := RTs.at (i := i) q (by simpa using e)
    exact ⟨v', c', by simpa using e', r'⟩
theorem RT.okA {E : Hw} {d d' : D} {v : V} {c : Cn} (r : RT E d v c) (h : okA d = some d') : d = d' ∧ RT E d v cz := by
  unfold VI.okA at h
  split at h
  · rename_i g
    have e := RT.allF d r g
    rw [e] at r
    exact ⟨Option.some.inj h, r⟩
  · cases h
mutual
/-- data as HandS has it -/
theorem RT.dp {E : Hw} {K : PySem.W.Frag} (hs : ∀ a o, E.F a = some o → E.H a = some o) : ∀ (d : D) {v : V} {c : Cn} {x : PyData}, RT E d v c → toPy d = some x → Dp K E.H v x
  | .non, _, _, _, r, h => by simp only [RT] at r; simp only [toPy] at h; cases h; rw [r.1]; exact .non
  | .bl b, _, _, _, r, h => by simp only [RT] at r; simp only [toPy] at h; cases h; rw [r.1]; exact .bl b
  | .int b, _, _, _, r, h => by simp only [RT] at r; simp only [toPy] at h; cases h; rw [r.1]; exact .int b
  | .str b, _, _, _, r, h => by simp only [RT] at r; simp only [toPy] at h; cases h; rw [r.1]; exact .str b
  | .lst o ds, _, _, _, r, h => by
    obtain ⟨a, vs, c', rfl, q, t, _⟩ := lst_at hs r
    simp only [toPy, Option.map_eq_some_iff] at h
    obtain ⟨xs, e, rfl⟩ := h
    exact .lst (.inl (.inl q)) (RTs.dp hs ds t e)
  | .tup ds, _, _, _, r, h => by
    obtain ⟨a, vs, rfl, _, q, t⟩ := tup_at hs r
    simp only [toPy, Option.map_eq_some_iff] at h
    obtain ⟨xs, e, rfl⟩ := h
    exact .tup (.inl (.inl q)) (RTs.dp hs ds t e)
  | .dic _ _ _, _, _, _, _, h => by simp [toPy] at h
  | .ins _ _ _, _, _, _, _, h => by simp [toPy] at h
  | .ref _, _, _, _, _, h => by simp [toPy] at h
  | .scr _, _, _, _, _, h => by simp [toPy] at h
theorem RTs.dp {E : Hw} {K : PySem.W.Frag} (hs : ∀ a o, E.F a = some o → E.H a = some o) : ∀ (ds : List D) {vs : List V} {c : Cn} {xs : List PyData}, RTs E ds vs c → toPys ds = some xs → DpAll K E.H vs xs
  | [], _, _, _, r, h => by simp only [RTs] at r; simp only [toPys] at h; cases h; rw [r.1]; exact .nil
  | d :: ds, _, _, _, r, h => by
    simp only [RTs] at r
    obtain ⟨v, vs', c1, c2, rfl, r, q, rfl⟩ := r
    simp only [toPys] at h
    cases e1 : toPy d with
    | none => rw [e1] at h; cases h
    | some x =>
      rw [e1] at h
      cases e2 : toPys ds with
      | none => rw [e2] at h; cases h
      | some ys =>
        rw [e2] at h
        cases h
        exact .cons (RT.dp hs d r e1) (RTs.dp hs ds q e2)
end
theorem rt_bl {k : Bool} : RT E (.bl k) (.bl k) cz := by simp only [RT]; exact ⟨trivial, trivial⟩
theorem rt_int {i : Int} : RT E (.int i) (.int i) cz := by simp only [RT]; exact ⟨trivial, trivial⟩
theorem rt_str {i : Str} : RT E (.str i) (.str i) cz := by simp only [RT]; exact ⟨trivial, trivial⟩
theorem rt_non : RT E .non .non cz := by simp only [RT]; exact ⟨trivial, trivial⟩
theorem RT.int {i : Int} (h : RT E (.int i) x c) : x = .int i := by simp only [RT] at h; exact h.1
theorem RT.bl {i : Bool} (h : RT E (.bl i) x c) : x = .bl i := by simp only [RT] at h; exact h.1
theorem RT.str {i : Str} (h : RT E (.str i) x c) : x = .str i := by simp only [RT] at h; exact h.1
theorem RT.non (h : RT E .non x c) : x = .non := by simp only [RT] at h; exact h.1
theorem rts_app : ∀ {ds es : List D} {vs ws : List V}, RTs E ds vs cz → RTs E es ws cz → RTs E (ds ++ es) (vs ++ ws) cz
  | [], _, _, _, h1, h2 => by simp only [RTs] at h1; rw [h1.1]; exact h2
  | d :: ds, es, _, ws, h1, h2 => by
    simp only [RTs] at h1
    obtain ⟨v, vs', c1, c2, rfl, r, q, e⟩ := h1
    obtain ⟨rfl, rfl⟩ := cadd_z e
    simp only [List.cons_append, RTs]
    exact ⟨v, vs' ++ ws, cz, cz, rfl, r, rts_app q h2, rfl⟩
theorem rts_rep {ds : List D} {vs : List V} (h : RTs E ds vs cz) : ∀ m : Nat, RTs E (List.replicate m ds).flatten (List.replicate m vs).flatten cz
  | 0 => by simp [RTs]
  | m + 1 => by
    rw [List.replicate_succ, List.flatten_cons, List.replicate_succ, List.flatten_cons]
    exact rts_app h (rts_rep h m)
theorem lim_ok {n : Nat} (h : n ≤ lim) : n ≤ sizeLine := Nat.le_trans h (by decide)
theorem lim_lt {n : Nat} (h : n < lim) : n < sizeLine := Nat.lt_of_lt_of_le h (by decide)
end

section
variable {X : Cx} {ct : Str → Addr}
theorem o_add : OpR X (binaryOp .Add) (fun x y H Q => PR X.K ct .add [x, y] H Q) := by
  intro pins s σ H x y v u Q I rx ry h
  obtain ⟨E, ds, d, eK, rfl, rfl, hs, hx, hf, k⟩ := h.n rfl
  obtain ⟨a, b, ca, cb, rfl, ra, rb⟩ := rx2 hx
  have hf : addD a b = some d := hf
  unfold addD at hf
  split at hf
  · cases hf
    exact op_add pins s σ _ x y v u Q I rx ry ⟨_, _, ra.int, rb.int, flat_end hs k rt_int⟩
  · cases hf
    rename_i i kb
    exact op_add_ib pins s σ _ x y v u Q I rx ry ⟨_, _, ra.int, rb.bl, flat_end hs k rt_int⟩
  · split at hf
    · rename_i hl
      cases hf
      exact op_add_str pins s σ _ x y v u Q I rx ry ⟨_, _, ra.str, rb.str, lim_ok hl, flat_end hs k rt_str⟩
    · cases hf
  · split at hf
    · rename_i hl
      simp only [Bool.and_eq_true, decide_eq_true_eq] at hl
      cases hf
      obtain ⟨p, vs, c1, e1, q1, t1, _⟩ := lst_at hs ra
      obtain ⟨p', vs', c2, e2, q2, t2, _⟩ := lst_at hs rb
      have t1 := t1.fz hl.1.1
      have t2 := t2.fz hl.1.2
      refine op_cat pins s σ _ x y v u Q I rx ry ⟨p, p', vs, vs', e1, e2, q1, q2, lim_ok (by rw [← t1.length, ← t2.length]; exact hl.2), fun q hq => list_end hs k ?_ hq⟩
      exact rts_app t1 t2
    · cases hf
  · cases hf

/-- two ints in, by a rule on ints -/
theorem o_ints {f : Value → Value → Sem Value} {p : Pr} {C : Int → Int → Prop} {g : Int → Int → V} (hq : p.quiet = true) (rule : OpR X f (rI C g))
    (hf : ∀ a b d, p.fn [a, b] = some d → ∃ i j, a = .int i ∧ b = .int j ∧ C i j ∧ ∀ E, RT E d (g i j) cz) : OpR X f (fun x y H Q => PR X.K ct p [x, y] H Q) := by
  intro pins s σ H x y v u Q I rx ry h
  obtain ⟨E, ds, d, eK, rfl, rfl, hs, hx, h1, k⟩ := h.q hq
  obtain ⟨a, b, ca, cb, rfl, ra, rb⟩ := rx2 hx
  obtain ⟨i, j, rfl, rfl, c, r⟩ := hf a b d h1
  exact rule pins s σ _ x y v u Q I rx ry ⟨i, j, ra.int, rb.int, c, k _ (r E)⟩
theorem rI_of {f : Value → Value → Sem Value} {g : Int → Int → V} (h : OpR X f (rI0 g)) : OpR X f (rI (fun _ _ => True) g) := by
  intro pins s σ H x y v u Q I rx ry q
  obtain ⟨i, j, e1, e2, _, q⟩ := q
  exact h pins s σ H x y v u Q I rx ry ⟨i, j, e1, e2, q⟩
theorem o_sub : OpR X (binaryOp .Sub) (fun x y H Q => PR X.K ct .sub [x, y] H Q) := o_ints rfl (rI_of op_sub) fun a b d h => by
  cases a <;> cases b <;> first | (cases h; done) | skip
  cases h
  exact ⟨_, _, rfl, rfl, trivial, fun E => rt_int⟩
theorem o_mod : OpR X (binaryOp .Mod) (fun x y H Q => PR X.K ct .mod [x, y] H Q) := o_ints rfl op_mod fun a b d h => by
  cases a <;> cases b <;> first | (cases h; done) | skip
  simp only [Pr.fn, fn2, modD, fdivD, powD] at h
  split at h
  · rename_i q
    cases h
    exact ⟨_, _, rfl, rfl, q, fun E => rt_int⟩
  · cases h
theorem o_fdiv : OpR X (binaryOp .FloorDiv) (fun x y H Q => PR X.K ct .fdiv [x, y] H Q) := o_ints rfl op_fdivW fun a b d h => by
  cases a <;> cases b <;> first | (cases h; done) | skip
  simp only [Pr.fn, fn2, modD, fdivD, powD] at h
  split at h
  · rename_i q
    cases h
    exact ⟨_, _, rfl, rfl, q, fun E => rt_int⟩
  · cases h
theorem o_pow : OpR X (binaryOp .Pow) (fun x y H Q => PR X.K ct .pow [x, y] H Q) := o_ints rfl op_pow fun a b d h => by
  cases a <;> cases b <;> first | (cases h; done) | skip
  simp only [Pr.fn, fn2, modD, fdivD, powD] at h
  split at h
  · rename_i q
    cases h
    exact ⟨_, _, rfl, rfl, q, fun E => rt_int⟩
  · cases h
theorem cmpD_some {f : Int → Int → Bool} {a b d : D} (h : cmpD f a b = some d) : ∃ i j, a = .int i ∧ b = .int j ∧ d = .bl (f i j) := by
  unfold cmpD at h
  split at h
  · cases h; exact ⟨_, _, rfl, rfl, rfl⟩
  · cases h
theorem o_lt : OpR X (compareOp .Lt) (fun x y H Q => PR X.K ct .lt [x, y] H Q) := o_ints rfl (rI_of op_lt) fun a b d h => by
  obtain ⟨i, j, rfl, rfl, rfl⟩ := cmpD_some h
  exact ⟨_, _, rfl, rfl, trivial, fun E => rt_bl⟩
theorem o_le : OpR X (compareOp .LtE) (fun x y H Q => PR X.K ct .le [x, y] H Q) := o_ints rfl (rI_of op_le) fun a b d h => by
  obtain ⟨i, j, rfl, rfl, rfl⟩ := cmpD_some h
  exact ⟨_, _, rfl, rfl, trivial, fun E => rt_bl⟩
theorem o_gt : OpR X (compareOp .Gt) (fun x y H Q => PR X.K ct .gt [x, y] H Q) := o_ints rfl (rI_of op_gt) fun a b d h => by
  obtain ⟨i, j, rfl, rfl, rfl⟩ := cmpD_some h
  exact ⟨_, _, rfl, rfl, trivial, fun E => rt_bl⟩
theorem o_ge : OpR X (compareOp .GtE) (fun x y H Q => PR X.K ct .ge [x, y] H Q) := o_ints rfl (rI_of op_ge) fun a b d h => by
  obtain ⟨i, j, rfl, rfl, rfl⟩ := cmpD_some h
  exact ⟨_, _, rfl, rfl, trivial, fun E => rt_bl⟩
theorem op_mulS : OpR X (binaryOp .Mult) (fun x y H Q => ∃ z n, x = .str z ∧ y = .int n ∧ (z.length ≤ 4000 ∧ -(2 ^ 63) ≤ n ∧ n ≤ 4000) ∧ Q (.str (Txt.mul z n)) H) := by
  intro pins s σ H x y v u Q I rx ry h
  obtain ⟨z, n, rfl, rfl, ⟨h1, h2, h3⟩, q⟩ := h
  obtain ⟨t, rfl⟩ := rx
  obtain ⟨t', rfl⟩ := ry
  exact PySem.SB.mul (mulOk_of 4000 4000 h1 h3 h2 (by decide) (by decide)) fun t' k => ⟨.str (Txt.mul z n), H, I.tok _, ⟨_, rfl⟩, q⟩
theorem o_mul : OpR X (binaryOp .Mult) (fun x y H Q => PR X.K ct .mul [x, y] H Q) := by
  intro pins s σ H x y v u Q I rx ry h
  obtain ⟨E, ds, d, eK, rfl, rfl, hs, hx, hf, k⟩ := h.n rfl
  obtain ⟨a, b, ca, cb, rfl, ra, rb⟩ := rx2 hx
  have hf : mulD a b = some d := hf
  unfold mulD at hf
  split at hf
  · split at hf
    · rename_i hl
      cases hf
      exact op_mulS pins s σ _ x y v u Q I rx ry ⟨_, _, ra.str, rb.int, hl, flat_end hs k rt_str⟩
    · cases hf
  · split at hf
    · rename_i hl
      cases hf
      exact op_mulW pins s σ _ x y v u Q I rx ry ⟨_, _, ra.int, rb.int, hl, flat_end hs k rt_int⟩
    · cases hf
  · split at hf
    · rename_i hl
      simp only [Bool.and_eq_true, decide_eq_true_eq] at hl
      cases hf
      obtain ⟨p, vs, c1, e1, q1, t1, _⟩ := lst_at hs ra
      have t1 := t1.fz hl.1
      refine op_rep pins s σ _ x y v u Q I rx ry ⟨p, _, vs, e1, rb.int, q1, hl.2.1, hl.2.2.1, lim_ok (by rw [← t1.length]; exact hl.2.2.2), fun q hq => list_end hs k ?_ hq⟩
      exact rts_rep t1 _
    · cases hf
  · cases hf
/-- == and != of data -/
theorem eqD_some {a b : D} {k : Bool} (h : eqD a b = some k) : ∃ x y, toPy a = some x ∧ toPy b = some y ∧ SeqAt.shaped x = true ∧ SeqAt.shaped y = true ∧ k = PyData.eqv x y := by
  unfold eqD at h
  split at h
  · rename_i x y e1 e2
    split at h
    · rename_i g
      rw [Bool.and_eq_true] at g
      cases h
      exact ⟨x, y, e1, e2, g.1, g.2, rfl⟩
    · cases h
  · cases h
theorem o_eq (hu : X.A.units + 64 < cLine) : OpR X (compareOp .Eq) (fun x y H Q => PR X.K ct .eq [x, y] H Q) := by
  intro pins s σ H x y v u Q I rx ry h
  obtain ⟨E, ds, d, eK, rfl, rfl, hs, hx, hf, k⟩ := h.q rfl
  obtain ⟨a, b, ca, cb, rfl, ra, rb⟩ := rx2 hx
  have hf : (eqD a b).map .bl = some d := hf
  replace hf := Option.map_eq_some_iff.mp hf
  obtain ⟨kk, hg, rfl⟩ := hf
  obtain ⟨p, q, e1, e2, s1, s2, rfl⟩ := eqD_some hg
  exact op_eqD hu pins s σ _ x y v u Q I rx ry ⟨p, q, RT.dp hs a ra e1, RT.dp hs b rb e2, s1, s2, k _ rt_bl⟩
theorem o_ne (hu : X.A.units + 64 < cLine) : OpR X (compareOp .NotEq) (fun x y H Q => PR X.K ct .ne [x, y] H Q) := by
  intro pins s σ H x y v u Q I rx ry h
  obtain ⟨E, ds, d, eK, rfl, rfl, hs, hx, hf, k⟩ := h.q rfl
  obtain ⟨a, b, ca, cb, rfl, ra, rb⟩ := rx2 hx
  have hf : ((eqD a b).map fun k => .bl (!k)) = some d := hf
  replace hf := Option.map_eq_some_iff.mp hf
  obtain ⟨kk, hg, rfl⟩ := hf
  obtain ⟨p, q, e1, e2, s1, s2, rfl⟩ := eqD_some hg
  exact op_neD hu pins s σ _ x y v u Q I rx ry ⟨p, q, RT.dp hs a ra e1, RT.dp hs b rb e2, s1, s2, k _ rt_bl⟩
theorem isNon_ok {E : Hw} {a : D} {x : V} {c : Cn} (r : RT E a x c) : decide (x = .non) = isNon a := by
  cases a with
  | non => rw [r.non]; rfl
  | bl b => rw [r.bl]; rfl
  | int b => rw [r.int]; rfl
  | str b => rw [r.str]; rfl
  | lst o ds =>
    cases o with
    | true => simp only [RT] at r; obtain ⟨_, _, _, rfl, _⟩ := r; rfl
    | false => simp only [RT] at r; obtain ⟨_, _, _, rfl, _⟩ := r; rfl
  | tup ds => simp only [RT] at r; obtain ⟨_, _, rfl, _⟩ := r; rfl
  | dic o ks ds =>
    cases o with
    | true => simp only [RT] at r; obtain ⟨_, _, _, rfl, _⟩ := r; rfl
    | false => simp only [RT] at r; obtain ⟨_, _, _, rfl, _⟩ := r; rfl
  | ins C fn ds => simp only [RT] at r; obtain ⟨_, _, _, _, rfl, _⟩ := r; rfl
  | ref k => simp only [RT] at r; obtain ⟨_, _, rfl, _⟩ := r; rfl
  | scr k => simp only [RT] at r; obtain ⟨_, _, rfl, _⟩ := r; rfl
theorem o_isB : OpR X (compareOp .Is) (fun x y H Q => PR X.K ct .isB [x, y] H Q) := by
  intro pins s σ H x y v u Q I rx ry h
  obtain ⟨E, ds, d, eK, rfl, rfl, hs, hx, hf, k⟩ := h.q rfl
  obtain ⟨a, b, ca, cb, rfl, ra, rb⟩ := rx2 hx
  cases a <;> cases b <;> first | (cases hf; done) | skip
  cases hf
  exact op_isBl pins s σ _ x y v u Q I rx ry ⟨_, _, ra.bl, rb.bl, k _ rt_bl⟩
theorem o_notB : OpR X (compareOp .IsNot) (fun x y H Q => PR X.K ct .notB [x, y] H Q) := by
  intro pins s σ H x y v u Q I rx ry h
  obtain ⟨E, ds, d, eK, rfl, rfl, hs, hx, hf, k⟩ := h.q rfl
  obtain ⟨a, b, ca, cb, rfl, ra, rb⟩ := rx2 hx
  cases a <;> cases b <;> first | (cases hf; done) | skip
  cases hf
  exact op_notBl pins s σ _ x y v u Q I rx ry ⟨_, _, ra.bl, rb.bl, k _ rt_bl⟩
/-- x in ys -/
theorem memD_some {a : D} {ds : List D} {k : Bool} (h : memD a ds = some k) : ∃ x ys, toPy a = some x ∧ toPys ds = some ys ∧ SeqAt.shaped x = true ∧ SeqAt.shaped (.list ys) = true ∧ k = ys.any fun z => PyData.eqv z x := by
  unfold memD at h
  split at h
  · rename_i x y e1 e2
    split at h
    · rename_i g
      rw [Bool.and_eq_true] at g
      cases h
      exact ⟨x, y, e1, e2, g.1, g.2, rfl⟩
    · cases h
  · cases h
theorem memT_some {a : D} {ds : List D} {k : Bool} (h : memT a ds = some k) : ∃ x ys, toPy a = some x ∧ toPys ds = some ys ∧ SeqAt.shaped x = true ∧ SeqAt.shaped (.tuple ys) = true ∧ k = ys.any fun z => PyData.eqv z x := by
  unfold memT at h
  split at h
  · rename_i x y e1 e2
    split at h
    · rename_i g
      rw [Bool.and_eq_true] at g
      cases h
      exact ⟨x, y, e1, e2, g.1, g.2, rfl⟩
    · cases h
  · cases h
theorem flat_v {E : Hw} {a : D} {x : V} {c : Cn} (r : RT E a x c) (h : flatD a = true) : flatV x = true ∧ ∀ {b : D} {y : V} {c' : Cn}, RT E b y c' → flatD b = true → eqV x y = eqF a b := by
  cases a with
  | non =>
    rw [r.non]
    refine ⟨rfl, fun {b y c'} rb hb => ?_⟩
    cases b <;> first | (cases hb; done) | (first | rw [rb.non] | rw [rb.bl] | rw [rb.int] | rw [rb.str]) <;> rfl
  | bl i =>
    rw [r.bl]
    refine ⟨rfl, fun {b y c'} rb hb => ?_⟩
    cases b <;> first | (cases hb; done) | (first | rw [rb.non] | rw [rb.bl] | rw [rb.int] | rw [rb.str]) <;> rfl
  | int i =>
    rw [r.int]
    refine ⟨rfl, fun {b y c'} rb hb => ?_⟩
    cases b <;> first | (cases hb; done) | (first | rw [rb.non] | rw [rb.bl] | rw [rb.int] | rw [rb.str]) <;> rfl
  | str i =>
    rw [r.str]
    refine ⟨rfl, fun {b y c'} rb hb => ?_⟩
    cases b <;> first | (cases hb; done) | (first | rw [rb.non] | rw [rb.bl] | rw [rb.int] | rw [rb.str]) <;> rfl
  | _ => cases h
theorem flat_in {E : Hw} {a : D} {x : V} {c : Cn} (r : RT E a x c) (h : flatD a = true) : ∀ {ds : List D} {vs : List V} {c' : Cn}, RTs E ds vs c' → ds.all flatD = true → vs.all flatV = true ∧ inV x vs = ds.any fun y => eqF y a
  | [], _, _, t, _ => by simp only [RTs] at t; rw [t.1]; exact ⟨rfl, rfl⟩
  | d :: ds, _, _, t, g => by
    simp only [RTs] at t
    obtain ⟨v, vs', c1, c2, rfl, rd, q, rfl⟩ := t
    simp only [List.all_cons, Bool.and_eq_true] at g ⊢
    obtain ⟨i1, i2⟩ := flat_in r h q g.2
    obtain ⟨j1, j2⟩ := flat_v rd g.1
    refine ⟨⟨j1, i1⟩, ?_⟩
    show (eqV v x || inV x vs') = _
    rw [j2 r h, i2, List.any_cons]
theorem look_val : ∀ {kvs : List (Key × V)} {ks : List Key} {ds : List D} {E : Hw} {c : Cn} (k : Key), kvs.map (·.1) = ks → RTs E ds (kvs.map (·.2)) c → (look ks ds k = none → valV kvs k = none) ∧ ∀ d, look ks ds k = some d → ∃ v c', valV kvs k = some v ∧ RT E d v c'
  | [], _, ds, _, _, k, e, t => by
    subst e
    cases ds with
    | nil => exact ⟨fun _ => rfl, fun d h => by simp [look] at h⟩
    | cons d ds => simp only [RTs, List.map_nil] at t; obtain ⟨_, _, _, _, z, _⟩ := t; cases z
  | (k', v) :: kvs, _, ds, E, _, k, e, t => by
    subst e
    cases ds with
    | nil => simp only [RTs, List.map_cons] at t; cases t.1
    | cons d ds =>
      simp only [RTs, List.map_cons] at t
      obtain ⟨v', vs', c1, c2, z, r, q, rfl⟩ := t
      cases z
      obtain ⟨i1, i2⟩ := look_val (kvs := kvs) (ds := ds) k rfl q
      simp only [List.map_cons, look]
      by_cases y : k' = k
      · rw [if_pos y]
        refine ⟨fun h => (by cases h), fun d' h => ?_⟩
        cases h
        exact ⟨v, c1, by rw [valV_pos (p := (k', v)) y], r⟩
      · rw [if_neg y, valV_neg (p := (k', v)) y]
        exact ⟨i1, i2⟩
theorem keyOf_v {E : Hw} {a : D} {x : V} {c : Cn} {k : Key} (r : RT E a x c) (h : keyOf a = some k) : x = kV k := by
  cases a <;> first | (cases h; done) | skip
  · cases h; rw [r.int]; rfl
  · cases h; rw [r.str]; rfl
theorem str_one {z : Str} (h : z.cps.size = 1) : z = ⟨#[z.cps.getD 0 0]⟩ := by
  cases z with
  | mk cps =>
    cases cps with
    | mk l =>
      cases l with
      | nil => cases h
      | cons c l =>
        cases l with
        | nil => rfl
        | cons d l => simp at h
theorem keyOf_val {a : D} {k : Key} (h : keyOf a = some k) : a = keyD k := by
  cases a <;> first | (cases h; done) | skip
  · cases h; rfl
  · cases h; rfl
theorem dget_of {E : Hw} {o : Bool} {ks : List Key} {ds : List D} {a : D} {x y : V} {c c' : Cn} {k : Key} (hs : ∀ a o, E.F a = some o → E.H a = some o) (r : RT E (.dic o ks ds) x c) (rk : RT E a y c') (hk : keyOf a = some k) :
    ∃ p kvs c', x = .ref p ∧ DGet E.H p y (valV kvs k) ∧ kvs.map (·.1) = ks ∧ RTs E ds (kvs.map (·.2)) c' ∧ E.H p = some (.dK kvs) := by
  obtain ⟨p, kvs, c', e, q, z, t⟩ := dic_at hs r
  rw [keyOf_v rk hk]
  exact ⟨p, kvs, c', e, DGet.k q, z, t, q⟩
/-- x in ys: lists, tuples, texts -/
theorem mem_at {E : Hw} {a b : D} {x y : V} {ca cb : Cn} {k : Bool} (hs : ∀ a o, E.F a = some o → E.H a = some o) (ra : RT E a x ca) (rb : RT E b y cb) (hm : memO a b = some k) {K : PySem.W.Frag} :
    (∃ d ds, Dp K E.H x d ∧ Dp K E.H y (.list ds) ∧ SeqAt.shaped d = true ∧ SeqAt.shaped (.list ds) = true ∧ k = ds.any fun z => PyData.eqv z d) ∨
    (∃ p vs, y = .ref p ∧ (SqL K E.H p vs ∨ SqT K E.H p vs) ∧ flatV x = true ∧ vs.all flatV = true ∧ k = inV x vs) ∨
    (∃ (c : Nat) (z : Str), x = .str ⟨#[c]⟩ ∧ y = .str z ∧ k = decide (c ∈ z.cps.toList)) ∨
    (∃ d ds, Dp K E.H x d ∧ Dp K E.H y (.tuple ds) ∧ SeqAt.shaped d = true ∧ SeqAt.shaped (.tuple ds) = true ∧ k = ds.any fun z => PyData.eqv z d) := by
  unfold memO at hm
  split at hm
  · rename_i o ds
    obtain ⟨p, ys, e1, e2, s1, s2, rfl⟩ := memD_some hm
    exact .inl ⟨p, ys, RT.dp hs a ra e1, RT.dp hs (.lst o ds) rb (by simp [toPy, e2]), s1, s2, rfl⟩
  · split at hm
    · rename_i g
      rw [Bool.and_eq_true] at g
      cases hm
      obtain ⟨p, vs, e, _, q1, t⟩ := tup_at hs rb
      obtain ⟨i1, i2⟩ := flat_in ra g.1 t g.2
      exact .inr (.inl ⟨p, vs, e, .inr (.inl (.inl q1)), (flat_v ra g.1).1, i1, i2.symm⟩)
    · rename_i ds _
      obtain ⟨p, ys, e1, e2, s1, s2, rfl⟩ := memT_some hm
      exact .inr (.inr (.inr ⟨p, ys, RT.dp hs a ra e1, RT.dp hs (.tup ds) rb (by simp [toPy, e2]), s1, s2, rfl⟩))
  · split at hm
    · rename_i x' z g
      cases hm
      exact .inr (.inr (.inl ⟨_, z, by rw [ra.str, ← str_one g], rb.str, rfl⟩))
    · cases hm
  · cases hm
theorem op_inT (hu : X.A.units + 65 < cLine) : OpR X (compareOp .In) (fun x y H Q => ∃ d ds, Dp X.K H x d ∧ Dp X.K H y (.tuple ds) ∧ SeqAt.shaped d = true ∧ SeqAt.shaped (.tuple ds) = true ∧ Q (.bl (ds.any fun z => PyData.eqv z d)) H) := by
  intro pins s σ H x y v u Q I rx ry h
  obtain ⟨d, ds, hd, he, sd, se, q⟩ := h
  obtain ⟨as, r1⟩ := Dp.reads I d x v hd rx
  obtain ⟨bs, r2⟩ := Dp.reads I (.tuple ds) y u he ry
  exact SeqAt.in_tuple_reads r2 r1 (SeqAt.canLay_of_shaped se) (SeqAt.canLay_of_shaped sd) (room_in_shaped sd hu) ⟨.bl _, H, I, rfl, q⟩
theorem op_notInT (hu : X.A.units + 65 < cLine) : OpR X (compareOp .NotIn) (fun x y H Q => ∃ d ds, Dp X.K H x d ∧ Dp X.K H y (.tuple ds) ∧ SeqAt.shaped d = true ∧ SeqAt.shaped (.tuple ds) = true ∧ Q (.bl (!ds.any fun z => PyData.eqv z d)) H) := by
  intro pins s σ H x y v u Q I rx ry h
  obtain ⟨d, ds, hd, he, sd, se, q⟩ := h
  obtain ⟨as, r1⟩ := Dp.reads I d x v hd rx
  obtain ⟨bs, r2⟩ := Dp.reads I (.tuple ds) y u he ry
  exact SeqAt.notIn_tuple_reads r2 r1 (SeqAt.canLay_of_shaped se) (SeqAt.canLay_of_shaped sd) (room_in_shaped sd hu) ⟨.bl _, H, I, rfl, q⟩
theorem o_mem (hu : X.A.units + 65 < cLine) : OpR X (compareOp .In) (fun x y H Q => PR X.K ct .mem [x, y] H Q) := by
  intro pins s σ H x y v u Q I rx ry h
  obtain ⟨E, ds, d, eK, rfl, rfl, hs, hx, hf, k⟩ := h.q rfl
  obtain ⟨a, b, ca, cb, rfl, ra, rb⟩ := rx2 hx
  replace hf : (memO a b).map .bl = some d := hf
  replace hf := Option.map_eq_some_iff.mp hf
  obtain ⟨kk, hm, rfl⟩ := hf
  rcases mem_at hs ra rb hm (K := X.K) with ⟨d, ds, h1, h2, h3, h4, rfl⟩ | ⟨p, vs, h1, h2, h3, h4, rfl⟩ | ⟨c, z, h1, h2, rfl⟩ | ⟨d, ds, h1, h2, h3, h4, rfl⟩
  · exact op_inD hu pins s σ _ x y v u Q I rx ry ⟨d, ds, h1, h2, h3, h4, k _ rt_bl⟩
  · exact op_in_seq pins s σ _ x y v u Q I rx ry ⟨p, vs, h1, h2, h3, h4, k _ rt_bl⟩
  · exact op_in_sign pins s σ _ x y v u Q I rx ry ⟨c, z, h1, h2, k _ rt_bl⟩
  · exact op_inT hu pins s σ _ x y v u Q I rx ry ⟨d, ds, h1, h2, h3, h4, k _ rt_bl⟩
theorem o_nmem (hu : X.A.units + 65 < cLine) : OpR X (compareOp .NotIn) (fun x y H Q => PR X.K ct .nmem [x, y] H Q) := by
  intro pins s σ H x y v u Q I rx ry h
  obtain ⟨E, ds, d, eK, rfl, rfl, hs, hx, hf, k⟩ := h.q rfl
  obtain ⟨a, b, ca, cb, rfl, ra, rb⟩ := rx2 hx
  replace hf : ((memO a b).map fun k => .bl (!k)) = some d := hf
  replace hf := Option.map_eq_some_iff.mp hf
  obtain ⟨kk, hm, rfl⟩ := hf
  rcases mem_at hs ra rb hm (K := X.K) with ⟨d, ds, h1, h2, h3, h4, rfl⟩ | ⟨p, vs, h1, h2, h3, h4, rfl⟩ | ⟨c, z, h1, h2, rfl⟩ | ⟨d, ds, h1, h2, h3, h4, rfl⟩
  · exact op_notInD hu pins s σ _ x y v u Q I rx ry ⟨d, ds, h1, h2, h3, h4, k _ rt_bl⟩
  · exact op_notIn_seq pins s σ _ x y v u Q I rx ry ⟨p, vs, h1, h2, h3, h4, k _ rt_bl⟩
  · exact op_notIn_sign pins s σ _ x y v u Q I rx ry ⟨c, z, h1, h2, k _ rt_bl⟩
  · exact op_notInT hu pins s σ _ x y v u Q I rx ry ⟨d, ds, h1, h2, h3, h4, k _ rt_bl⟩
theorem RTs.atI {E : Hw} {ds : List D} {vs : List V} {c : Cn} {i : Int} {d d' : D} (h : RTs E ds vs c) (e : (atI ds i).bind okA = some d') : ∃ v, L2.atI vs i = some v ∧ RT E d' v cz := by
  unfold L2.atI at e ⊢
  rw [← h.length]
  cases q : ixN ds.length i with
  | none => rw [q] at e; cases e
  | some j =>
    rw [q] at e
    have e : (ds[j]?).bind okA = some d' := e
    cases q2 : ds[j]? with
    | none => rw [q2] at e; cases e
    | some d0 =>
      rw [q2] at e
      obtain ⟨v, c', e', r⟩ := RTs.at h q2
      obtain ⟨rfl, r⟩ := r.okA (show okA d0 = some d' from e)
      exact ⟨v, e', r⟩
/-- o[i] where o is no dict -/
theorem o_ix : IxR X (fun x y H Q => PR X.K ct .ix [x, y] H Q) := by
  intro value slice pins s σ H x y v u Q I rx ry h hsl
  obtain ⟨E, ds, d, eK, rfl, rfl, hs, hx, hf, q⟩ := h.q rfl
  obtain ⟨a, b, ca, cb, rfl, ra, rb⟩ := rx2 hx
  replace hx : ixD a b = some d := hf
  unfold ixD at hx
  split at hx
  · obtain ⟨p, vs, c', e, q1, t, _⟩ := lst_at hs ra
    obtain ⟨w, e', r⟩ := t.atI (d := d) hx
    exact ix_list value slice pins s σ _ x y v u Q I rx ry ⟨p, vs, _, w, e, rb.int, .inl (.inl q1), e', q w r⟩ hsl
  · obtain ⟨p, vs, e, _, q1, t⟩ := tup_at hs ra
    obtain ⟨w, e', r⟩ := t.atI (d := d) hx
    exact ix_tup value slice pins s σ _ x y v u Q I rx ry ⟨p, vs, _, w, e, rb.int, .inl (.inl q1), e', q w r⟩ hsl
  · rename_i ns i
    simp only [RT] at ra
    obtain ⟨_, p, e, q1⟩ := ra
    rw [eK] at q1
    have q1 := sqL_mono hs q1
    rw [Option.map_eq_some_iff] at hx
    obtain ⟨n, e1, rfl⟩ := hx
    refine ix_list value slice pins s σ _ x y v u Q I rx ry ⟨p, _, _, .int n, e, rb.int, q1, ?_, q _ rt_int⟩ hsl
    unfold L2.atI at e1 ⊢
    rw [List.length_map]
    cases q3 : ixN ns.length i with
    | none => rw [q3] at e1; cases e1
    | some j =>
      rw [q3] at e1
      have e1 : ns[j]? = some n := e1
      show (ns.map V.int)[j]? = some (V.int n)
      rw [List.getElem?_map, e1]
      rfl
  · split at hx
    · rename_i hl
      rw [Option.map_eq_some_iff] at hx
      obtain ⟨n, e1, rfl⟩ := hx
      exact ix_str value slice pins s σ _ x y v u Q I rx ry ⟨_, _, n, ra.str, rb.int, lim_ok hl, e1, q _ rt_str⟩ hsl
    · cases hx
  · cases hx
theorem cut_map (vs : List V) (ds : List D) (h : ds.length = vs.length) (lo hi : Option Int) : ∀ {E : Hw}, RTs E ds vs cz → RTs E (cutD ds lo hi) (cutV vs lo hi) cz := by
  intro E t
  unfold cutD cutV
  rw [h]
  have dr : ∀ (n : Nat) {ds : List D} {vs : List V}, RTs E ds vs cz → RTs E (ds.drop n) (vs.drop n) cz := by
    intro n
    induction n with
    | zero => intro ds vs t; exact t
    | succ n ih =>
      intro ds vs t
      cases ds with
      | nil => simp only [RTs] at t; rw [t.1]; simp [RTs]
      | cons d ds =>
        simp only [RTs] at t
        obtain ⟨v, vs', c1, c2, rfl, r, q, e⟩ := t
        obtain ⟨rfl, rfl⟩ := cadd_z e
        exact ih q
  have tk : ∀ (n : Nat) {ds : List D} {vs : List V}, RTs E ds vs cz → RTs E (ds.take n) (vs.take n) cz := by
    intro n
    induction n with
    | zero => intro ds vs t; simp [RTs]
    | succ n ih =>
      intro ds vs t
      cases ds with
      | nil => simp only [RTs] at t; rw [t.1]; simp [RTs]
      | cons d ds =>
        simp only [RTs] at t
        obtain ⟨v, vs', c1, c2, rfl, r, q, e⟩ := t
        obtain ⟨rfl, rfl⟩ := cadd_z e
        simp only [List.take_succ_cons, RTs]
        exact ⟨v, _, cz, cz, rfl, r, ih q, rfl⟩
  exact tk _ (dr _ t)
/-- slices of lists, of texts -/
theorem o_sl : SlR X (fun x lo hi H Q => ∃ (E : Hw) (a d : D) (ca : Cn), E.K = X.K ∧ E.H = H ∧ (∀ a o, E.F a = some o → E.H a = some o) ∧ RT E a x ca ∧ slD a lo hi = some d ∧
    ∀ (v : V) (E' : Hw) (c : Cn), New E E' → RT E' d v c → (∀ q, c q ≤ 1) → (∀ q, c q ≠ 0 → E.H q = none ∧ E'.F q = none) → Q v E'.H) := by
  intro pins s σ H x v vl vu lo hi sl Q I rx hsl pl pu h
  obtain ⟨E, a, d, ca, eK, rfl, hs, ra, hx, k⟩ := h
  unfold slD at hx
  split at hx
  · split at hx
    · rename_i g
      cases hx
      obtain ⟨p, vs, c', e, q1, t, _⟩ := lst_at hs ra
      have t := t.fz g
      exact sl_list pins s σ _ x v vl vu lo hi sl Q I rx hsl pl pu ⟨p, vs, e, .inl (.inl q1), fun q hq => list_end hs k (cut_map _ _ t.length _ _ t) hq⟩
    · cases hx
  · split at hx
    · rename_i g
      cases hx
      exact sl_str pins s σ _ x v vl vu lo hi sl Q I rx hsl pl pu ⟨_, ra.str, lim_ok g, flat_end hs k rt_str⟩
    · cases hx
  · cases hx
/-! ### built-ins by name -/
theorem PR.one {K : PySem.W.Frag} {p : Pr} {xs : List V} {H : Hp} {Q : VK} {f : D → Option D} (h : PR K ct p xs H Q) (h1 : p.fn = fn1 f) : ∃ (E : Hw) (a d : D) (x : V) (ca : Cn), xs = [x] ∧ E.K = K ∧ E.ct = ct ∧ E.H = H ∧ (∀ a o, E.F a = some o → E.H a = some o) ∧ RT E a x ca ∧ f a = some d ∧
    (p.quiet = true → ∀ v, RT E d v cz → Q v H) ∧
    (p.quiet = false → ∀ (v : V) (E' : Hw) (c : Cn), New E E' → RT E' d v c → (∀ q, c q ≤ 1) → (∀ q, c q ≠ 0 → E.H q = none ∧ E'.F q = none) → Q v E'.H) := by
  obtain ⟨E, ds, d, e1, e2, e3, hs, hx, hf, k⟩ := h
  rw [h1] at hf
  obtain ⟨a, rfl, hf⟩ := fn1_some hf
  simp only [RX] at hx
  obtain ⟨v, vs', c, rfl, r, rfl⟩ := hx
  refine ⟨E, a, d, v, c, rfl, e1, e2, e3, hs, r, hf, fun z => ?_, fun z => ?_⟩
  · rw [if_pos z] at k; exact k
  · rw [if_neg (by rw [z]; decide)] at k; exact k
theorem PR.two {K : PySem.W.Frag} {p : Pr} {xs : List V} {H : Hp} {Q : VK} {f : D → D → Option D} (h : PR K ct p xs H Q) (h1 : p.fn = fn2 f) : ∃ (E : Hw) (a b d : D) (x y : V) (ca cb : Cn), xs = [x, y] ∧ E.K = K ∧ E.ct = ct ∧ E.H = H ∧ (∀ a o, E.F a = some o → E.H a = some o) ∧ RT E a x ca ∧ RT E b y cb ∧ f a b = some d ∧
    (p.quiet = true → ∀ v, RT E d v cz → Q v H) ∧
    (p.quiet = false → ∀ (v : V) (E' : Hw) (c : Cn), New E E' → RT E' d v c → (∀ q, c q ≤ 1) → (∀ q, c q ≠ 0 → E.H q = none ∧ E'.F q = none) → Q v E'.H) := by
  obtain ⟨E, ds, d, e1, e2, e3, hs, hx, hf, k⟩ := h
  rw [h1] at hf
  obtain ⟨a, b, rfl, hf⟩ := fn2_some hf
  simp only [RX] at hx
  obtain ⟨v, vs', c, rfl, r, v', vs'', c', rfl, r', rfl⟩ := hx
  refine ⟨E, a, b, d, v, v', c, c', rfl, e1, e2, e3, hs, r, r', hf, fun z => ?_, fun z => ?_⟩
  · rw [if_pos z] at k; exact k
  · rw [if_neg (by rw [z]; decide)] at k; exact k
theorem c_len : CallR X (.builtin "len") (fun xs H Q => PR X.K ct .len xs H Q) := by
  intro pins s σ H xs us Q I r h
  obtain ⟨E, a, d, x, ca, rfl, eK, rfl, rfl, hs, ra, hf, k, _⟩ := h.one rfl
  replace hf := Option.map_eq_some_iff.mp hf
  obtain ⟨n, hl, rfl⟩ := hf
  have q := k rfl _ rt_int
  unfold lenD at hl
  split at hl
  · cases hl
    obtain ⟨p, vs, c', e, q1, t, _⟩ := lst_at hs ra
    rw [t.length] at q
    exact call_len_seq pins s σ _ _ us Q I r ⟨p, vs, by rw [e], .inl (.inl (.inl q1)), q⟩
  · cases hl
    obtain ⟨p, vs, e, _, q1, t⟩ := tup_at hs ra
    rw [t.length] at q
    exact call_len_seq pins s σ _ _ us Q I r ⟨p, vs, by rw [e], .inr (.inl (.inl q1)), q⟩
  · cases hl
    simp only [RT] at ra
    obtain ⟨_, p, e, q1⟩ := ra
    rw [eK] at q1
    have q1 := sqL_mono hs q1
    exact call_len_seq pins s σ _ _ us Q I r ⟨p, _, by rw [e], .inl q1, by rw [List.length_map]; exact q⟩
  · split at hl
    · rename_i g
      cases hl
      exact call_len_str pins s σ _ _ us Q I r ⟨_, by rw [ra.str], lim_ok g, q⟩
    · cases hl
  · cases hl
theorem c_lend : CallR X (.builtin "len") (fun xs H Q => PR X.K ct .lend xs H Q) := by
  intro pins s σ H xs us Q I r h
  obtain ⟨E, a, d, x, ca, rfl, eK, rfl, rfl, hs, ra, hf, k, _⟩ := h.one rfl
  replace hf := Option.map_eq_some_iff.mp hf
  obtain ⟨n, hl, rfl⟩ := hf
  have q := k rfl _ rt_int
  unfold lendD at hl
  split at hl
  · cases hl
    obtain ⟨p, kvs, c', e, q1, z, t⟩ := dic_at hs ra
    rw [← z, List.length_map] at q
    exact call_lenD pins s σ _ _ us Q I r ⟨p, kvs, by rw [e], q1, q⟩
  · cases hl
/-- isinstance(x, T) -/
theorem isi_ok {E : Hw} {a : D} {x : V} {c : Cn} {T : String} {k : Bool} {K : PySem.W.Frag} (hs : ∀ a o, E.F a = some o → E.H a = some o) (r : RT E a x c) (h : isiD T a = some k) : ∃ t, TyX K E.H x t ∧ PySem.W.kitOne K t (.type T) = some k := by
  unfold isiD at h
  rw [Option.bind_eq_some_iff] at h
  obtain ⟨n, hk, hb⟩ := h
  have fin : TyX K E.H x (.type n) := by
    cases a with
    | non => cases hk; rw [r.non]; exact .base .non
    | bl b => cases hk; rw [r.bl]; exact .base (.bl b)
    | int b => cases hk; rw [r.int]; exact .base (.int b)
    | str b => cases hk; rw [r.str]; exact .base (.str b)
    | lst o ds =>
      cases hk
      obtain ⟨p, vs, c', rfl, q1, t, _⟩ := lst_at hs r
      exact .base (.lst q1)
    | tup ds =>
      cases hk
      obtain ⟨p, vs, rfl, _, q1, t⟩ := tup_at hs r
      exact .base (.tup q1)
    | dic o ks ds =>
      cases hk
      obtain ⟨p, kvs, c', rfl, q1, z, t⟩ := dic_at hs r
      exact .base (.dK q1)
    | ins _ _ _ => cases hk
    | ref _ => cases hk
    | scr _ => cases hk
  exact ⟨_, fin, kit_ty hb⟩
theorem c_isi {T : String} : CallR X (.builtin "isinstance") (fun xs H Q => ∃ x, xs = [x, .ty T] ∧ PR X.K ct (.isi T) [x] H Q) := by
  intro pins s σ H xs us Q I r h
  obtain ⟨x, rfl, h⟩ := h
  obtain ⟨E, a, d, x', ca, e, eK, rfl, rfl, hs, ra, hf, k, _⟩ := h.one rfl
  cases e
  replace hf := Option.map_eq_some_iff.mp hf
  obtain ⟨kk, hl, rfl⟩ := hf
  obtain ⟨t, ty, ko⟩ := isi_ok (K := X.K) hs ra hl
  exact call_isi pins s σ _ _ us Q I r ⟨x, .ty T, t, _, kk, rfl, .ty T, ty, ko, k rfl _ rt_bl⟩
theorem c_int : CallR X (.type "int") (fun xs H Q => PR X.K ct .int1 xs H Q) := by
  intro pins s σ H xs us Q I r h
  obtain ⟨E, a, d, x, ca, rfl, eK, rfl, rfl, hs, ra, hf, k, _⟩ := h.one rfl
  cases a <;> first | (cases hf; done) | skip
  · cases hf
    exact call_int1 pins s σ _ _ us Q I r (.inr ⟨_, by rw [ra.bl], k rfl _ rt_int⟩)
  · cases hf
    exact call_int1 pins s σ _ _ us Q I r (.inl ⟨_, by rw [ra.int], k rfl _ rt_int⟩)
theorem c_str : CallR X (.type "str") (fun xs H Q => PR X.K ct .str1 xs H Q) := by
  intro pins s σ H xs us Q I r h
  obtain ⟨E, a, d, x, ca, rfl, eK, rfl, rfl, hs, ra, hf, k, _⟩ := h.one rfl
  cases a <;> first | (cases hf; done) | skip
  rename_i i
  replace hf : (if i.natAbs.log2 < 1920 then some (D.str (toString i)) else none) = some d := hf
  split at hf
  · rename_i hi
    cases hf
    exact call_str_int pins s σ _ _ us Q I r ⟨_, by rw [ra.int], hi, k rfl _ rt_str⟩
  · cases hf
theorem c_abs : CallR X (.builtin "abs") (fun xs H Q => PR X.K ct .abs xs H Q) := by
  intro pins s σ H xs us Q I r h
  obtain ⟨E, a, d, x, ca, rfl, eK, rfl, rfl, hs, ra, hf, k, _⟩ := h.one rfl
  cases a <;> first | (cases hf; done) | skip
  cases hf
  exact call_abs pins s σ _ _ us Q I r ⟨_, by rw [ra.int], k rfl _ rt_int⟩
theorem c_max2 (hc : X.calm = true) : CallR X (.builtin "max") (fun xs H Q => PR X.K ct .max2 xs H Q) := by
  intro pins s σ H xs us Q I r h
  obtain ⟨E, a, b, d, x, y, ca, cb, rfl, eK, rfl, rfl, hs, ra, rb, hf, k, _⟩ := h.two rfl
  cases a <;> cases b <;> first | (cases hf; done) | skip
  cases hf
  exact call_max2 hc pins s σ _ _ us Q I r ⟨_, _, by rw [ra.int, rb.int], k rfl _ rt_int⟩
theorem c_min2 (hc : X.calm = true) : CallR X (.builtin "min") (fun xs H Q => PR X.K ct .min2 xs H Q) := by
  intro pins s σ H xs us Q I r h
  obtain ⟨E, a, b, d, x, y, ca, cb, rfl, eK, rfl, rfl, hs, ra, rb, hf, k, _⟩ := h.two rfl
  cases a <;> cases b <;> first | (cases hf; done) | skip
  cases hf
  exact call_min2 hc pins s σ _ _ us Q I r ⟨_, _, by rw [ra.int, rb.int], k rfl _ rt_int⟩
theorem ints_v {E : Hw} : ∀ {ds : List D} {vs : List V} {c : Cn} {ns : List Int}, RTs E ds vs c → intsD ds = some ns → vs = ns.map V.int
  | [], _, _, _, t, h => by simp only [RTs] at t; cases h; rw [t.1]; rfl
  | d :: ds, _, _, _, t, h => by
    simp only [RTs] at t
    obtain ⟨v, vs', c1, c2, rfl, r, q, rfl⟩ := t
    cases d <;> first | (cases h; done) | skip
    simp only [intsD, Option.map_eq_some_iff] at h
    obtain ⟨ms, h, rfl⟩ := h
    rw [r.int, ints_v q h]
    rfl
theorem bools_v {E : Hw} : ∀ {ds : List D} {vs : List V} {c : Cn} {ns : List Bool}, RTs E ds vs c → boolsD ds = some ns → vs = ns.map V.bl
  | [], _, _, _, t, h => by simp only [RTs] at t; cases h; rw [t.1]; rfl
  | d :: ds, _, _, _, t, h => by
    simp only [RTs] at t
    obtain ⟨v, vs', c1, c2, rfl, r, q, rfl⟩ := t
    cases d <;> first | (cases h; done) | skip
    simp only [boolsD, Option.map_eq_some_iff] at h
    obtain ⟨ms, h, rfl⟩ := h
    rw [r.bl, bools_v q h]
    rfl
theorem strs_v {E : Hw} : ∀ {ds : List D} {vs : List V} {c : Cn} {ns : List Str}, RTs E ds vs c → strsD ds = some ns → vs = ns.map V.str
  | [], _, _, _, t, h => by simp only [RTs] at t; cases h; rw [t.1]; rfl
  | d :: ds, _, _, _, t, h => by
    simp only [RTs] at t
    obtain ⟨v, vs', c1, c2, rfl, r, q, rfl⟩ := t
    cases d <;> first | (cases h; done) | skip
    simp only [strsD, Option.map_eq_some_iff] at h
    obtain ⟨ms, h, rfl⟩ := h
    rw [r.str, strs_v q h]
    rfl
theorem c_sum (hc : X.calm = true) : CallR X (.builtin "sum") (fun xs H Q => PR X.K ct .sum xs H Q) := by
  intro pins s σ H xs us Q I r h
  obtain ⟨E, a, d, x, ca, rfl, eK, rfl, rfl, hs, ra, hf, k, _⟩ := h.one rfl
  cases a <;> first | (cases hf; done) | skip
  rw [sumD, Option.map_eq_some_iff] at hf
  obtain ⟨ns, hn, rfl⟩ := hf
  obtain ⟨p, vs, c', rfl, q1, t, _⟩ := lst_at hs ra
  have e := ints_v t hn
  subst e
  exact cr_sum hc pins s σ _ _ us Q I r ⟨p, ns, rfl, .inl (.inl q1), k rfl _ rt_int⟩
theorem c_all (hc : X.calm = true) : CallR X (.builtin "all") (fun xs H Q => PR X.K ct .all xs H Q) := by
  intro pins s σ H xs us Q I r h
  obtain ⟨E, a, d, x, ca, rfl, eK, rfl, rfl, hs, ra, hf, k, _⟩ := h.one rfl
  cases a <;> first | (cases hf; done) | skip
  rw [allD, Option.map_eq_some_iff] at hf
  obtain ⟨ns, hn, rfl⟩ := hf
  obtain ⟨p, vs, c', rfl, q1, t, _⟩ := lst_at hs ra
  have e := bools_v t hn
  subst e
  exact cr_all hc pins s σ _ _ us Q I r ⟨p, ns, rfl, .inl (.inl q1), k rfl _ rt_bl⟩
theorem c_any (hc : X.calm = true) : CallR X (.builtin "any") (fun xs H Q => PR X.K ct .any xs H Q) := by
  intro pins s σ H xs us Q I r h
  obtain ⟨E, a, d, x, ca, rfl, eK, rfl, rfl, hs, ra, hf, k, _⟩ := h.one rfl
  cases a <;> first | (cases hf; done) | skip
  rw [anyD, Option.map_eq_some_iff] at hf
  obtain ⟨ns, hn, rfl⟩ := hf
  obtain ⟨p, vs, c', rfl, q1, t, _⟩ := lst_at hs ra
  have e := bools_v t hn
  subst e
  exact cr_any hc pins s σ _ _ us Q I r ⟨p, ns, rfl, .inl (.inl q1), k rfl _ rt_bl⟩
theorem c_list : CallR X (.type "list") (fun xs H Q => PR X.K ct .list xs H Q) := by
  intro pins s σ H xs us Q I r h
  obtain ⟨E, a, d, x, ca, rfl, eK, rfl, rfl, hs, ra, hf, _, k⟩ := h.one rfl
  have k := k rfl
  unfold listD at hf
  split at hf
  · split at hf
    · rename_i g
      cases hf
      obtain ⟨p, vs, c', rfl, q1, t, _⟩ := lst_at hs ra
      exact call_list_of pins s σ _ _ us Q I r ⟨p, vs, rfl, .inl (.inl (.inl q1)), fun q hq => list_end hs k (t.fz g) hq⟩
    · cases hf
  · split at hf
    · rename_i g
      cases hf
      obtain ⟨p, vs, rfl, _, q1, t⟩ := tup_at hs ra
      exact call_list_of pins s σ _ _ us Q I r ⟨p, vs, rfl, .inr (.inl (.inl q1)), fun q hq => list_end hs k (t.fz g) hq⟩
    · cases hf
  · cases hf
theorem c_tuple : CallR X (.type "tuple") (fun xs H Q => PR X.K ct .tuple xs H Q) := by
  intro pins s σ H xs us Q I r h
  obtain ⟨E, a, d, x, ca, rfl, eK, rfl, rfl, hs, ra, hf, _, k⟩ := h.one rfl
  have k := k rfl
  unfold tupleD at hf
  split at hf
  · split at hf
    · rename_i g
      cases hf
      obtain ⟨p, vs, c', rfl, q1, t, _⟩ := lst_at hs ra
      exact call_tuple_of pins s σ _ _ us Q I r ⟨p, vs, rfl, .inl ⟨.inl (.inl q1), fun q hq => tup_end hs k (t.fz g) hq⟩⟩
    · cases hf
  · cases hf
end
end VI

/-! Expressions: what stands in the text, what the code says. -/
namespace VI
open PySem L2 PyProof.Rows

section
variable (X : Cx) (ct : Str → Addr) (W : WX) (T : Tab)
abbrev RT' : Hw → D → V → Cn → Prop := fun E d v c => RT E d v c
abbrev RTs' : Hw → List D → List V → Cn → Prop := fun E d v c => RTs E d v c
/-- a quiet expression -/
def tQ (c : Ex) : TE := fun σ H Q => ∃ (E : Hw) (s : VS) (ce : Cn) (d : D), E.K = X.K ∧ E.ct = ct ∧ E.H = H ∧ Wd E σ s ce ∧ evq T s c = some d ∧ ∀ v cc, RT E d v cc → Q v H
def tV (c : Ex) : TE := fun σ H Q => Run X.K ct W RT' (ev T c) σ H Q
/-- an operation's argument -/
def evA1 (T : Tab) : Ex → M AV
  | .var i => slotM i
  | a => (ev T a).bnd fun d => M.ret (.val (frz d))
def AVR (σ : L2.St) : Hw → AV → V → Cn → Prop := fun E a v c => c = cz ∧ match a with
  | .val d => RT E d v cz
  | .sl i => σ[i]? = some (some v)
def tA1 (c : Ex) : TE := fun σ H Q => Run X.K ct W (AVR σ) (evA1 T c) σ H Q
/-- a frozen argument -/
def RTf : Hw → D → V → Cn → Prop := fun E d v c => c = cz ∧ RT E d v cz
def tF1 (c : Ex) : TE := fun σ H Q => Run X.K ct W RTf ((ev T c).bnd fun d => M.ret (frz d)) σ H Q
def PQ (e : Expr) (c : Ex) : Prop := PE X e (tQ X ct T c)
def PV (e : Expr) (c : Ex) : Prop := PE X e (tV X ct W T c)
def PA1 (e : Expr) (c : Ex) : Prop := PE X e (tA1 X ct W T c)
def PF1 (e : Expr) (c : Ex) : Prop := PE X e (tF1 X ct W T c)
end

section
variable {X : Cx} {ct : Str → Addr} {W : WX} {T : Tab} {e a b : Expr} {c ca cb : Ex} {p : Pr}
/-! ### quiet things -/
theorem RE.val {E : Hw} {ρ : List (Option D)} {σ : L2.St} {c : Cn} {i : Nat} {d : D} (h : RE E ρ σ c) (e : ρ[i]? = some (some d)) : ∃ v c1, σ[i]? = some (some v) ∧ RT E d v c1 := by
  obtain ⟨v, c1, _, e1, r, _⟩ := h.at e
  exact ⟨v, c1, e1, r⟩
theorem pq_var {i : Nat} (h : PE X e (tVar i)) : PQ X ct T e (.var i) := PE.weak h fun σ H Q q => by
  obtain ⟨E, s, ce, d, eK, ec, rfl, w, h, k⟩ := q
  obtain ⟨c1, c2, re, _⟩ := w.own
  simp only [evq] at h
  split at h
  · rename_i d' e1
    cases h
    obtain ⟨v, cc, ev, r⟩ := re.val e1
    exact ⟨v, ev, k v cc r⟩
  · cases h
/-- the constants -/
def conV : D → Option V
  | .non => some .non
  | .bl b => some (.bl b)
  | .int i => some (.int i)
  | .str s => some (.str s)
  | _ => none
theorem conV_rt {E : Hw} {d : D} {v : V} (h : conV d = some v) : RT E d v cz := by
  cases d <;> first | (cases h; done) | (cases h; simp only [RT]; exact ⟨trivial, trivial⟩)
theorem pq_con {d : D} {v : V} (hv : conV d = some v) (h : PE X e (tC v)) : PQ X ct T e (.con d) := PE.weak h fun σ H Q q => by
  obtain ⟨E, s, ce, d', eK, ec, rfl, w, h, k⟩ := q
  simp only [evq] at h
  cases h
  exact k v cz (conV_rt hv)
theorem pq_glo {x : Str} {d : D} {v : V} (hg : T.glo x = some d) (hv : conV d = some v) (h : PE X e (tC v)) : PQ X ct T e (.glo x) := PE.weak h fun σ H Q q => by
  obtain ⟨E, s, ce, d', eK, ec, rfl, w, h, k⟩ := q
  simp only [evq] at h
  rw [hg] at h
  cases h
  exact k v cz (conV_rt hv)
theorem look_fs : ∀ {fs : List (Str × V)} {ks : List Str} {ds : List D} {E : Hw} {c : Cn} (k : Str) {d : D}, fs.map (·.1) = ks → RTs E ds (fs.map (·.2)) c → look ks ds k = some d → ∃ v c', fs.lookup k = some v ∧ RT E d v c'
  | [], _, ds, _, _, k, d, e, t, h => by
    subst e
    cases ds with
    | nil => simp [look] at h
    | cons d ds => simp only [RTs, List.map_nil] at t; obtain ⟨_, _, _, _, z, _⟩ := t; cases z
  | (k', v) :: kvs, _, ds, E, _, k, d, e, t, h => by
    subst e
    cases ds with
    | nil => simp only [RTs, List.map_cons] at t; cases t.1
    | cons d0 ds =>
      simp only [RTs, List.map_cons] at t
      obtain ⟨v', vs', c1, c2, z, r, q, rfl⟩ := t
      cases z
      simp only [List.map_cons, look] at h
      by_cases y : k' = k
      · rw [if_pos y] at h
        cases h
        subst y
        exact ⟨v, c1, by rw [List.lookup_cons, beq_self_eq_true], r⟩
      · rw [if_neg y] at h
        obtain ⟨v2, c3, e2, r2⟩ := look_fs (fs := kvs) (ds := ds) k rfl q h
        refine ⟨v2, c3, ?_, r2⟩
        rw [List.lookup_cons, show (k == k') = false from beq_eq_false_iff_ne.mpr fun z => y z.symm]
        exact e2
theorem RM.at {E : Hw} : ∀ {μ : List RO} {A : List Addr} {c : Cn} {k : Nat} {r : RO} {a : Addr}, RM E μ A c → μ[k]? = some r → A[k]? = some a → ∃ dx fs c1, E.H a = some (.ins (E.ct r.cls) dx fs) ∧ fs.map (·.1) = r.fn ∧ RTs E r.ds (fs.map (·.2)) c1
  | [], _, _, _, _, _, _, e, _ => by simp at e
  | r :: μ, _, _, 0, _, _, h, e, ea => by
    simp only [RM] at h
    obtain ⟨a, A', dx, fs, c1, c2, rfl, q, z, t, m, rfl⟩ := h
    simp only [List.getElem?_cons_zero, Option.some.injEq] at e ea
    subst e ea
    exact ⟨dx, fs, c1, q, z, t⟩
  | r :: μ, _, _, k + 1, _, _, h, e, ea => by
    simp only [RM] at h
    obtain ⟨a, A', dx, fs, c1, c2, rfl, q, z, t, m, rfl⟩ := h
    simp only [List.getElem?_cons_succ] at e ea
    exact RM.at m e ea
theorem pq_fld {o : Expr} {q : Ex} {C f : Str} (h : PQ X ct T o q) (sh : ∀ to, PE X o to → PE X e (tFld X.K to f)) (hc : Cls X.K (ct C)) (hn : NoAttr X.K (ct C) f) : PQ X ct T e (.fld C q f) := PE.weak (sh _ h) fun σ H Q z => by
  obtain ⟨E, s, ce, d, eK, rfl, rfl, w, h, k⟩ := z
  simp only [evq] at h
  split at h
  · rename_i k' e1
    refine ⟨E, s, ce, _, eK, rfl, rfl, w, e1, fun v cc r => ?_⟩
    simp only [RT] at r
    obtain ⟨_, a, rfl, ea⟩ := r
    obtain ⟨c1, c2, _, rm, _⟩ := w.own
    rw [Option.bind_eq_some_iff] at h
    obtain ⟨r, er, h⟩ := h
    split at h
    · rename_i ecls
      obtain ⟨dx, fs, c3, hh, hk, ht⟩ := rm.at er ea
      rw [ecls] at hh
      obtain ⟨v, c4, el, r⟩ := look_fs f hk ht h
      exact ⟨a, E.ct C, dx, fs, v, rfl, hh, hc, hn, el, k v c4 r⟩
    · cases h
  · rename_i C' fn ds e1
    refine ⟨E, s, ce, _, eK, rfl, rfl, w, e1, fun v cc r => ?_⟩
    simp only [RT] at r
    obtain ⟨_, a, dx, fs, rfl, ha, hk, ht⟩ := r
    split at h
    · rename_i ecls
      rw [ecls] at ha
      obtain ⟨v, c4, el, r⟩ := look_fs f hk ht h
      exact ⟨a, E.ct C, dx, fs, v, rfl, w.same _ _ ha, hc, hn, el, k v c4 r⟩
    · cases h
  · cases h
/-- all arguments quiet -/
def tQs (X : Cx) (ct : Str → Addr) (T : Tab) : List Ex → TA
  | [] => tNil
  | a :: as => tCons (tQ X ct T a) (tQs X ct T as)
theorem tQs_ok {E : Hw} {s : VS} {ce : Cn} {σ : L2.St} (eK : E.K = X.K) (ec : E.ct = ct) (w : Wd E σ s ce) : ∀ {as : List Ex} {ds : List D} {Q : List V → Hp → Prop}, evqs T s as = some ds → (∀ vs, RX E ds vs → Q vs E.H) → tQs X ct T as σ E.H Q
  | [], _, _, h, k => by
    simp only [evqs] at h
    cases h
    exact k [] rfl
  | a :: as, _, Q, h, k => by
    simp only [evqs] at h
    split at h
    · rename_i d ds e1 e2
      cases h
      refine ⟨E, s, ce, d, eK, ec, rfl, w, e1, fun v cc r => ?_⟩
      exact tQs_ok eK ec w e2 fun vs rx => k (v :: vs) ⟨v, vs, cc, rfl, r, rx⟩
    · cases h
/-- an operation with quiet arguments, whatever its place in the text (sh) -/
theorem imp_pq {as : List Ex} {σ : L2.St} {H : Hp} {Q : VK} (hq : p.quiet = true) (z : tQ X ct T (.pr p as) σ H Q) : tQs X ct T as σ H fun vs H1 => PR X.K ct p vs H1 Q := by
  obtain ⟨E, s, ce, d, eK, ec, rfl, w, h, k⟩ := z
  simp only [evq] at h
  rw [Option.bind_eq_some_iff] at h
  obtain ⟨ds, e1, h⟩ := h
  refine tQs_ok eK ec w e1 fun vs rx => ⟨E, ds, d, eK, ec, rfl, w.same, rx, h, ?_⟩
  rw [if_pos hq]
  exact fun v r => k v cz r
theorem pq_pr {as : List Ex} (sh : PE X e (fun σ H Q => tQs X ct T as σ H fun vs H1 => PR X.K ct p vs H1 Q)) (hq : p.quiet = true) : PQ X ct T e (.pr p as) := PE.weak sh fun σ H Q z => imp_pq hq z
/-- .. as a value -/
theorem ev_q {c : Ex} (h : isQ c = true) (s : VS) : ev T c s = match evq T s c with
    | some d => if allF d then some (.ok d s) else none
    | none => none := by
  cases c <;> first | (simp [isQ] at h; done) | skip
  · simp only [ev, evq]
    all_goals (cases h : s.ρ[‹Nat›]? with
    | none => rfl
    | some o => cases o <;> rfl)
  · simp only [ev, evq]
  · simp only [ev, evq]
    all_goals (cases T.glo ‹Str› <;> rfl)
  · rename_i C q f
    simp only [ev]
    all_goals (cases evq T s (.fld C q f) <;> rfl)
  · rename_i p as
    have h' : (p.quiet && isQs as) = true := by simpa [isQ] using h
    rw [ev, if_pos h']
    all_goals (cases evq T s (.pr p as) <;> rfl)
theorem imp_q {σ : L2.St} {H : Hp} {Q : VK} (hq : isQ c = true) (z : tV X ct W T c σ H Q) : tQ X ct T c σ H Q := by
  obtain ⟨E, s, ce, eK, ec, rfl, w, z⟩ := z
  have e0 := ev_q (T := T) hq s
  cases q : evq T s c with
  | none =>
    rw [q] at e0
    rw [RA.non e0] at z
    exact z.elim
  | some d =>
    rw [q] at e0
    refine ⟨E, s, ce, d, eK, ec, rfl, w, q, fun v cc r => ?_⟩
    by_cases g : allF d = true
    · rw [RA.ok (e0.trans (if_pos g))] at z
      have e := RT.allF d r g
      subst e
      exact z v E cz (Step.refl _ _) r w
    · rw [RA.non (e0.trans (if_neg g))] at z
      exact z.elim
theorem pv_q (h : PQ X ct T e c) (hq : isQ c = true) : PV X ct W T e c := PE.weak h fun σ H Q z => imp_q hq z
/-! ### values on the way -/
theorem pv_frv {i : Nat} (h : PE X e (tVar i)) : PV X ct W T e (.frv i) := PE.weak h fun σ H Q z => by
  obtain ⟨E, s, ce, eK, ec, rfl, w, z⟩ := z
  unfold RA at z
  simp only [ev] at z
  cases e1 : s.ρ[i]? with
  | none => rw [e1] at z; exact z.elim
  | some o =>
   cases o with
   | none => rw [e1] at z; exact z.elim
   | some d =>
    rw [e1] at z
    obtain ⟨c1, c2, re, rm, t, f⟩ := w.own
    obtain ⟨v, cd, c1', e2, r, rfl, re'⟩ := re.at e1
    have w1 : Wd E σ ⟨s.ρ.set i none, s.μ⟩ (cadd ce cd) := ⟨w.same, ⟨c1', c2, re', rm, fun p => by have := t p; simp only [cadd] at this ⊢; omega, fun p n => f p (by simp only [cadd] at n ⊢; omega)⟩, fun p n => by
      by_cases z : ce p = 0
      · exact RT.dom d r p (by simpa [cadd, z] using n)
      · exact w.ex p z⟩
    obtain ⟨E', st, eH, r', w'⟩ := w1.freeze r
    have il : i < s.ρ.length := (List.getElem?_eq_some_iff.mp e1).1
    obtain ⟨c3, c4, re3, rm3, t3, f3⟩ := w'.own
    refine ⟨v, e2, ?_⟩
    have q := z v E' cz st r' ⟨w'.same, ⟨cadd cz c3, c4, ?_, rm3, fun p => by have := t3 p; simp only [cadd, cz]; omega, fun p n => f3 p (by simp only [cadd, cz] at n; omega)⟩, w'.ex⟩
    · rw [eH] at q; exact q
    · have re4 := RE.put (i := i) (d := frz d) (v := v) re3 (by simp [il]) r'
      have es : σ.set i (some v) = σ := by
        apply List.ext_getElem?
        intro j
        by_cases y : j = i
        · subst y; rw [List.getElem?_set_self (List.getElem?_eq_some_iff.mp e2).1]; exact e2.symm
        · rw [List.getElem?_set_ne (Ne.symm y)]
      rw [es] at re4
      have es2 : (s.ρ.set i none).set i (some (frz d)) = s.ρ.set i (some (frz d)) := List.set_set _
      rw [es2] at re4
      exact re4
theorem pv_mov {i : Nat} (h : PE X e (tVar i)) : PV X ct W T e (.mov i) := PE.weak h fun σ H Q z => by
  obtain ⟨E, s, ce, eK, ec, rfl, w, z⟩ := z
  unfold RA at z
  simp only [ev] at z
  cases e1 : s.ρ[i]? with
  | none => rw [e1] at z; exact z.elim
  | some o =>
   cases o with
   | none => rw [e1] at z; exact z.elim
   | some d =>
    rw [e1] at z
    obtain ⟨c1, c2, re, rm, t, f⟩ := w.own
    obtain ⟨v, cd, c1', e2, r, rfl, re'⟩ := re.at e1
    have w1 : Wd E σ ⟨s.ρ.set i none, s.μ⟩ (cadd ce cd) := ⟨w.same, ⟨c1', c2, re', rm, fun p => by have := t p; simp only [cadd] at this ⊢; omega, fun p n => f p (by simp only [cadd] at n ⊢; omega)⟩, fun p n => by
      by_cases z : ce p = 0
      · exact RT.dom d r p (by simpa [cadd, z] using n)
      · exact w.ex p z⟩
    exact ⟨v, e2, z v E cd (Step.refl _ _) r w1⟩
theorem pf_of (h : PV X ct W T e c) : PF1 X ct W T e c := PE.weak h fun σ H Q z => by
  obtain ⟨E, s, ce, eK, ec, rfl, w, z⟩ := z
  refine ⟨E, s, ce, eK, ec, rfl, w, z.bnd fun d v E1 s1 c st r w1 z1 => ?_⟩
  obtain ⟨E', st', eH, r', w'⟩ := w1.freeze r
  have q := z1.ret st' (b := v) ⟨rfl, r'⟩ w'
  rw [eH] at q
  exact q
theorem pa_var {i : Nat} (h : PE X e (tVar i)) : PA1 X ct W T e (.var i) := PE.weak h fun σ H Q z => by
  obtain ⟨E, s, ce, eK, ec, rfl, w, z⟩ := z
  unfold RA at z
  simp only [evA1, slotM] at z
  cases e1 : s.ρ[i]? with
  | none => rw [e1] at z; exact z.elim
  | some o =>
   cases o with
   | none => rw [e1] at z; exact z.elim
   | some d =>
    rw [e1] at z
    obtain ⟨c1, c2, re, rm, t, f⟩ := w.own
    obtain ⟨v, cd, e2, r⟩ := re.val e1
    exact ⟨v, e2, z v E cz (Step.refl _ _) ⟨rfl, e2⟩ w⟩
theorem pa_of (h : PV X ct W T e c) (hc : ∀ i, c ≠ .var i) : PA1 X ct W T e c := PE.weak h fun σ H Q z => by
  have e1 : evA1 T c = (ev T c).bnd fun d => M.ret (.val (frz d)) := by
    cases c <;> first | rfl | exact absurd rfl (hc _)
  unfold tA1 at z
  rw [e1] at z
  obtain ⟨E, s, ce, eK, ec, rfl, w, z⟩ := z
  refine ⟨E, s, ce, eK, ec, rfl, w, z.bnd fun d v E1 s1 c st r w1 z1 => ?_⟩
  obtain ⟨E', st', eH, r', w'⟩ := w1.freeze r
  have q := z1.ret st' (b := v) ⟨rfl, r'⟩ w'
  rw [eH] at q
  exact q

/-! ### argument lists -/
theorem evA_cons (a : Ex) (as : List Ex) : evA T (a :: as) = (evA1 T a).bnd fun v => (evA T as).bnd fun vs => M.ret (v :: vs) := by
  have go : ∀ m : M D, (m.bnd fun d => (evA T as).bnd fun ds => M.ret (.val (frz d) :: ds)) = ((m.bnd fun d => M.ret (.val (frz d))).bnd fun v => (evA T as).bnd fun vs => M.ret (v :: vs)) := fun m => by
    funext s
    unfold M.bnd M.ret
    cases m s with
    | none => rfl
    | some r => cases r <;> rfl
  cases a <;> first | rfl | exact go _
def AVRs (σ : L2.St) (E : Hw) : List AV → List V → Prop
  | [], vs => vs = []
  | a :: as, vs => ∃ v vs', vs = v :: vs' ∧ AVR σ E a v cz ∧ AVRs σ E as vs'
def AVRz (σ : L2.St) : Hw → List AV → List V → Cn → Prop := fun E as vs c => c = cz ∧ AVRs σ E as vs
theorem AVR.mono {σ : L2.St} {E E' : Hw} {a : AV} {v : V} {c : Cn} (h : AVR σ E a v cz) (s : Step E c E') : AVR σ E' a v cz := by
  refine ⟨rfl, ?_⟩
  cases a with
  | val d => exact RT.mono d (s.less fun p h => absurd rfl h) h.2
  | sl i => exact h.2
def tL (X : Cx) (ct : Str → Addr) (W : WX) (f : Ex → M AV) : List Ex → TA
  | [] => tNil
  | a :: as => tCons (fun σ H Q => Run X.K ct W (AVR σ) (f a) σ H Q) (tL X ct W f as)
theorem tL_ok {f : Ex → M AV} {fs : List Ex → M (List AV)} (f0 : fs [] = M.ret []) (f1 : ∀ a as, fs (a :: as) = (f a).bnd fun v => (fs as).bnd fun vs => M.ret (v :: vs)) : ∀ {as : List Ex} {σ : L2.St} {E : Hw} {s : VS} {ce : Cn} {Q : List V → Hp → Prop}, E.K = X.K → E.ct = ct → Wd E σ s ce → RA W (AVRz σ) (fs as) σ E s ce Q → tL X ct W f as σ E.H Q
  | [], σ, E, s, ce, Q, eK, ec, w, h => by
    rw [f0] at h
    exact h.ret (Step.refl _ _) (b := []) ⟨rfl, rfl⟩ w
  | a :: as, σ, E, s, ce, Q, eK, ec, w, h => by
    rw [f1] at h
    refine ⟨E, s, ce, eK, ec, rfl, w, h.bnd fun va v E1 s1 c st r w1 z => ?_⟩
    have ecz : c = cz := r.1
    subst ecz
    refine tL_ok f0 f1 (st.k.trans eK) (st.ct.trans ec) w1 (z.bnd fun vas vs E2 s2 c2 st2 r2 w2 z2 => ?_)
    have ecz : c2 = cz := r2.1
    subst ecz
    exact z2.ret (Step.refl _ _) (b := v :: vs) ⟨rfl, v, vs, rfl, r.mono st2, r2.2⟩ w2
def tAs (X : Cx) (ct : Str → Addr) (W : WX) (T : Tab) : List Ex → TA := tL X ct W (evA1 T)
theorem tAs_ok {as : List Ex} {σ : L2.St} {E : Hw} {s : VS} {ce : Cn} {Q : List V → Hp → Prop} (eK : E.K = X.K) (ec : E.ct = ct) (w : Wd E σ s ce) (h : RA W (AVRz σ) (evA T as) σ E s ce Q) : tAs X ct W T as σ E.H Q :=
  tL_ok (by simp only [evA]) evA_cons eK ec w h
/-- an argument of a call -/
def evG1 (T : Tab) : Ex → M AV
  | .io i => slotM i
  | a => (ev T a).bnd fun d => M.ret (.val (frz d))
theorem evG_cons (a : Ex) (as : List Ex) : evG T (a :: as) = (evG1 T a).bnd fun v => (evG T as).bnd fun vs => M.ret (v :: vs) := by
  have go : ∀ m : M D, (m.bnd fun d => (evG T as).bnd fun ds => M.ret (.val (frz d) :: ds)) = ((m.bnd fun d => M.ret (.val (frz d))).bnd fun v => (evG T as).bnd fun vs => M.ret (v :: vs)) := fun m => by
    funext s
    unfold M.bnd M.ret
    cases m s with
    | none => rfl
    | some r => cases r <;> rfl
  cases a <;> first | rfl | exact go _
def tGs (X : Cx) (ct : Str → Addr) (W : WX) (T : Tab) : List Ex → TA := tL X ct W (evG1 T)
theorem tGs_ok {as : List Ex} {σ : L2.St} {E : Hw} {s : VS} {ce : Cn} {Q : List V → Hp → Prop} (eK : E.K = X.K) (ec : E.ct = ct) (w : Wd E σ s ce) (h : RA W (AVRz σ) (evG T as) σ E s ce Q) : tGs X ct W T as σ E.H Q :=
  tL_ok (by simp only [evG]) evG_cons eK ec w h
def PG1 (X : Cx) (ct : Str → Addr) (W : WX) (T : Tab) (e : Expr) (c : Ex) : Prop := PE X e fun σ H Q => Run X.K ct W (AVR σ) (evG1 T c) σ H Q
theorem slot_run {i : Nat} {σ : L2.St} {H : Hp} {Q : VK} (z : Run X.K ct W (AVR σ) (slotM i) σ H Q) : tVar i σ H Q := by
  obtain ⟨E, s, ce, eK, ec, rfl, w, z⟩ := z
  unfold RA at z
  simp only [slotM] at z
  cases e1 : s.ρ[i]? with
  | none => rw [e1] at z; exact z.elim
  | some o =>
   cases o with
   | none => rw [e1] at z; exact z.elim
   | some d =>
    rw [e1] at z
    obtain ⟨c1, c2, re, rm, t, f⟩ := w.own
    obtain ⟨v, cd, e2, r⟩ := re.val e1
    exact ⟨v, e2, z v E cz (Step.refl _ _) ⟨rfl, e2⟩ w⟩
theorem pg_io {i : Nat} (h : PE X e (tVar i)) : PG1 X ct W T e (.io i) := PE.weak h fun σ H Q z => slot_run z
theorem pg_of (h : PV X ct W T e c) (hc : ∀ i, c ≠ .io i) : PG1 X ct W T e c := PE.weak h fun σ H Q z => by
  have e1 : evG1 T c = (ev T c).bnd fun d => M.ret (.val (frz d)) := by
    cases c <;> first | rfl | exact absurd rfl (hc _)
  rw [e1] at z
  obtain ⟨E, s, ce, eK, ec, rfl, w, z⟩ := z
  refine ⟨E, s, ce, eK, ec, rfl, w, z.bnd fun d v E1 s1 c st r w1 z1 => ?_⟩
  obtain ⟨E', st', eH, r', w'⟩ := w1.freeze r
  have q := z1.ret st' (b := v) ⟨rfl, r'⟩ w'
  rw [eH] at q
  exact q
theorem AVRs.rx {E : Hw} {σ : L2.St} {s : VS} {c1 : Cn} (re : RE E s.ρ σ c1) : ∀ {as : List AV} {vs : List V} {ds : List D}, AVRs σ E as vs → AV.gets s as = some ds → RX E ds vs
  | [], vs, ds, h, g => by
    simp only [AV.gets] at g
    cases g
    exact h
  | a :: as, vs, ds, h, g => by
    obtain ⟨v, vs', rfl, r, h⟩ := h
    simp only [AV.gets] at g
    split at g
    · rename_i d ds' e1 e2
      cases g
      cases a with
      | val d' =>
        simp only [AV.get] at e1
        cases e1
        exact ⟨v, vs', cz, rfl, r.2, AVRs.rx re h e2⟩
      | sl i =>
        simp only [AV.get] at e1
        split at e1
        · rename_i d' e3
          cases e1
          obtain ⟨v', cc, e4, r'⟩ := re.val e3
          have e5 : σ[i]? = some (some v) := r.2
          rw [e4] at e5
          cases e5
          exact ⟨_, vs', cc, rfl, r', AVRs.rx re h e2⟩
        · cases e1
    · cases g
/-- a prim is done: what it gives goes on -/
theorem PR.of {σ : L2.St} {E : Hw} {s : VS} {ce : Cn} {ds : List D} {vs : List V} {d : D} {Q : VK} (eK : E.K = X.K) (ec : E.ct = ct) (w : Wd E σ s ce) (rx : RX E ds vs) (hf : p.fn ds = some d)
    (k : ∀ (v : V) (E' : Hw) (c : Cn), Step E ce E' → RT E' d v c → Wd E' σ s (cadd ce c) → Q v E'.H) : PR X.K ct p vs E.H Q := by
  refine ⟨E, ds, d, eK, ec, rfl, w.same, rx, hf, ?_⟩
  split
  · exact fun v r => k v E cz (Step.refl _ _) r w
  · intro v E' c n r h1 h2
    exact k v E' c (n.step _) r (w.new n h1 fun q hq => ⟨(h2 q hq).1, (h2 q hq).2, RT.dom d r q hq⟩)
theorem imp_pv {as : List Ex} {σ : L2.St} {H : Hp} {Q : VK} (h1 : (p.quiet && isQs as) = false) (z : tV X ct W T (.pr p as) σ H Q) : tAs X ct W T as σ H fun vs H1 => PR X.K ct p vs H1 Q := by
  obtain ⟨E, s, ce, eK, ec, rfl, w, z⟩ := z
  have e0 : ev T (.pr p as) = (evA T as).bnd fun vs s => match AV.gets s vs with
      | some ds => (p.fn ds).map fun d => .ok d s
      | none => none := by
    rw [ev, if_neg (by rw [h1]; decide)]
    all_goals rfl
  rw [e0] at z
  refine tAs_ok eK ec w (z.bnd fun vas vs E1 s1 c st r w1 z1 => ?_)
  have ecz : c = cz := r.1
  subst ecz
  obtain ⟨c1, c2, re, _⟩ := w1.own
  cases g : AV.gets s1 vas with
  | none => rw [RA.non (by simp only [g])] at z1; exact z1.elim
  | some ds =>
    cases hf : p.fn ds with
    | none => rw [RA.non (by simp only [g, hf]; rfl)] at z1; exact z1.elim
    | some d =>
      rw [RA.ok (a := d) (s' := s1) (by simp only [g, hf]; rfl)] at z1
      exact PR.of (st.k.trans eK) (st.ct.trans ec) w1 (AVRs.rx re r.2 g) hf fun v E' c st' r' w' => z1 v E' c st' r' w'
theorem pv_pr {as : List Ex} (sh : PE X e (fun σ H Q => tAs X ct W T as σ H fun vs H1 => PR X.K ct p vs H1 Q)) (h1 : (p.quiet && isQs as) = false) : PV X ct W T e (.pr p as) := PE.weak sh fun σ H Q z => imp_pv h1 z
/-! ### frozen values in a row -/
def tFs (X : Cx) (ct : Str → Addr) (W : WX) (T : Tab) : List Ex → TA
  | [] => tNil
  | a :: as => tCons (tF1 X ct W T a) (tFs X ct W T as)
def RTz : Hw → List D → List V → Cn → Prop := fun E ds vs c => c = cz ∧ RTs E ds vs cz
theorem tFs_ok : ∀ {as : List Ex} {σ : L2.St} {E : Hw} {s : VS} {ce : Cn} {Q : List V → Hp → Prop}, E.K = X.K → E.ct = ct → Wd E σ s ce → RA W RTz (evs T as) σ E s ce Q → tFs X ct W T as σ E.H Q
  | [], σ, E, s, ce, Q, eK, ec, w, h => by
    simp only [evs] at h
    exact h.ret (Step.refl _ _) (b := []) ⟨rfl, by simp [RTs]⟩ w
  | a :: as, σ, E, s, ce, Q, eK, ec, w, h => by
    have e0 : evs T (a :: as) = ((ev T a).bnd fun d => M.ret (frz d)).bnd fun d => (evs T as).bnd fun ds => M.ret (d :: ds) := by
      simp only [evs]
      funext s
      unfold M.bnd M.ret
      cases ev T a s with
      | none => rfl
      | some r => cases r <;> rfl
    rw [e0] at h
    refine ⟨E, s, ce, eK, ec, rfl, w, h.bnd fun d v E1 s1 c st r w1 z => ?_⟩
    have ecz : c = cz := r.1
    subst ecz
    refine tFs_ok (st.k.trans eK) (st.ct.trans ec) w1 (z.bnd fun ds vs E2 s2 c2 st2 r2 w2 z2 => ?_)
    have ecz : c2 = cz := r2.1
    subst ecz
    refine z2.ret (Step.refl _ _) (b := v :: vs) ⟨rfl, ?_⟩ w2
    simp only [RTs]
    exact ⟨v, vs, cz, cz, rfl, RT.mono d (st2.less fun p h => absurd rfl h) r.2, r2.2, rfl⟩
/-- [a, b, ..], (a, b, ..) -/
theorem pv_lst {as : List Ex} (sh : PE X e (tLst (tFs X ct W T as))) : PV X ct W T e (.lst as) := PE.weak sh fun σ H Q z => by
  obtain ⟨E, s, ce, eK, ec, rfl, w, z⟩ := z
  simp only [ev] at z
  refine tFs_ok eK ec w (z.bnd fun ds vs E1 s1 c st r w1 z1 => ?_)
  have ecz : c = cz := r.1
  subst ecz
  split at z1
  · rename_i hl
    refine ⟨lim_ok (by rw [← r.2.length]; exact hl), fun q hq => ?_⟩
    refine list_end (Q := Q) w1.same (fun v E' c n r h1 h2 => ?_) r.2 hq
    exact z1.ret (n.step _) r (w1.new n h1 fun q hq => ⟨(h2 q hq).1, (h2 q hq).2, RT.dom _ r q hq⟩)
  · exact (show False from z1).elim
theorem pv_tup {as : List Ex} (sh : PE X e (tTup (tFs X ct W T as))) : PV X ct W T e (.tup as) := PE.weak sh fun σ H Q z => by
  obtain ⟨E, s, ce, eK, ec, rfl, w, z⟩ := z
  simp only [ev] at z
  refine tFs_ok eK ec w (z.bnd fun ds vs E1 s1 c st r w1 z1 => ?_)
  have ecz : c = cz := r.1
  subst ecz
  split at z1
  · rename_i hl
    refine ⟨lim_ok (by rw [← r.2.length]; exact hl), fun q hq => ?_⟩
    refine tup_end (Q := Q) w1.same (fun v E' c n r h1 h2 => ?_) r.2 hq
    exact z1.ret (n.step _) r (w1.new n h1 fun q hq => ⟨(h2 q hq).1, (h2 q hq).2, RT.dom _ r q hq⟩)
  · exact (show False from z1).elim
theorem pv_dic0 (sh : PE X e (fun _ H Q => ∀ d, H d = none → Q (.ref d) (upd H d (.dK [])))) : PV X ct W T e .dic0 := PE.weak sh fun σ H Q z => by
  obtain ⟨E, s, ce, eK, ec, rfl, w, z⟩ := z
  simp only [ev] at z
  intro q hq
  have n : New E (E.lay q (.dK [])) := lay_new w.same hq
  have r : RT (E.lay q (.dK [])) (.dic true [] []) (.ref q) (cadd (one q) cz) := by
    simp only [RT]
    exact ⟨q, [], cz, rfl, upd_same, rfl, by simp [RTs], rfl⟩
  refine z.ret (n.step _) r (w.new n (fun p => ?_) fun p h => ?_)
  · simp only [cadd, one, cz]
    split <;> omega
  · have e : p = q := by
      by_cases z : p = q
      · exact z
      · simp [cadd, one, z] at h
    subst e
    refine ⟨hq, ?_, RT.dom _ r p h⟩
    show E.F p = none
    cases r : E.F p with
    | none => rfl
    | some o => rw [w.same p o r] at hq; cases hq
/-! ### not, and, or -/
theorem RTbl {E : Hw} {d : D} {v : V} {c : Cn} {k : Bool} (h : d = .bl k) (r : RT E d v c) : v = .bl k ∧ c = cz := by
  subst h
  simp only [RT] at r
  exact r
theorem pv_not (h : PV X ct W T a ca) (sh : ∀ ta, PE X a ta → PE X e (tNotV ta)) : PV X ct W T e (.not ca) := PE.weak (sh _ h) fun σ H Q z => by
  obtain ⟨E, s, ce, eK, ec, rfl, w, z⟩ := z
  simp only [ev] at z
  refine ⟨E, s, ce, eK, ec, rfl, w, z.bnd fun d v E1 s1 c st r w1 z1 => ?_⟩
  cases d <;> first | exact (show False from z1).elim | skip
  obtain ⟨rfl, rfl⟩ := RTbl rfl r
  exact ⟨_, rfl, z1.ret (Step.refl _ _) rt_bl w1⟩
theorem pv_and (h : PV X ct W T a ca) (h' : PV X ct W T b cb) (sh : ∀ ta tb, PE X a ta → PE X b tb → PE X e (tAndV ta tb)) : PV X ct W T e (.and ca cb) := PE.weak (sh _ _ h h') fun σ H Q z => by
  obtain ⟨E, s, ce, eK, ec, rfl, w, z⟩ := z
  simp only [ev] at z
  refine ⟨E, s, ce, eK, ec, rfl, w, z.bnd fun d v E1 s1 c st r w1 z1 => ?_⟩
  cases d <;> first | exact (show False from z1).elim | skip
  rename_i k
  obtain ⟨rfl, rfl⟩ := RTbl rfl r
  refine ⟨k, rfl, ?_⟩
  cases k with
  | true => exact iteT (Run.mk (st.k.trans eK) (st.ct.trans ec) w1 z1)
  | false => exact iteF (z1.ret (Step.refl _ _) rt_bl w1)
theorem pv_or (h : PV X ct W T a ca) (h' : PV X ct W T b cb) (sh : ∀ ta tb, PE X a ta → PE X b tb → PE X e (tOrV ta tb)) : PV X ct W T e (.or ca cb) := PE.weak (sh _ _ h h') fun σ H Q z => by
  obtain ⟨E, s, ce, eK, ec, rfl, w, z⟩ := z
  simp only [ev] at z
  refine ⟨E, s, ce, eK, ec, rfl, w, z.bnd fun d v E1 s1 c st r w1 z1 => ?_⟩
  cases d <;> first | exact (show False from z1).elim | skip
  rename_i k
  obtain ⟨rfl, rfl⟩ := RTbl rfl r
  refine ⟨k, rfl, ?_⟩
  cases k with
  | true => exact iteT (z1.ret (Step.refl _ _) rt_bl w1)
  | false => exact iteF (Run.mk (st.k.trans eK) (st.ct.trans ec) w1 z1)
/-- a test -/
def tT (X : Cx) (ct : Str → Addr) (W : WX) (T : Tab) (c : Ex) : TT := fun σ H Q => Run X.K ct W RT' (ev T c) σ H fun v H' => ∃ k, v = .bl k ∧ Q k H'
def PTc (X : Cx) (ct : Str → Addr) (W : WX) (T : Tab) (e : Expr) (c : Ex) : Prop := PT X e (tT X ct W T c)
theorem pt_of (sh : PT X e (tB (tV X ct W T c))) : PTc X ct W T e c := PT.weak sh fun σ H Q z => z
theorem pt_ofT (sh : PT X e (tTest (tV X ct W T c))) : PTc X ct W T e c := PT.weak sh fun σ H Q z => z
theorem ptc_not (h : PTc X ct W T a ca) (sh : ∀ ta, PT X a ta → PT X e (tNot ta)) : PTc X ct W T e (.not ca) := PT.weak (sh _ h) fun σ H Q z => by
  obtain ⟨E, s, ce, eK, ec, rfl, w, z⟩ := z
  simp only [ev] at z
  refine ⟨E, s, ce, eK, ec, rfl, w, z.bnd fun d v E1 s1 c st r w1 z1 => ?_⟩
  cases d <;> first | exact (show False from z1).elim | skip
  obtain ⟨rfl, rfl⟩ := RTbl rfl r
  obtain ⟨k, e, q⟩ := z1.ret (Step.refl _ _) rt_bl w1
  cases e
  exact ⟨_, rfl, q⟩
theorem ptc_and (h : PTc X ct W T a ca) (h' : PT X b (tT X ct W T cb)) (sh : ∀ ta tb, PT X a ta → PT X b tb → PT X e (tAnd ta tb)) : PTc X ct W T e (.and ca cb) := PT.weak (sh _ _ h h') fun σ H Q z => by
  obtain ⟨E, s, ce, eK, ec, rfl, w, z⟩ := z
  simp only [ev] at z
  refine ⟨E, s, ce, eK, ec, rfl, w, z.bnd fun d v E1 s1 c st r w1 z1 => ?_⟩
  cases d <;> first | exact (show False from z1).elim | skip
  rename_i k
  obtain ⟨rfl, rfl⟩ := RTbl rfl r
  refine ⟨k, rfl, ?_⟩
  cases k with
  | true => exact iteT (Run.mk (st.k.trans eK) (st.ct.trans ec) w1 z1)
  | false =>
    obtain ⟨k, e, q⟩ := z1.ret (Step.refl _ _) rt_bl w1
    cases e
    exact iteF q
end
end VI

/-! The text's forms of expressions, one rule a form: q_ where all is quiet, g_ else. -/
namespace VI
open PySem L2 PyProof.Rows

/-- what every body gives -/
structure XG (X : Cx) : Prop where
  calm : X.calm = true
  nd : X.N.Nodup
  hu : X.A.units + 65 < cLine
section
variable {X : Cx} {ct : Str → Addr} {W : WX} {T : Tab} {e a b d : Expr} {c ca cb cd : Ex} {p : Pr} {pos pos' : Pos} {x : Str}
theorem XG.h1 (G : XG X) : X.A.units + 1 < cLine := by have := G.hu; omega
theorem XG.h64 (G : XG X) : X.A.units + 64 < cLine := by have := G.hu; omega
/-- two arguments in a row -/
theorem t2_eq {r : List V → Hp → VK → Prop} {f : Ex → TE} {fs : List Ex → TA} (h0 : fs [] = tNil) (h1 : ∀ a as, fs (a :: as) = tCons (f a) (fs as)) : (fun σ H Q => fs [ca, cb] σ H fun vs H1 => r vs H1 Q) = tOp (fun x y H Q => r [x, y] H Q) (f ca) (f cb) := by
  funext σ H Q
  rw [h1, h1, h0]
  rfl
theorem q_bin {op : Operator} (o : OpR X (binaryOp op) (fun x y H Q => PR X.K ct p [x, y] H Q)) (ha : PQ X ct T a ca) (hb : PQ X ct T b cb) (hq : p.quiet = true := by rfl) : PQ X ct T (.BinOp a op b pos) (.pr p [ca, cb]) :=
  pq_pr (pe_op o ha hb) hq
theorem g_bin {op : Operator} (o : OpR X (binaryOp op) (fun x y H Q => PR X.K ct p [x, y] H Q)) (ha : PA1 X ct W T a ca) (hb : PA1 X ct W T b cb) (h1 : (p.quiet && isQs [ca, cb]) = false := by rfl) : PV X ct W T (.BinOp a op b pos) (.pr p [ca, cb]) :=
  pv_pr (pe_op o ha hb) h1
theorem q_cmp {op : CmpOp} (o : OpR X (compareOp op) (fun x y H Q => PR X.K ct p [x, y] H Q)) (ha : PQ X ct T a ca) (hb : PQ X ct T b cb) (hm : behindInMarks op b = false := by first | exact nomark _ | rfl) (hq : p.quiet = true := by rfl) : PQ X ct T (.Compare a [op] [b] pos) (.pr p [ca, cb]) :=
  pq_pr (pe_cmpR o ha hb hm) hq
theorem g_cmp {op : CmpOp} (o : OpR X (compareOp op) (fun x y H Q => PR X.K ct p [x, y] H Q)) (ha : PA1 X ct W T a ca) (hb : PA1 X ct W T b cb) (hm : behindInMarks op b = false := by first | exact nomark _ | rfl) (h1 : (p.quiet && isQs [ca, cb]) = false := by rfl) : PV X ct W T (.Compare a [op] [b] pos) (.pr p [ca, cb]) :=
  pv_pr (pe_cmpR o ha hb hm) h1
/-! ### monotony -/
theorem RA.mono {α β : Type} {Rel : Hw → α → β → Cn → Prop} {m : M α} {σ : L2.St} {E : Hw} {s : VS} {ce : Cn} {Q R : β → Hp → Prop} (h : RA W Rel m σ E s ce Q) (k : ∀ b H, Q b H → R b H) : RA W Rel m σ E s ce R := by
  cases e : m s with
  | none => rw [RA.non e] at h; exact h.elim
  | some r =>
    cases r with
    | ok a s' => rw [RA.ok e] at h ⊢; exact fun b E' c st r w => k _ _ (h b E' c st r w)
    | ex x s' => rw [RA.exc e] at h ⊢; exact h
/-- more is borne elsewhere -/
theorem RA.more {α β : Type} {Rel : Hw → α → β → Cn → Prop} {m : M α} {σ : L2.St} {E : Hw} {s : VS} {ce : Cn} {Q : β → Hp → Prop} (h : RA W Rel m σ E s ce Q) (c : Cn) : RA W Rel m σ E s (cadd ce c) Q := by
  cases e : m s with
  | none => rw [RA.non e] at h; exact h.elim
  | some r =>
    cases r with
    | ok a s' =>
      rw [RA.ok e] at h ⊢
      exact fun b E' c' st r w => h b E' c' (st.less fun p hp => by simp only [cadd]; omega) r (w.less fun p => by simp only [cadd]; omega)
    | ex x s' =>
      rw [RA.exc e] at h ⊢
      exact fun cls d E' st r w => h cls d E' (st.less fun p hp => by simp only [cadd]; omega) r (w.less fun p => by simp only [cadd]; omega)
theorem Run.mono {α β : Type} {K : PySem.W.Frag} {Rel : Hw → α → β → Cn → Prop} {m : M α} {σ : L2.St} {H : Hp} {Q R : β → Hp → Prop} (h : Run K ct W Rel m σ H Q) (k : ∀ b H, Q b H → R b H) : Run K ct W Rel m σ H R := by
  obtain ⟨E, s, ce, e1, e2, e3, w, h⟩ := h
  exact ⟨E, s, ce, e1, e2, e3, w, h.mono k⟩
theorem tQ_mono {σ : L2.St} {H : Hp} {Q R : VK} (h : tQ X ct T c σ H Q) (k : ∀ b H, Q b H → R b H) : tQ X ct T c σ H R := by
  obtain ⟨E, s, ce, d, e1, e2, e3, w, h, q⟩ := h
  exact ⟨E, s, ce, d, e1, e2, e3, w, h, fun v cc r => k _ _ (q v cc r)⟩
theorem tQs_mono : ∀ {as : List Ex} {σ : L2.St} {H : Hp} {Q R : List V → Hp → Prop}, tQs X ct T as σ H Q → (∀ b H, Q b H → R b H) → tQs X ct T as σ H R
  | [], _, _, _, _, h, k => k _ _ h
  | a :: as, σ, H, Q, _, h, k => tQ_mono (show tQ X ct T a σ H (fun v H1 => tQs X ct T as σ H1 fun vs H2 => Q (v :: vs) H2) from h) fun v H q => tQs_mono q fun vs H q => k _ _ q
theorem tL_mono {f : Ex → M AV} : ∀ {as : List Ex} {σ : L2.St} {H : Hp} {Q R : List V → Hp → Prop}, tL X ct W f as σ H Q → (∀ b H, Q b H → R b H) → tL X ct W f as σ H R
  | [], _, _, _, _, h, k => k _ _ h
  | a :: as, _, _, _, _, h, k => Run.mono (Q := _) h fun v H q => tL_mono q fun vs H q => k _ _ q
theorem tFs_mono : ∀ {as : List Ex} {σ : L2.St} {H : Hp} {Q R : List V → Hp → Prop}, tFs X ct W T as σ H Q → (∀ b H, Q b H → R b H) → tFs X ct W T as σ H R
  | [], _, _, _, _, h, k => k _ _ h
  | a :: as, _, _, _, _, h, k => Run.mono (Q := _) h fun v H q => tFs_mono q fun vs H q => k _ _ q
/-- one, two, three arguments, with what the rule of the text asks (r) -/
theorem pq1 {r : V → Hp → VK → Prop} (sh : PE X e fun σ H Q => tQ X ct T ca σ H fun x H1 => r x H1 Q) (im : ∀ x H Q, PR X.K ct p [x] H Q → r x H Q) (hq : p.quiet = true) : PQ X ct T e (.pr p [ca]) :=
  pq_pr (PE.weak sh fun σ H Q z => tQ_mono (Q := _) z fun x H q => im x H Q q) hq
theorem pg1 {r : V → Hp → VK → Prop} (sh : PE X e fun σ H Q => tA1 X ct W T ca σ H fun x H1 => r x H1 Q) (im : ∀ x H Q, PR X.K ct p [x] H Q → r x H Q) (h1 : (p.quiet && isQs [ca]) = false) : PV X ct W T e (.pr p [ca]) :=
  pv_pr (PE.weak sh fun σ H Q z => Run.mono (Q := _) z fun x H q => im x H Q q) h1
theorem pq2 {r : R2} (sh : PE X e (tOp r (tQ X ct T ca) (tQ X ct T cb))) (im : ∀ x y H Q, PR X.K ct p [x, y] H Q → r x y H Q) (hq : p.quiet = true) : PQ X ct T e (.pr p [ca, cb]) :=
  pq_pr (PE.weak sh fun σ H Q z => tQ_mono (show tQ X ct T ca σ H (fun x H1 => tQ X ct T cb σ H1 fun y H2 => PR X.K ct p [x, y] H2 Q) from z) fun x H q => tQ_mono q fun y H q => im x y H Q q) hq
theorem pg2 {r : R2} (sh : PE X e (tOp r (tA1 X ct W T ca) (tA1 X ct W T cb))) (im : ∀ x y H Q, PR X.K ct p [x, y] H Q → r x y H Q) (h1 : (p.quiet && isQs [ca, cb]) = false) : PV X ct W T e (.pr p [ca, cb]) :=
  pv_pr (PE.weak sh fun σ H Q z => Run.mono (Q := _) z fun x H q => Run.mono (Q := _) q fun y H q => im x y H Q q) h1
/-! ### is None -/
theorem im_isN (x : V) (H : Hp) (Q : VK) (h : PR X.K ct .isN [x] H Q) : Q (.bl (decide (x = .non))) H := by
  obtain ⟨E, ds, d, eK, rfl, rfl, hs, hx, hf, k⟩ := h.q rfl
  obtain ⟨a, ca, rfl, ra⟩ := rx1 hx
  cases hf
  rw [isNon_ok ra]
  exact k _ rt_bl
theorem im_notN (x : V) (H : Hp) (Q : VK) (h : PR X.K ct .notN [x] H Q) : Q (.bl (!decide (x = .non))) H := by
  obtain ⟨E, ds, d, eK, rfl, rfl, hs, hx, hf, k⟩ := h.q rfl
  obtain ⟨a, ca, rfl, ra⟩ := rx1 hx
  cases hf
  rw [isNon_ok ra]
  exact k _ rt_bl
theorem q_isN {j} (ha : PQ X ct T a ca) : PQ X ct T (.Compare a [.Is] [.Constant .none j pos'] pos) (.pr .isN [ca]) := pq1 (r := fun x H Q => Q (.bl (decide (x = .non))) H) (pe_cmp (pc_isN ha) rfl) im_isN rfl
theorem q_notN {j} (ha : PQ X ct T a ca) : PQ X ct T (.Compare a [.IsNot] [.Constant .none j pos'] pos) (.pr .notN [ca]) := pq1 (r := fun x H Q => Q (.bl (!decide (x = .non))) H) (pe_cmp (pc_notN ha) rfl) im_notN rfl
theorem g_isN {j} (ha : PA1 X ct W T a ca) (h1 : isQ ca = false := by rfl) : PV X ct W T (.Compare a [.Is] [.Constant .none j pos'] pos) (.pr .isN [ca]) := pg1 (r := fun x H Q => Q (.bl (decide (x = .non))) H) (pe_cmp (pc_isN ha) rfl) im_isN (by simp [isQs, h1])
theorem g_notN {j} (ha : PA1 X ct W T a ca) (h1 : isQ ca = false := by rfl) : PV X ct W T (.Compare a [.IsNot] [.Constant .none j pos'] pos) (.pr .notN [ca]) := pg1 (r := fun x H Q => Q (.bl (!decide (x = .non))) H) (pe_cmp (pc_notN ha) rfl) im_notN (by simp [isQs, h1])
/-! ### subscripts -/
theorem q_ix (ha : PQ X ct T a ca) (hb : PQ X ct T b cb) (hs : PlainIx b := by exact fun _ _ => rfl) : PQ X ct T (.Subscript a b pos) (.pr .ix [ca, cb]) := pq2 (pe_ix o_ix ha hb hs) (fun _ _ _ _ h => h) rfl
theorem g_ix (ha : PA1 X ct W T a ca) (hb : PA1 X ct W T b cb) (hs : PlainIx b := by exact fun _ _ => rfl) (h1 : isQs [ca, cb] = false := by rfl) : PV X ct W T (.Subscript a b pos) (.pr .ix [ca, cb]) := pg2 (pe_ix o_ix ha hb hs) (fun _ _ _ _ h => h) h1
theorem im_ixd (x y : V) (H : Hp) (Q : VK) (h : PR X.K ct .ixd [x, y] H Q) : ∃ a v, x = .ref a ∧ DGet H a y (some v) ∧ Q v H := by
  obtain ⟨E, ds, d, eK, rfl, rfl, hs, hx, hf, k⟩ := h.q rfl
  obtain ⟨a, b, ca, cb, rfl, ra, rb⟩ := rx2 hx
  cases a <;> first | (cases hf; done) | skip
  replace hf : ((keyOf b).bind fun k => (look _ _ k).bind okA) = some d := hf
  rw [Option.bind_eq_some_iff] at hf
  obtain ⟨kk, hk, hf⟩ := hf
  rw [Option.bind_eq_some_iff] at hf
  obtain ⟨d0, h0, hf⟩ := hf
  obtain ⟨p, kvs, c', rfl, g, z, t, _⟩ := dget_of hs ra rb hk
  obtain ⟨v, c2, hv, r⟩ := (look_val kk z t).2 d0 h0
  obtain ⟨rfl, r⟩ := r.okA hf
  rw [hv] at g
  exact ⟨p, v, rfl, g, k v r⟩
theorem q_ixd (G : XG X) (ha : PQ X ct T a ca) (hb : PQ X ct T b cb) (hs : NoSl b := by exact fun _ _ => rfl) : PQ X ct T (.Subscript a b pos) (.pr .ixd [ca, cb]) :=
  pq2 (r := fun x y H Q => ∃ a v, x = .ref a ∧ DGet H a y (some v) ∧ Q v H) (pe_dget G.h1 ha hb hs) im_ixd rfl
theorem g_ixd (G : XG X) (ha : PA1 X ct W T a ca) (hb : PA1 X ct W T b cb) (hs : NoSl b := by exact fun _ _ => rfl) (h1 : isQs [ca, cb] = false := by rfl) : PV X ct W T (.Subscript a b pos) (.pr .ixd [ca, cb]) :=
  pg2 (r := fun x y H Q => ∃ a v, x = .ref a ∧ DGet H a y (some v) ∧ Q v H) (pe_dget G.h1 ha hb hs) im_ixd h1
/-! ### x in a dict -/
theorem im_memd {neg : Bool} (x y : V) (H : Hp) (Q : VK) (h : PR X.K ct (if neg then .nmemd else .memd) [x, y] H Q) : ∃ a o, y = .ref a ∧ DGet H a x o ∧ Q (.bl (if neg then !o.isSome else o.isSome)) H := by
  have key : ∃ (E : Hw) (a b : D) (ca cb : Cn) (k : Bool), E.H = H ∧ (∀ a o, E.F a = some o → E.H a = some o) ∧ RT E a x ca ∧ RT E b y cb ∧ memdD a b = some k ∧ Q (.bl (if neg then !k else k)) H := by
    cases neg with
    | true =>
      obtain ⟨E, ds, d, eK, rfl, rfl, hs, hx, hf, k⟩ := h.q rfl
      obtain ⟨a, b, ca, cb, rfl, ra, rb⟩ := rx2 hx
      replace hf : ((memdD a b).map fun k => .bl (!k)) = some d := hf
      replace hf := Option.map_eq_some_iff.mp hf
      obtain ⟨kk, hm, rfl⟩ := hf
      exact ⟨E, a, b, ca, cb, kk, rfl, hs, ra, rb, hm, k _ rt_bl⟩
    | false =>
      obtain ⟨E, ds, d, eK, rfl, rfl, hs, hx, hf, k⟩ := h.q rfl
      obtain ⟨a, b, ca, cb, rfl, ra, rb⟩ := rx2 hx
      replace hf : (memdD a b).map .bl = some d := hf
      replace hf := Option.map_eq_some_iff.mp hf
      obtain ⟨kk, hm, rfl⟩ := hf
      exact ⟨E, a, b, ca, cb, kk, rfl, hs, ra, rb, hm, k _ rt_bl⟩
  obtain ⟨E, a, b, ca, cb, kk, rfl, hs, ra, rb, hm, q⟩ := key
  cases b <;> first | (cases hm; done) | skip
  replace hm : ((keyOf a).map fun k => (look _ _ k).isSome) = some kk := hm
  rw [Option.map_eq_some_iff] at hm
  obtain ⟨kc, hk, rfl⟩ := hm
  obtain ⟨p, kvs, c', rfl, g, z, t, _⟩ := dget_of hs rb ra hk
  refine ⟨p, _, rfl, g, ?_⟩
  obtain ⟨i1, i2⟩ := look_val kc z t
  cases e : look _ _ kc with
  | none =>
    rw [e] at q
    rw [i1 e]
    exact q
  | some d0 =>
    rw [e] at q
    obtain ⟨v, c2, hv, r⟩ := i2 d0 e
    rw [hv]
    exact q
theorem q_memd (G : XG X) (ha : PQ X ct T a ca) (hb : PQ X ct T b cb) (h1 : behindInMarks .In b = false := by rfl) : PQ X ct T (.Compare a [.In] [b] pos) (.pr .memd [ca, cb]) :=
  pq2 (r := fun x y H Q => ∃ a o, y = .ref a ∧ DGet H a x o ∧ Q (.bl o.isSome) H) (pe_cmp (pc_din G.h1 ha hb) h1) (im_memd (neg := false)) rfl
theorem q_nmemd (G : XG X) (ha : PQ X ct T a ca) (hb : PQ X ct T b cb) (h1 : behindInMarks .NotIn b = false := by rfl) : PQ X ct T (.Compare a [.NotIn] [b] pos) (.pr .nmemd [ca, cb]) :=
  pq2 (r := fun x y H Q => ∃ a o, y = .ref a ∧ DGet H a x o ∧ Q (.bl (!o.isSome)) H) (pe_cmp (pc_dnotin G.h1 ha hb) h1) (im_memd (neg := true)) rfl
/-! ### built-ins by name -/
theorem q_call1 {f : Value} {id : String} (r : CallR X (.builtin id) (fun xs H Q => PR X.K ct p xs H Q)) (hg : Gl X x) (hm : X.mg x = none) (hv : bootBuiltins x = some (.builtin id)) (ha : PQ X ct T a ca) (hq : p.quiet = true := by rfl) (hn : x ≠ "__name__" := by decide) (hdb : (x == ("__debug__" : Str)) = false := by decide)
    (he : starEach [a] X.env = (false, eval a X.env) :: starEach [] X.env := by rfl) : PQ X ct T (.Call (.Name x pos') [a] [] pos) (.pr p [ca]) :=
  pq_pr (pe_callB r hg hm hv (pa_cons ha pa_nil he) hn hdb he rfl) hq
theorem g_call1 {id : String} (r : CallR X (.builtin id) (fun xs H Q => PR X.K ct p xs H Q)) (hg : Gl X x) (hm : X.mg x = none) (hv : bootBuiltins x = some (.builtin id)) (ha : PA1 X ct W T a ca) (h1 : (p.quiet && isQs [ca]) = false := by rfl) (hn : x ≠ "__name__" := by decide) (hdb : (x == ("__debug__" : Str)) = false := by decide)
    (he : starEach [a] X.env = (false, eval a X.env) :: starEach [] X.env := by rfl) : PV X ct W T (.Call (.Name x pos') [a] [] pos) (.pr p [ca]) :=
  pv_pr (pe_callB r hg hm hv (pa_cons ha pa_nil he) hn hdb he rfl) h1
theorem q_callT {id : String} (r : CallR X (.type id) (fun xs H Q => PR X.K ct p xs H Q)) (hg : Gl X x) (hm : X.mg x = none) (hv : bootBuiltins x = some (.type id)) (ha : PQ X ct T a ca) (hq : p.quiet = true := by rfl) (hn : x ≠ "__name__" := by decide) (hdb : (x == ("__debug__" : Str)) = false := by decide)
    (he : starEach [a] X.env = (false, eval a X.env) :: starEach [] X.env := by rfl) : PQ X ct T (.Call (.Name x pos') [a] [] pos) (.pr p [ca]) :=
  pq_pr (pe_callTy r hg hm hv (pa_cons ha pa_nil he) hn hdb he rfl) hq
theorem g_callT {id : String} (r : CallR X (.type id) (fun xs H Q => PR X.K ct p xs H Q)) (hg : Gl X x) (hm : X.mg x = none) (hv : bootBuiltins x = some (.type id)) (ha : PA1 X ct W T a ca) (h1 : (p.quiet && isQs [ca]) = false := by rfl) (hn : x ≠ "__name__" := by decide) (hdb : (x == ("__debug__" : Str)) = false := by decide)
    (he : starEach [a] X.env = (false, eval a X.env) :: starEach [] X.env := by rfl) : PV X ct W T (.Call (.Name x pos') [a] [] pos) (.pr p [ca]) :=
  pv_pr (pe_callTy r hg hm hv (pa_cons ha pa_nil he) hn hdb he rfl) h1
theorem q_call2 {id : String} (r : CallR X (.builtin id) (fun xs H Q => PR X.K ct p xs H Q)) (hg : Gl X x) (hm : X.mg x = none) (hv : bootBuiltins x = some (.builtin id)) (ha : PQ X ct T a ca) (hb : PQ X ct T b cb) (hq : p.quiet = true := by rfl) (hn : x ≠ "__name__" := by decide) (hdb : (x == ("__debug__" : Str)) = false := by decide)
    (he : starEach [a, b] X.env = (false, eval a X.env) :: starEach [b] X.env := by rfl) (he2 : starEach [b] X.env = (false, eval b X.env) :: starEach [] X.env := by rfl) (hpl : (backTo pos (starEach [b] X.env)).any (·.1) = false := by rfl) : PQ X ct T (.Call (.Name x pos') [a, b] [] pos) (.pr p [ca, cb]) :=
  pq_pr (pe_callB r hg hm hv (pa_cons ha (pa_cons hb pa_nil he2) he) hn hdb he hpl) hq
theorem g_call2 {id : String} (r : CallR X (.builtin id) (fun xs H Q => PR X.K ct p xs H Q)) (hg : Gl X x) (hm : X.mg x = none) (hv : bootBuiltins x = some (.builtin id)) (ha : PA1 X ct W T a ca) (hb : PA1 X ct W T b cb) (h1 : (p.quiet && isQs [ca, cb]) = false := by rfl) (hn : x ≠ "__name__" := by decide) (hdb : (x == ("__debug__" : Str)) = false := by decide)
    (he : starEach [a, b] X.env = (false, eval a X.env) :: starEach [b] X.env := by rfl) (he2 : starEach [b] X.env = (false, eval b X.env) :: starEach [] X.env := by rfl) (hpl : (backTo pos (starEach [b] X.env)).any (·.1) = false := by rfl) : PV X ct W T (.Call (.Name x pos') [a, b] [] pos) (.pr p [ca, cb]) :=
  pv_pr (pe_callB r hg hm hv (pa_cons ha (pa_cons hb pa_nil he2) he) hn hdb he hpl) h1
/-- isinstance(x, T) -/
theorem q_isi {n : String} {y : Str} {p2 : Pos} (hg : Gl X "isinstance") (hm : X.mg "isinstance" = none) (ha : PQ X ct T a ca) (hy : Gl X y) (hmy : X.mg y = none) (hvy : bootBuiltins y = some (.type n))
    (he : starEach [a, .Name y p2] X.env = (false, eval a X.env) :: starEach [.Name y p2] X.env := by rfl) (hn : y ≠ "__name__" := by decide) (hd : (y == ("__debug__" : Str)) = false := by decide) : PQ X ct T (.Call (.Name "isinstance" pos') [a, .Name y p2] [] pos) (.pr (.isi n) [ca]) :=
  pq1 (r := fun x H Q => PR X.K ct (.isi n) [x] H Q) (PE.weak (pe_callB c_isi hg hm (by decide +kernel) (pa_cons ha (pa_cons (pe_bltn (v := .ty n) hy hmy hvy rfl hn hd) pa_nil) he) (by decide) (by decide) he rfl) fun σ H Q z => tQ_mono (Q := _) z fun x H q => ⟨x, rfl, q⟩) (fun _ _ _ h => h) rfl
/-! ### slices -/
theorem AVR.rt {σ : L2.St} {E0 E : Hw} {s : VS} {c1 c0 : Cn} {a : AV} {v : V} {d : D} (h : AVR σ E0 a v cz) (st : Step E0 c0 E) (re : RE E s.ρ σ c1) (g : a.get s = some d) : ∃ c, RT E d v c := by
  cases a with
  | val d' =>
    simp only [AV.get] at g
    cases g
    exact ⟨cz, RT.mono _ (st.less fun p h => absurd rfl h) h.2⟩
  | sl i =>
    simp only [AV.get] at g
    split at g
    · rename_i d' e3
      cases g
      obtain ⟨v', cc, e4, r'⟩ := re.val e3
      have e5 : σ[i]? = some (some v) := h.2
      rw [e4] at e5
      cases e5
      exact ⟨cc, r'⟩
    · cases g
/-- a part's run -/
def IPz : Hw → Option Int → Option Int → Cn → Prop := fun _ i j c => c = cz ∧ i = j
theorem evP_ok {lo : List Ex} {tl : TO} {E : Hw} {s : VS} {ce : Cn} {σ : L2.St} {Q : Option Int → Hp → Prop} (eK : E.K = X.K) (ec : E.ct = ct) (w : Wd E σ s ce) (h : RA W IPz (evP T lo) σ E s ce Q)
    (hl : (lo = [] ∧ tl = tNoPart) ∨ ∃ c, lo = [c] ∧ tl = tPart (tV X ct W T c)) : tl σ E.H Q := by
  rcases hl with ⟨rfl, rfl⟩ | ⟨c, rfl, rfl⟩
  · simp only [evP] at h
    exact h.ret (Step.refl _ _) (b := none) ⟨rfl, rfl⟩ w
  · simp only [evP] at h
    refine ⟨E, s, ce, eK, ec, rfl, w, h.bnd fun d v E1 s1 c st r w1 z1 => ?_⟩
    cases d <;> first | exact (show False from z1).elim | skip
    simp only [RT', RT] at r
    obtain ⟨rfl, rfl⟩ := r
    exact ⟨_, rfl, z1.ret (Step.refl _ _) (b := some _) ⟨rfl, rfl⟩ w1⟩
theorem ev_slc (a : Ex) (lo hi : List Ex) : ev T (.slc a lo hi) = (evA1 T a).bnd fun v => (evP T lo).bnd fun l => (evP T hi).bnd fun h s => ((v.get s).bind fun d => slD d l h).map fun d => .ok d s := by
  cases a <;> rfl
theorem g_sl {lo hi : Option Expr} {clo chi : List Ex} {tl th : TO} {p2 : Pos} (ha : PA1 X ct W T a ca) (hl : PO X lo tl) (hh : PO X hi th) (el : (clo = [] ∧ tl = tNoPart) ∨ ∃ c, clo = [c] ∧ tl = tPart (tV X ct W T c)) (eh : (chi = [] ∧ th = tNoPart) ∨ ∃ c, chi = [c] ∧ th = tPart (tV X ct W T c)) :
    PV X ct W T (.Subscript a (.Slice lo hi none p2) pos) (.slc ca clo chi) := PE.weak (pe_slice (o_sl (X := X)) ha hl hh) fun σ H Q z => by
  obtain ⟨E, s, ce, eK, ec, rfl, w, z⟩ := z
  rw [ev_slc] at z
  refine ⟨E, s, ce, eK, ec, rfl, w, z.bnd fun va v E1 s1 c st r w1 z1 => ?_⟩
  have ecz : c = cz := r.1
  subst ecz
  refine evP_ok (st.k.trans eK) (st.ct.trans ec) w1 (z1.bnd fun i j E2 s2 c2 st2 r2 w2 z2 => ?_) el
  obtain ⟨rfl, rfl⟩ := r2
  refine evP_ok ((st2.k.trans st.k).trans eK) ((st2.ct.trans st.ct).trans ec) w2 (z2.bnd fun i' j' E3 s3 c3 st3 r3 w3 z3 => ?_) eh
  obtain ⟨rfl, rfl⟩ := r3
  obtain ⟨c1, c2, re, _⟩ := w3.own
  cases g : va.get s3 with
  | none => rw [RA.non (by simp only [g]; rfl)] at z3; exact z3.elim
  | some d0 =>
    cases hf : slD d0 i i' with
    | none => rw [RA.non (by simp only [g, Option.bind_some, hf]; rfl)] at z3; exact z3.elim
    | some d =>
      rw [RA.ok (a := d) (s' := s3) (by simp only [g, Option.bind_some, hf]; rfl)] at z3
      obtain ⟨cc, rd⟩ := r.rt (st2.trans st3) re g
      refine ⟨E3, d0, d, cc, ((st3.k.trans st2.k).trans st.k).trans eK, rfl, w3.same, rd, hf, fun v E' c' n r' h1 h2 => ?_⟩
      exact z3 v E' c' (n.step _) r' (w3.new n h1 fun q hq => ⟨(h2 q hq).1, (h2 q hq).2, RT.dom d r' q hq⟩)
/-! ### sep.join(xs) -/
theorem opt_ok {α β : Type} {Rel : Hw → α → β → Cn → Prop} {o : Option α} {σ : L2.St} {E : Hw} {s : VS} {ce : Cn} {Q : β → Hp → Prop} (h : RA W Rel (M.opt o) σ E s ce Q) : ∃ a, o = some a ∧ RA W Rel (M.ret a) σ E s ce Q := by
  cases o with
  | none => rw [RA.non rfl] at h; exact h.elim
  | some a => exact ⟨a, rfl, h⟩
theorem g_joi {z : Str} {j} {apos p2 : Pos} (ha : PV X ct W T a ca) (hs : starEach [a] X.env = [(false, eval a X.env)] := by rfl) (hbase : attributeBase (.Constant (.str z) j p2) "join" X.env (eval (.Constant (.str z) j p2) X.env) = eval (.Constant (.str z) j p2) X.env := by rfl) (hline : (apos.endLine == pos.line) = true := by rfl) :
    PV X ct W T (.Call (.Attribute (.Constant (.str z) j p2) "join" apos) [a] [] pos) (.joi z ca) := PE.weak (pe_join pe_str ha hs hbase hline) fun σ H Q zz => by
  obtain ⟨E, s, ce, eK, ec, rfl, w, zz⟩ := zz
  simp only [ev] at zz
  refine ⟨⟨z, rfl⟩, E, s, ce, eK, ec, rfl, w, zz.bnd fun d v E1 s1 c st r w1 z1 => ?_⟩
  obtain ⟨d', hd, z1⟩ := opt_ok z1
  cases d <;> first | (cases hd; done) | skip
  replace hd : ((strsD _).bind fun ys => if (ys.map (·.length)).sum + ys.length * z.length ≤ lim then some (D.str (Txt.join z ys)) else none) = some d' := hd
  rw [Option.bind_eq_some_iff] at hd
  obtain ⟨ys, hy, hd⟩ := hd
  split at hd
  · rename_i hl
    cases hd
    obtain ⟨p, vs, c', rfl, q1, t, _⟩ := lst_at w1.same r
    have e := strs_v t hy
    subst e
    exact ⟨z, p, ys, rfl, rfl, .inl (.inl (.inl q1)), Nat.le_trans hl (by decide), z1.ret (Step.refl _ _) rt_str (w1.less fun p => by simp only [cadd, cz]; omega)⟩
  · cases hd
/-! ### d.get(k, x) -/
theorem g_dgt {apos : Pos} {ck cx : Ex} (G : XG X) (ha : PV X ct W T a ca) (hb : PV X ct W T b ck) (hd : PV X ct W T d cx) (m : M2 X a "get" apos b d pos) : PV X ct W T (.Call (.Attribute a "get" apos) [b, d] [] pos) (.dgt ca ck cx) := PE.weak (pe_dget2 G.h1 ha hb hd m) fun σ H Q zz => by
  obtain ⟨E, s, ce, eK, ec, rfl, w, zz⟩ := zz
  simp only [ev] at zz
  refine ⟨E, s, ce, eK, ec, rfl, w, zz.bnd fun d0 v0 E1 s1 c st r w1 z1 => ?_⟩
  cases d0 <;> first | exact (show False from z1).elim | skip
  rename_i o ks ds
  cases o with
  | true => exact (show False from z1).elim
  | false =>
    obtain ⟨p, kvs, c', rfl, q1, ez, t⟩ := dic_at w1.same r
    have ecz : c = cz := by simp only [RT', RT] at r; exact r.1
    subst ecz
    refine ⟨p, rfl, .inl ⟨kvs, .inl q1⟩, E1, s1, ce, st.k.trans eK, st.ct.trans ec, rfl, w1, z1.bnd fun dk vk E2 s2 c2 st2 r2 w2 z2 => ?_⟩
    refine ⟨E2, s2, cadd ce c2, (st2.k.trans st.k).trans eK, (st2.ct.trans st.ct).trans ec, rfl, w2, (z2.more c2).bnd fun dx vx E3 s3 c3 st3 r3 w3 z3 => ?_⟩
    obtain ⟨d', hd, z3⟩ := opt_ok z3
    replace hd : ((keyOf dk).bind fun k => match look ks ds k with | some d => okA d | none => okA (frz dx)) = some d' := hd
    rw [Option.bind_eq_some_iff] at hd
    obtain ⟨kk, hk, hd⟩ := hd
    have hF : E1.F p = some (.dK kvs) := by
      simp only [RT', RT] at r
      obtain ⟨_, a, kvs', e, q, z, t⟩ := r
      cases e
      have := w1.same _ _ q
      rw [q1] at this
      cases this
      exact q
    have q3 := w3.same _ _ (st3.f _ _ (st2.f _ _ hF))
    rw [keyOf_v (RT.mono _ (st3.less fun p h => by simp only [cadd]; omega) r2) hk]
    refine ⟨valV kvs kk, DGet.k q3, ?_⟩
    obtain ⟨i1, i2⟩ := look_val kk ez t
    cases e : look ks ds kk with
    | none =>
      rw [e] at hd
      rw [i1 e]
      obtain ⟨E4, st4, eH, r4, w4⟩ := w3.freeze r3
      obtain ⟨ed, r4⟩ := r4.okA hd
      have q := z3.ret (b := vx) st4 (ed ▸ r4) w4
      rw [eH] at q
      exact q
    | some d0 =>
      rw [e] at hd
      obtain ⟨v, c4, hv, rv⟩ := i2 d0 e
      obtain ⟨ed, rv⟩ := rv.okA hd
      subst ed
      rw [hv]
      exact z3.ret (b := v) (Step.refl _ _) (RT.mono _ ((st2.trans (st3.less fun p h => by simp only [cadd]; omega)).less fun p h => absurd rfl h) rv) (w3.less fun p => by simp only [cadd, cz]; omega)
end
end VI

/-! Calls: what a def promises, what a call makes of it. -/
namespace VI
open PySem L2 PyProof.Rows

/-- the promise of a def that does m to data -/
def spV (K : PySem.W.Frag) (ct : Str → Addr) (n : Nat) (m : List D → List RO → Option CR) : Sp := fun vs H Q E =>
  ∃ (Ew : Hw) (ds : List D) (μ : List RO) (ce : Cn), Ew.K = K ∧ Ew.ct = ct ∧ Ew.H = H ∧ vs.length = n ∧ Wd Ew (vs.map some) ⟨ds.map some, μ⟩ ce ∧ match m ds μ with
    | some (.ok d ps μ') => ∀ (v : V) (E' : Hw) (c : Cn), Step Ew ce E' → RT E' d v c → Wd E' (vs.map some) ⟨ps, μ'⟩ (cadd ce c) → Q v E'.H
    | some (.ex x ps μ') => ∀ (cls : Value) (d : Option Addr) (E' : Hw), Step Ew ce E' → ExR E' x cls d → Wd E' (vs.map some) ⟨ps, μ'⟩ ce → E cls d E'.H
    | none => False
theorem spV_len {K : PySem.W.Frag} {ct : Str → Addr} {n : Nat} {m : List D → List RO → Option CR} : ∀ vs H Q E, spV K ct n m vs H Q E → vs.length = n := fun vs H Q E h => by
  obtain ⟨_, _, _, _, _, _, _, h, _⟩ := h
  exact h

mutual
/-- data without shared objects do not hang on where these stand -/
theorem RT.reA {E : Hw} (A : List Addr) : ∀ (d : D) {v : V} {c : Cn}, noRef d = true → RT E d v c → RT { E with A := A } d v c
  | .non, _, _, _, h => by simpa [RT] using h
  | .bl _, _, _, _, h => by simpa [RT] using h
  | .int _, _, _, _, h => by simpa [RT] using h
  | .str _, _, _, _, h => by simpa [RT] using h
  | .lst false ds, _, _, g, h => by
    simp only [noRef] at g
    simp only [RT] at h ⊢
    obtain ⟨rfl, a, vs, e, q, r⟩ := h
    exact ⟨rfl, a, vs, e, q, RTs.reA A ds g r⟩
  | .lst true ds, _, _, g, h => by
    simp only [noRef] at g
    simp only [RT] at h ⊢
    obtain ⟨a, vs, c', e, q, r, rfl⟩ := h
    exact ⟨a, vs, c', e, q, RTs.reA A ds g r, rfl⟩
  | .tup ds, _, _, g, h => by
    simp only [noRef] at g
    simp only [RT] at h ⊢
    obtain ⟨a, vs, e, q, r⟩ := h
    exact ⟨a, vs, e, q, RTs.reA A ds g r⟩
  | .dic false ks ds, _, _, g, h => by
    simp only [noRef] at g
    simp only [RT] at h ⊢
    obtain ⟨rfl, a, kvs, e, q, z, r⟩ := h
    exact ⟨rfl, a, kvs, e, q, z, RTs.reA A ds g r⟩
  | .dic true ks ds, _, _, g, h => by
    simp only [noRef] at g
    simp only [RT] at h ⊢
    obtain ⟨a, kvs, c', e, q, z, r, rfl⟩ := h
    exact ⟨a, kvs, c', e, q, z, RTs.reA A ds g r, rfl⟩
  | .ins C fn ds, _, _, g, h => by
    simp only [noRef] at g
    simp only [RT] at h ⊢
    obtain ⟨rfl, a, dx, fs, e, q, z, r⟩ := h
    exact ⟨rfl, a, dx, fs, e, q, z, RTs.reA A ds g r⟩
  | .ref k, _, _, g, _ => by simp [noRef] at g
  | .scr ns, _, _, _, h => by simpa [RT] using h
theorem RTs.reA {E : Hw} (A : List Addr) : ∀ (ds : List D) {vs : List V} {c : Cn}, noRefs ds = true → RTs E ds vs c → RTs { E with A := A } ds vs c
  | [], _, _, _, h => by simpa [RTs] using h
  | d :: ds, _, _, g, h => by
    simp only [noRefs, Bool.and_eq_true] at g
    simp only [RTs] at h ⊢
    obtain ⟨v, vs', c1, c2, e, r, q, rfl⟩ := h
    exact ⟨v, vs', c1, c2, e, RT.reA A d g.1 r, RTs.reA A ds g.2 q, rfl⟩
end
theorem RE.reA {E : Hw} (A : List Addr) : ∀ {ds : List D} {σ : L2.St} {c : Cn}, noRefs ds = true → RE E (ds.map some) σ c → RE { E with A := A } (ds.map some) σ c
  | [], _, _, _, h => h
  | d :: ds, _, _, g, h => by
    simp only [noRefs, Bool.and_eq_true] at g
    simp only [List.map_cons, RE] at h ⊢
    obtain ⟨v, σ', c1, c2, e, r, q, rfl⟩ := h
    exact ⟨v, σ', c1, c2, e, RT.reA A d g.1 r, RE.reA A g.2 q, rfl⟩

section
variable {E : Hw} {σ : L2.St}
theorem hands_ok : ∀ {as : List AV} {vs : List V} {ρ ρ' : List (Option D)} {ds : List D} {c : Cn}, RE E ρ σ c → AVRs σ E as vs → hands as ρ = some (ds, ρ') → ∃ ca c', RE E (ds.map some) (vs.map some) ca ∧ RE E ρ' σ c' ∧ c = cadd ca c'
  | [], vs, ρ, ρ', ds, c, re, av, h => by
    simp only [hands] at h
    cases h
    have e : vs = [] := av
    subst e
    exact ⟨cz, c, ⟨rfl, rfl⟩, re, (cadd_lz c).symm⟩
  | .val d :: as, vs, ρ, ρ', ds, c, re, av, h => by
    obtain ⟨v, vs', rfl, r, av⟩ := av
    simp only [hands, Option.map_eq_some_iff] at h
    obtain ⟨⟨ds', ρ''⟩, h, e⟩ := h
    cases e
    obtain ⟨ca, c', h1, h2, rfl⟩ := hands_ok re av h
    refine ⟨cadd cz ca, c', ?_, h2, by rw [cadd_lz]⟩
    simp only [List.map_cons, RE]
    exact ⟨v, _, cz, ca, rfl, r.2, h1, rfl⟩
  | .sl i :: as, vs, ρ, ρ', ds, c, re, av, h => by
    obtain ⟨v, vs', rfl, r, av⟩ := av
    simp only [hands] at h
    split at h
    · rename_i d e1
      simp only [Option.map_eq_some_iff] at h
      obtain ⟨⟨ds', ρ''⟩, h, e⟩ := h
      cases e
      obtain ⟨v', cd, c1, e2, rd, rfl, re'⟩ := re.at e1
      have e3 : σ[i]? = some (some v) := r.2
      rw [e2] at e3
      cases e3
      obtain ⟨ca, c', h1, h2, rfl⟩ := hands_ok re' av h
      refine ⟨cadd cd ca, c', ?_, h2, by rw [cadd_assoc]⟩
      simp only [List.map_cons, RE]
      exact ⟨_, _, cd, ca, rfl, rd, h1, rfl⟩
    · cases h
theorem backs_ok {E0 : Hw} : ∀ {as : List AV} {vs : List V} {ρ ρ' : List (Option D)} {ps : List (Option D)} {c cp : Cn}, RE E ρ σ c → AVRs σ E0 as vs → RE E ps (vs.map some) cp → backs as ps ρ = some ρ' → ∃ c', RE E ρ' σ c' ∧ ∀ p, c' p ≤ c p + cp p
  | [], vs, ρ, ρ', ps, c, cp, re, av, rp, h => by
    simp only [backs] at h
    cases h
    exact ⟨c, re, fun p => by omega⟩
  | .val d :: as, vs, ρ, ρ', ps, c, cp, re, av, rp, h => by
    obtain ⟨v, vs', rfl, r, av⟩ := av
    cases ps with
    | nil => simp [backs] at h
    | cons q ps =>
      simp only [backs] at h
      have key : ∃ cp', RE E ps (vs'.map some) cp' ∧ ∀ p, cp' p ≤ cp p := by
        cases q with
        | none =>
          simp only [List.map_cons, RE] at rp
          obtain ⟨x, σ', e, rp⟩ := rp
          cases e
          exact ⟨cp, rp, fun p => Nat.le_refl _⟩
        | some d' =>
          simp only [List.map_cons, RE] at rp
          obtain ⟨x, σ', c1, c2, e, _, rp, rfl⟩ := rp
          cases e
          exact ⟨c2, rp, fun p => by simp only [cadd]; omega⟩
      obtain ⟨cp', rp', le⟩ := key
      obtain ⟨c', h1, h2⟩ := backs_ok re av rp' h
      exact ⟨c', h1, fun p => by have := h2 p; have := le p; omega⟩
  | .sl i :: as, vs, ρ, ρ', ps, c, cp, re, av, rp, h => by
    obtain ⟨v, vs', rfl, r, av⟩ := av
    cases ps with
    | nil => simp [backs] at h
    | cons q ps =>
      cases q with
      | none => simp [backs] at h
      | some d =>
        simp only [backs] at h
        split at h
        · rename_i e1
          simp only [List.map_cons, RE] at rp
          obtain ⟨x, σ', c1, c2, e, rd, rp, rfl⟩ := rp
          cases e
          have re2 := RE.put re e1 rd
          have es : σ.set i (some v) = σ := by
            have e2 : σ[i]? = some (some v) := r.2
            apply List.ext_getElem?
            intro j
            by_cases y : j = i
            · subst y; rw [List.getElem?_set_self (List.getElem?_eq_some_iff.mp e2).1]; exact e2.symm
            · rw [List.getElem?_set_ne (Ne.symm y)]
          rw [es] at re2
          obtain ⟨c', h1, h2⟩ := backs_ok re2 av rp h
          exact ⟨c', h1, fun p => by have := h2 p; simp only [cadd] at this ⊢; omega⟩
        · cases h
end
section
variable {X : Cx} {ct : Str → Addr} {W : WX} {T : Tab} {e : Expr} {f : Nat} {n : Nat}
theorem callM_some {as : List AV} {s : VS} {r : Res D} (h : callM T f as s = some r) : ∃ ds ρ μ r', hands as s.ρ = some (ds, ρ) ∧ T.call f ds μ = some r' := by
  unfold callM at h
  cases q : hands as s.ρ with
  | none => rw [q] at h; cases h
  | some p =>
    obtain ⟨ds, ρ⟩ := p
    rw [q] at h
    simp only at h
    split at h
    · cases q2 : T.call f ds [] with
      | none => rw [q2] at h; cases h
      | some r' => exact ⟨ds, ρ, [], r', rfl, q2⟩
    · cases q2 : T.call f ds s.μ with
      | none => rw [q2] at h; cases h
      | some r' => exact ⟨ds, ρ, s.μ, r', rfl, q2⟩
/-- THE CALL, by values -/
theorem call_ok {σ : L2.St} {E : Hw} {s : VS} {ce : Cn} {Q : VK} {as : List AV} {vs : List V} (hn : ∀ ds μ r, T.call f ds μ = some r → ds.length = n) (eK : E.K = X.K) (ec : E.ct = ct) (w : Wd E σ s ce) (av : AVRs σ E as vs) (h : RA W RT' (callM T f as) σ E s ce Q) :
    spV X.K ct n (T.call f) vs E.H Q (fun cls d H => W cls d σ H) := by
  obtain ⟨c1, c2, re, rm, t, fz⟩ := w.own
  unfold RA at h
  have hn : vs.length = n := by
    cases q : callM T f as s with
    | none => rw [q] at h; exact h.elim
    | some r =>
      obtain ⟨ds, ρ, μ, r', h1, h2⟩ := callM_some q
      obtain ⟨ca, c1', ra, _⟩ := hands_ok re av h1
      have := ra.length
      rw [List.length_map, List.length_map] at this
      rw [← this]
      exact hn ds μ r' h2
  cases hh : hands as s.ρ with
  | none => simp only [callM, hh] at h
  | some p =>
    obtain ⟨ds, ρ⟩ := p
    obtain ⟨ca, c1', ra, re', rfl⟩ := hands_ok re av hh
    have domA : ∀ p, ca p ≠ 0 → E.H p ≠ none := RE.dom ra
    have domR : ∀ p, c1' p ≠ 0 → E.H p ≠ none := RE.dom re'
    have domM : ∀ p, c2 p ≠ 0 → E.H p ≠ none := RM.dom rm
    simp only [cadd] at t fz
    by_cases g : noRefs ds = true
    · -- closed
      refine ⟨{ E with A := [] }, ds, [], cadd ce (cadd c1' c2), eK, ec, rfl, hn, ⟨w.same, ⟨ca, cz, RE.reA [] g ra, ⟨rfl, rfl⟩, fun p => by have := t p; simp only [cadd, cz]; omega, fun p z => fz p (by simp only [cadd, cz] at z; omega)⟩, fun p z => ?_⟩, ?_⟩
      · by_cases y1 : ce p = 0
        · by_cases y2 : c1' p = 0
          · exact domM p (by simp only [cadd] at z; omega)
          · exact domR p y2
        · exact w.ex p y1
      · have up : ∀ {E' : Hw} {c' : Cn}, Step { E with A := [] } (cadd ce (cadd c1' c2)) E' → (∀ p, c' p ≠ 0 → cadd ce (cadd c1' c2) p ≠ 0) → Step E c' { E' with A := E.A } := fun st hc => ⟨st.k, st.ct, st.f, ⟨[], by simp⟩, fun a o z q => st.h a o (hc a z) q⟩
        cases hc : T.call f ds [] with
        | none => simp only [callM, hh, g, if_true, hc] at h
        | some r =>
          cases r with
          | ok d ps μ =>
            cases μ with
            | cons r0 μ => simp only [callM, hh, g, if_true, hc] at h
            | nil =>
              cases hb : backs as ps ρ with
              | none => simp only [callM, hh, g, if_true, hc, hb] at h; exact h.elim
              | some ρ2 =>
                simp only [callM, hh, g, if_true, hc, hb, Option.map_some] at h
                intro v E' c st rt w'
                obtain ⟨cp, cm, rp, rmm, t', fz'⟩ := w'.own
                obtain ⟨eA, rfl⟩ : E'.A = [] ∧ cm = cz := rmm
                have sE : Step E' c { E' with A := E.A } := ⟨rfl, rfl, fun _ _ h => h, ⟨E.A, by rw [eA]; rfl⟩, fun _ _ _ h => h⟩
                have sp : ∀ c, Step E' c { E' with A := E.A } := fun c => ⟨rfl, rfl, fun _ _ h => h, ⟨E.A, by rw [eA]; rfl⟩, fun _ _ _ h => h⟩
                obtain ⟨c3, r3, le3⟩ := backs_ok (RE.mono (up st fun p z => by simp only [cadd]; omega) re') av (RE.mono (sp _) rp) hb
                refine h v { E' with A := E.A } c (up st fun p z => by simp only [cadd]; omega) (RT.mono d sE rt) ⟨w'.same, ⟨c3, c2, r3, RM.mono (up st fun p z => by simp only [cadd]; omega) rm, fun p => ?_, fun p z => ?_⟩, fun p z => ?_⟩
                · have := t' p
                  have := le3 p
                  simp only [cadd, cz] at this ⊢
                  simp only [cadd, cz] at *
                  omega
                · refine fz' p ?_
                  have := le3 p
                  simp only [cadd, cz] at *
                  omega
                · refine w'.ex p ?_
                  simp only [cadd] at *
                  omega
          | ex x ps μ =>
            cases μ with
            | cons r0 μ => simp only [callM, hh, g, if_true, hc] at h
            | nil =>
              cases hb : backs as ps ρ with
              | none => simp only [callM, hh, g, if_true, hc, hb] at h; exact h.elim
              | some ρ2 =>
                simp only [callM, hh, g, if_true, hc, hb, Option.map_some] at h
                intro cls d E' st rt w'
                obtain ⟨cp, cm, rp, rmm, t', fz'⟩ := w'.own
                obtain ⟨eA, rfl⟩ : E'.A = [] ∧ cm = cz := rmm
                have sp : ∀ c, Step E' c { E' with A := E.A } := fun c => ⟨rfl, rfl, fun _ _ h => h, ⟨E.A, by rw [eA]; rfl⟩, fun _ _ _ h => h⟩
                obtain ⟨c3, r3, le3⟩ := backs_ok (RE.mono (up st fun p z => by simp only [cadd]; omega) re') av (RE.mono (sp _) rp) hb
                refine h cls d { E' with A := E.A } (up st fun p z => by simp only [cadd]; omega) ⟨rt.1, ?_⟩ ⟨w'.same, ⟨c3, c2, r3, RM.mono (up st fun p z => by simp only [cadd]; omega) rm, fun p => ?_, fun p z => ?_⟩, fun p z => ?_⟩
                · rcases rt.2 with q | ⟨dd, fs, q1, q2, q3, q4⟩
                  · exact .inl q
                  · exact .inr ⟨dd, fs, q1, q2, q3, RTs.mono _ (sp _) q4⟩
                · have := t' p
                  have := le3 p
                  simp only [cadd, cz] at *
                  omega
                · refine fz' p ?_
                  have := le3 p
                  simp only [cadd, cz] at *
                  omega
                · refine w'.ex p ?_
                  simp only [cadd] at *
                  omega
    · -- open
      refine ⟨E, ds, s.μ, cadd ce c1', eK, ec, rfl, hn, ⟨w.same, ⟨ca, c2, ra, rm, fun p => by have := t p; simp only [cadd]; omega, fun p z => fz p (by simp only [cadd] at z; omega)⟩, fun p z => ?_⟩, ?_⟩
      · by_cases y1 : ce p = 0
        · exact domR p (by simp only [cadd] at z; omega)
        · exact w.ex p y1
      · have gf : noRefs ds = false := by simpa using g
        cases hc : T.call f ds s.μ with
        | none => simp only [callM, hh, gf, hc] at h; exact h.elim
        | some r =>
          cases r with
          | ok d ps μ =>
            cases hb : backs as ps ρ with
            | none => simp only [callM, hh, gf, hc, hb] at h; exact h.elim
            | some ρ2 =>
              simp only [callM, hh, gf, hc, hb, Option.map_some] at h
              intro v E' c st rt w'
              obtain ⟨cp, cm, rp, rmm, t', fz'⟩ := w'.own
              obtain ⟨c3, r3, le3⟩ := backs_ok (RE.mono (st.less fun p z => by simp only [cadd]; omega) re') av rp hb
              refine h v E' c (st.less fun p z => by simp only [cadd]; omega) rt ⟨w'.same, ⟨c3, cm, r3, rmm, fun p => ?_, fun p z => ?_⟩, fun p z => ?_⟩
              · have := t' p
                have := le3 p
                simp only [cadd] at *
                omega
              · refine fz' p ?_
                have := le3 p
                simp only [cadd] at *
                omega
              · refine w'.ex p ?_
                simp only [cadd] at *
                omega
          | ex x ps μ =>
            cases hb : backs as ps ρ with
            | none => simp only [callM, hh, gf, hc, hb] at h; exact h.elim
            | some ρ2 =>
              simp only [callM, hh, gf, hc, hb, Option.map_some] at h
              intro cls d E' st rt w'
              obtain ⟨cp, cm, rp, rmm, t', fz'⟩ := w'.own
              obtain ⟨c3, r3, le3⟩ := backs_ok (RE.mono (st.less fun p z => by simp only [cadd]; omega) re') av rp hb
              refine h cls d E' (st.less fun p z => by simp only [cadd]; omega) rt ⟨w'.same, ⟨c3, cm, r3, rmm, fun p => ?_, fun p z => ?_⟩, fun p z => ?_⟩
              · have := t' p
                have := le3 p
                simp only [cadd] at *
                omega
              · refine fz' p ?_
                have := le3 p
                simp only [cadd] at *
                omega
              · refine w'.ex p ?_
                simp only [cadd] at *
                omega
end
end VI

/-! Calls in the text. -/
namespace VI
open PySem L2 PyProof.Rows

/-- a def that keeps its promise, and may be called from here -/
def Df (X : Cx) (ct : Str → Addr) (T : Tab) (f : Nat) (fa : Addr) (n : Nat) : Prop :=
  ∃ (k : Nat) (fd : FuncData) (ps : List Str), FnOk X.prog X.w X.K X.mg X.base (L2.CX X.prog X.w) k fa fd ps (spV X.K ct n (T.call f)) ∧ (∀ ds μ r, T.call f ds μ = some r → ds.length = n) ∧ Room k X.A ∧ PySem.W.keepIn X.K (.ref fa) = true ∧ Binds X.K fd ps []
section
variable {X : Cx} {ct : Str → Addr} {W : WX} {T : Tab} {e a b o : Expr} {es : List Expr} {c ca q : Ex} {cs : List Ex} {f : Nat} {x m C : Str} {fa : Addr} {n : Nat} {p pos apos : Pos}
def PGs (X : Cx) (ct : Str → Addr) (W : WX) (T : Tab) (es : List Expr) (cs : List Ex) : Prop := PA X es (tGs X ct W T cs)
theorem pgs_nil : PGs X ct W T [] [] := pa_nil
theorem pgs_cons (h : PG1 X ct W T e c) (hr : PGs X ct W T es cs) (hs : starEach (e :: es) X.env = (false, eval e X.env) :: starEach es X.env := by rfl) : PGs X ct W T (e :: es) (c :: cs) := pa_cons h hr hs
def PFs (X : Cx) (ct : Str → Addr) (W : WX) (T : Tab) (es : List Expr) (cs : List Ex) : Prop := PA X es (tFs X ct W T cs)
theorem pfs_nil : PFs X ct W T [] [] := pa_nil
theorem pfs_cons (h : PV X ct W T e c) (hr : PFs X ct W T es cs) (hs : starEach (e :: es) X.env = (false, eval e X.env) :: starEach es X.env := by rfl) : PFs X ct W T (e :: es) (c :: cs) := pa_cons (pf_of h) hr hs
theorem g_lst (h : PFs X ct W T es cs) : PV X ct W T (.List es pos) (.lst cs) := pv_lst (pe_lst h)
theorem g_tup {x1} (h : PFs X ct W T es cs) : PV X ct W T (.Tuple es x1 pos) (.tup cs) := pv_tup (pe_tup h)
theorem g_dic0 : PV X ct W T (.Dict [] [] pos) .dic0 := pv_dic0 pe_dnewK
theorem g_call (F : Df X ct T f fa n) (tk : Takes X W) (hg : Gl X x) (hm : X.mg x = some (.ref fa)) (ha : PGs X ct W T (e :: es) (c :: cs)) (hdb : (x == ("__debug__" : Str)) = false := by decide)
    (he : starEach (e :: es) X.env = (false, eval e X.env) :: starEach es X.env := by rfl) (hpl : (backTo pos (starEach es X.env)).any (·.1) = false := by rfl) : PV X ct W T (.Call (.Name x p) (e :: es) [] pos) (.call f (c :: cs)) := by
  obtain ⟨k, fd, ps, F, hn, hr, hk, hb⟩ := F
  refine PE.weak (pe_callSD (dvs := []) F hr hg hm hk hb .nil (fun σ => passAt tk σ) ha hdb he hpl) fun σ H Q z => ?_
  obtain ⟨E, s, ce, eK, ec, rfl, w, z⟩ := z
  simp only [ev] at z
  refine tGs_ok eK ec w (z.bnd fun vas vs E1 s1 c1 st r w1 z1 => ?_)
  have ecz : c1 = cz := r.1
  subst ecz
  rw [List.append_nil]
  exact call_ok hn (st.k.trans eK) (st.ct.trans ec) w1 r.2 z1
theorem g_call0 (F : Df X ct T f fa n) (tk : Takes X W) (hg : Gl X x) (hm : X.mg x = some (.ref fa)) (hdb : (x == ("__debug__" : Str)) = false := by decide) : PV X ct W T (.Call (.Name x p) [] [] pos) (.call f []) := by
  obtain ⟨k, fd, ps, F, hn, hr, hk, hb⟩ := F
  refine ⟨fun pins s0 σ H Q I z => ?_⟩
  obtain ⟨E, s, ce, eK, ec, rfl, w, z⟩ := z
  have z : RA W RT' (callM T f []) σ E s ce Q := RA.eq (by simp only [ev, evG]; rfl) z
  refine wpAny_Call_Name_kw (ld_glob I hg hm ?_ hdb)
  exact PySem.W.callWith_K0 I.kIn hk (run_fnSD (us := []) (vs := []) (dvs := []) (E := WE W) F hr hb .nil (passAt tk σ) I .nil (call_ok hn eK ec w (as := []) rfl z))
/-- a method's promise and place -/
def Dm (X : Cx) (ct : Str → Addr) (T : Tab) (C m : Str) (f : Nat) (n : Nat) : Prop := ∃ fa, Cls X.K (ct C) ∧ Meth X.K (ct C) m fa ∧ Df X ct T f fa n
theorem lookup_no {m : Str} : ∀ {fs : List (Str × V)}, (fs.map (·.1)).all (fun x => decide (x ≠ m)) = true → fs.lookup m = none
  | [], _ => rfl
  | (x, v) :: fs, h => by
    simp only [List.map_cons, List.all_cons, Bool.and_eq_true, decide_eq_true_eq] at h
    rw [List.lookup_cons, show (m == x) = false from beq_eq_false_iff_ne.mpr fun z => h.1 z.symm]
    exact lookup_no h.2
theorem isObj_ok {E : Hw} {σ : L2.St} {s : VS} {ce : Cn} {d : D} {v : V} {c : Cn} (w : Wd E σ s ce) (r : RT E d v c) (h : isObjD C m s d = true) : ∃ a dx fs, v = .ref a ∧ E.H a = some (.ins (E.ct C) dx fs) ∧ fs.lookup m = none := by
  unfold isObjD at h
  split at h
  · rename_i k
    simp only [RT] at r
    obtain ⟨_, a, rfl, ea⟩ := r
    split at h
    · rename_i r0 er
      rw [Bool.and_eq_true, decide_eq_true_eq] at h
      obtain ⟨c1, c2, _, rm, _⟩ := w.own
      obtain ⟨dx, fs, c3, hh, hk, ht⟩ := rm.at er ea
      rw [h.1] at hh
      exact ⟨a, dx, fs, rfl, hh, lookup_no (by rw [hk]; exact h.2)⟩
    · cases h
  · rename_i C' fn ds
    simp only [RT] at r
    obtain ⟨_, a, dx, fs, rfl, ha, hk, ht⟩ := r
    rw [Bool.and_eq_true, decide_eq_true_eq] at h
    rw [h.1] at ha
    exact ⟨a, dx, fs, rfl, w.same _ _ ha, lookup_no (by rw [hk]; exact h.2)⟩
  · cases h
/-- the reading of a method's call, from the object on -/
theorem meth_ok {σ : L2.St} {H : Hp} {Q : VK} (hn : ∀ ds μ r, T.call f ds μ = some r → ds.length = n) (z : tV X ct W T (.meth C m f q cs) σ H Q) (R : V → Hp → Prop)
    (k : ∀ (v : V) (E : Hw) (s : VS) (ce : Cn) (d : D), E.K = X.K → E.ct = ct → Wd E σ s ce → RT E d v cz → (∃ a dx fs, v = .ref a ∧ E.H a = some (.ins (ct C) dx fs) ∧ fs.lookup m = none) →
      RA W RT' ((evG T cs).bnd fun vs => callM T f (.val d :: vs)) σ E s ce Q → R v E.H) : tQ X ct T q σ H R := by
  obtain ⟨E, s, ce, eK, rfl, rfl, w, z⟩ := z
  have e0 : ev T (.meth C m f q cs) s = match evq T s q with
    | some d => if isObjD C m s d && allF d then ((evG T cs).bnd fun vs => callM T f (.val d :: vs)) s else none
    | none => none := by
    simp only [ev]
    all_goals (cases evq T s q <;> rfl)
  cases g : evq T s q with
  | none => rw [g] at e0; rw [RA.non e0] at z; exact z.elim
  | some d =>
    rw [g] at e0
    refine ⟨E, s, ce, d, eK, rfl, rfl, w, g, fun v cc r => ?_⟩
    by_cases h : (isObjD C m s d && allF d) = true
    · have e1 := e0.trans (if_pos h)
      rw [Bool.and_eq_true] at h
      have ecz := RT.allF d r h.2
      subst ecz
      exact k v E s ce d eK rfl w r (isObj_ok w r h.1) (RA.eq e1 z)
    · rw [RA.non (e0.trans (if_neg h))] at z
      exact z.elim
theorem run_fnS2 {pins : List (Addr × Obj)} {σ : L2.St} {H : Hp} {s : Shared} {Q : VK} {k : Nat} {fd : FuncData} {ps : List Str} {sp : Sp} {us : List Value} {vs : List V} (F : FnOk X.prog X.w X.K X.mg X.base (L2.CX X.prog X.w) k fa fd ps sp) (hr : Room k X.A) (hb : Binds X.K fd ps []) (tk : Takes X W)
    (I : Inv X pins σ H s) (r : Vals vs us) (h : sp vs H Q (WE W σ)) : wpAny (model X.prog X.w) X.A (call (.ref fa) us) (EP X pins σ Q) X.xe s :=
  run_fnSD (dvs := []) (E := WE W) F hr hb .nil (passAt tk σ) I r (by rw [List.append_nil]; exact h)
theorem g_meth {pl : Sem Bool} (ho : PQ X ct T o q) (F : Dm X ct T C m f n) (tk : Takes X W) (ha : PGs X ct W T (e :: es) (c :: cs))
    (hst : starEach (e :: es) X.env = (false, eval e X.env) :: starEach es X.env := by rfl) (hpl : (backTo pos (starEach es X.env)).any (·.1) = false := by rfl)
    (ht : eval (.Call (.Attribute o m apos) (e :: es) [] pos) X.env = (do
      let ov ← eval o X.env
      standAt apos.atName
      let (f, first) ← holding [ov] (getMethod ov m pl)
      callWith pos f first (backTo pos (starEach (e :: es) X.env)) (backToKw pos (keywordEach [] X.env))) := by rfl) :
    PV X ct W T (.Call (.Attribute o m apos) (e :: es) [] pos) (.meth C m f q (c :: cs)) := by
  obtain ⟨fa, hc, hm, k, fd, ps, F, hn, hr, hk, hb⟩ := F
  refine ⟨fun pins s σ H Q I z => ?_⟩
  have z2 := meth_ok hn z (fun x H1 => ∃ a dx fs, x = .ref a ∧ H1 a = some (.ins (ct C) dx fs) ∧ fs.lookup m = none ∧ tGs X ct W T (c :: cs) σ H1 fun vs H2 => spV X.K ct n (T.call f) (x :: vs) H2 Q (WE W σ)) fun v E s ce d eK ec w r ⟨a, dx, fs, e1, e2, e3⟩ z => by
    refine ⟨a, dx, fs, e1, e2, e3, tGs_ok eK ec w (z.bnd fun vas vs E1 s1 c1 st r1 w1 z1 => ?_)⟩
    have ecz : c1 = cz := r1.1
    subst ecz
    exact call_ok hn (st.k.trans eK) (st.ct.trans ec) w1 (as := .val d :: vas) (vs := v :: vs) ⟨v, vs, rfl, ⟨rfl, RT.mono d (st.less fun p h => absurd rfl h) r⟩, r1.2⟩ z1
  refine PySem.W.methodCall_KW (pl := pl) (thn (ho.run pins s σ H _ I z2) fun u s1 ⟨x, H1, I1, rx, a, dx, fs, ex, ea, l, q⟩ => ?_) ht
  subst ex
  obtain rfl : u = Value.ref a := rx
  refine getmeth_ok I1 ea hc hm l ?_
  refine PySem.W.callWith_K (first := [.ref a]) (h₀ := X.base) I.ok.mod.kin hm.kp (thn (ha.run pos pins s1 σ H1 _ I1 q) fun us s2 ⟨vs, H2, I2, r, q2⟩ => ⟨I2.kIn, ?_⟩) hst hpl
  exact run_fnS2 (us := .ref a :: us) (vs := .ref a :: vs) F hr hb tk I2 (.cons rfl r) q2
theorem g_meth0 {pl : Sem Bool} (ho : PQ X ct T o q) (F : Dm X ct T C m f n) (tk : Takes X W)
    (ht : eval (.Call (.Attribute o m apos) [] [] pos) X.env = (do
      let ov ← eval o X.env
      standAt apos.atName
      let (f, first) ← holding [ov] (getMethod ov m pl)
      callWith pos f first (backTo pos (starEach [] X.env)) (backToKw pos (keywordEach [] X.env))) := by rfl) :
    PV X ct W T (.Call (.Attribute o m apos) [] [] pos) (.meth C m f q []) := by
  obtain ⟨fa, hc, hm, k, fd, ps, F, hn, hr, hk, hb⟩ := F
  refine ⟨fun pins s σ H Q I z => ?_⟩
  have z2 := meth_ok hn z (fun x H1 => ∃ a dx fs, x = .ref a ∧ H1 a = some (.ins (ct C) dx fs) ∧ fs.lookup m = none ∧ spV X.K ct n (T.call f) [x] H1 Q (WE W σ)) fun v E s ce d eK ec w r ⟨a, dx, fs, e1, e2, e3⟩ z => by
    refine ⟨a, dx, fs, e1, e2, e3, ?_⟩
    have z : RA W RT' (callM T f [.val d]) σ E s ce Q := RA.eq (by simp only [evG]; rfl) z
    exact call_ok hn eK ec w (as := [.val d]) (vs := [v]) ⟨v, [], rfl, ⟨rfl, r⟩, rfl⟩ z
  refine PySem.W.methodCall_KW (pl := pl) (thn (ho.run pins s σ H _ I z2) fun u s1 ⟨x, H1, I1, rx, a, dx, fs, ex, ea, l, q⟩ => ?_) ht
  subst ex
  obtain rfl : u = Value.ref a := rx
  refine getmeth_ok I1 ea hc hm l ?_
  exact PySem.W.callWith_K0 (first := [.ref a]) I1.kIn hm.kp (run_fnS2 (us := [.ref a]) (vs := [.ref a]) F hr hb tk I1 (.cons rfl .nil) q)
end
end VI

/-! New instances; comprehensions; changing operations. -/
namespace VI
open PySem L2 PyProof.Rows

section
variable {X : Cx} {ct : Str → Addr} {W : WX} {T : Tab} {e a b o : Expr} {es : List Expr} {c ca q : Ex} {cs : List Ex} {f : Nat} {x m C : Str} {fa : Addr} {n : Nat} {p pos apos : Pos}
/-- a class that may be made here -/
def Dk (X : Cx) (ct : Str → Addr) (T : Tab) (C : Str) (f : Nat) (n : Nat) : Prop :=
  ∃ (fa : Addr) (k : Nat) (fd : FuncData) (ps : List Str), Mk X.K (ct C) fa ∧ FnOk X.prog X.w X.K X.mg X.base (L2.CX X.prog X.w) k fa fd ps (spV X.K ct n (T.call f)) ∧ (∀ ds μ r, T.call f ds μ = some r → ds.length = n) ∧ Room (k + 1) X.A ∧ Binds X.K fd ps []
theorem run_makeS {pins : List (Addr × Obj)} {σ : L2.St} {H : Hp} {s : Shared} {Q : VK} {us : List Value} {vs : List V} {C f : Addr} {k : Nat} {fd : FuncData} {ps : List Str} {sp : Sp} (M : Mk X.K C f) (F : FnOk X.prog X.w X.K X.mg X.base (L2.CX X.prog X.w) k f fd ps sp) (hr : Room (k + 1) X.A) (hb : Binds X.K fd ps [])
    (tk : Takes X W) (I : Inv X pins σ H s) (r : Vals vs us)
    (h : ∀ x dx, H x = none → H dx = none → dx ≠ x → sp (.ref x :: vs) (upd (upd H dx (.own x)) x (.ins C dx [])) (fun v H2 => v = .non ∧ Q (.ref x) H2) (WE W σ)) :
    wpAny (model X.prog X.w) X.A (call (.ref C) us) (EP X pins σ Q) X.xe s := by
  have hq := h (s.heap.objs.size + 1) s.heap.objs.size (I.hok.fresh (Nat.le_succ _)) (I.hok.fresh (Nat.le_refl _)) (Nat.ne_of_lt (Nat.lt_succ_self _))
  have I2 := Inv.made (C := C) I
  have r2 : Vals (V.ref (s.heap.objs.size + 1) :: vs) (Value.ref (s.heap.objs.size + 1) :: us) := .cons rfl r
  have hl : ((Value.ref (s.heap.objs.size + 1) :: us) ++ []).length = ps.length := by
    have e := r2.length
    rw [F.len _ _ _ _ hq] at e
    rw [List.append_nil]
    exact e.symm
  refine wpAny_call (make_map (f := f) I.kIn M.makes M.init (beq_iff_eq.mp M.fn) (codeAny_mono (F.run _ X.stack _ _ ⟨Value.ref (s.heap.objs.size + 1) :: us, []⟩ (Value.ref (s.heap.objs.size + 1) :: us) _ _ (WE W σ) (hr.make C us [])
    (I2.env0.make C us []) (by have z := hb _ (Value.ref (s.heap.objs.size + 1) :: us) I2.kIn hl; rw [List.append_nil] at z; exact z) r2 hq) fun r s' hq' => ?_))
  cases r with
  | error e => exact passAt tk σ pins _ _ e s' I2 hq'
  | ok fl =>
    cases fl with
    | ret u =>
      obtain ⟨v, H', I3, rv, ev, q3⟩ := I2.after hq'
      subst ev
      exact ⟨rv, ⟨V.ref (s.heap.objs.size + 1), H', I3, rfl, q3⟩⟩
    | next => exact False.elim hq'
    | brk => exact False.elim hq'
    | cont => exact False.elim hq'
theorem hands_val {E : Hw} {σ : L2.St} : ∀ {as : List AV} {vs : List V} {ρ ρ' : List (Option D)} {ds : List D}, (∀ o ∈ ρ, o = none) → AVRs σ E as vs → hands as ρ = some (ds, ρ') → RTs E ds vs cz
  | [], vs, ρ, ρ', ds, hρ, av, h => by
    simp only [hands] at h
    cases h
    have e : vs = [] := av
    subst e
    simp [RTs]
  | .val d :: as, vs, ρ, ρ', ds, hρ, av, h => by
    obtain ⟨v, vs', rfl, r, av⟩ := av
    simp only [hands, Option.map_eq_some_iff] at h
    obtain ⟨⟨ds', ρ''⟩, h, e⟩ := h
    cases e
    simp only [RTs]
    exact ⟨v, vs', cz, cz, rfl, r.2, hands_val hρ av h, rfl⟩
  | .sl i :: as, vs, ρ, ρ', ds, hρ, av, h => by
    simp only [hands] at h
    split at h
    · rename_i d e1
      exact absurd (hρ _ (List.mem_of_getElem? e1)) (by simp)
    · cases h
theorem RTs.re {E : Hw} : ∀ {ds : List D} {vs : List V} {c : Cn}, RTs E ds vs c → RE E (ds.map some) (vs.map some) c
  | [], _, _, h => by simp only [RTs] at h; obtain ⟨rfl, rfl⟩ := h; exact ⟨rfl, rfl⟩
  | d :: ds, _, _, h => by
    simp only [RTs] at h
    obtain ⟨v, vs', c1, c2, rfl, r, q, rfl⟩ := h
    simp only [List.map_cons, RE]
    exact ⟨v, _, c1, c2, rfl, r, q.re, rfl⟩
/-- the instance as it is just made, closed: nothing else is shared -/
theorem mk_ok {σ : L2.St} {E : Hw} {s : VS} {ce : Cn} {Q : VK} {as : List AV} {vs : List V} (fz : Bool) (hn : ∀ ds μ r, T.call f ds μ = some r → ds.length = n) (eK : E.K = X.K) (ec : E.ct = ct) (w : Wd E σ s ce) (av : AVRs σ E as vs) (h : RA W RT' (mkM T C f true as) σ E s ce Q)
    {x dx : Addr} (hx : E.H x = none) (hdx : E.H dx = none) (ne : dx ≠ x) : spV X.K ct n (T.call f) (.ref x :: vs) (upd (upd E.H dx (.own x)) x (.ins (ct C) dx [])) (fun v H2 => v = .non ∧ Q (.ref x) H2) (WE W σ) := by
  subst ec
  obtain ⟨c1, c2, re, rm, t, fzz⟩ := w.own
  have d1 : ∀ p, c1 p + c2 p + ce p ≠ 0 → E.H p ≠ none := fun p z => by
    by_cases z1 : c1 p = 0
    · by_cases z2 : c2 p = 0
      · exact w.ex p (by omega)
      · exact RM.dom rm p z2
    · exact RE.dom re p z1
  unfold RA at h
  cases hh : hands as (s.ρ.map fun _ => none) with
  | none => simp only [mkM, hh] at h
  | some pr =>
    obtain ⟨ds, ρ⟩ := pr
    have rd : RTs E ds vs cz := hands_val (fun o ho => by
      rw [List.mem_map] at ho
      obtain ⟨_, _, e⟩ := ho
      exact e.symm) av hh
    simp only [mkM, hh, if_true] at h
    by_cases g : noRefs ds = true
    · rw [if_pos g] at h
      let E1 : Hw := { E with A := [x], H := upd (upd E.H dx (.own x)) x (.ins (E.ct C) dx []) }
      have kp : ∀ a u, E.H a = some u → E1.H a = some u := fun a u z => by
        show upd (upd E.H dx (.own x)) x (.ins (E.ct C) dx []) a = some u
        rw [upd_ne (ne_of_none z hx), upd_ne (ne_of_none z hdx)]
        exact z
      have st0 : ∀ c, Step { E with A := [] } c E1 := fun c => ⟨rfl, rfl, fun _ _ h => h, ⟨[x], rfl⟩, fun a u _ z => kp a u z⟩
      have r1 : RTs E1 (.ref 0 :: ds) (.ref x :: vs) cz := by
        simp only [RTs]
        refine ⟨.ref x, vs, cz, cz, rfl, ?_, RTs.mono ds (st0 _) (RTs.reA [] ds g rd), rfl⟩
        simp only [RT]
        exact ⟨trivial, x, rfl, rfl⟩
      have hnx : ∀ p, c1 p + c2 p + ce p ≠ 0 → p ≠ x := fun p z e => d1 p z (by rw [e]; exact hx)
      refine ⟨E1, .ref 0 :: ds, [⟨C, [], []⟩], cadd ce (cadd c1 c2), eK, rfl, rfl, ?_, ⟨fun a u z => kp a u (w.same a u z), ⟨cz, cadd (one x) (cadd cz cz), r1.re, ?_, fun p => ?_, fun p z => ?_⟩, fun p z => ?_⟩, ?_⟩
      · cases hc : T.call f (.ref 0 :: ds) [⟨C, [], []⟩] with
        | none => simp only [hc] at h
        | some r =>
          have := hn _ _ _ hc
          rw [← this, List.length_cons, List.length_cons, rd.length]
      · simp only [RM]
        exact ⟨x, [], dx, [], cz, cz, rfl, upd_same, rfl, by simp [RTs], by simp, rfl⟩
      · have := t p
        simp only [cadd, cz, one]
        by_cases y : p = x
        · have : c1 p + c2 p + ce p = 0 := by
            by_cases u : c1 p + c2 p + ce p = 0
            · exact u
            · exact absurd y (hnx p u)
          simp [y]
          rw [y] at this
          omega
        · simp [y]
          omega
      · by_cases y : p = x
        · subst y
          show E.F p = none
          cases u : E.F p with
          | none => rfl
          | some o => rw [w.same p o u] at hx; cases hx
        · exact fzz p (by simp only [cadd, cz, one, if_neg y] at z; omega)
      · have u := d1 p (by simp only [cadd] at z; omega)
        intro y
        cases v : E.H p with
        | none => exact u v
        | some o => rw [kp p o v] at y; cases y
      · have up : ∀ {E' : Hw} {c' : Cn}, Step E1 (cadd ce (cadd c1 c2)) E' → (∀ p, c' p ≠ 0 → cadd ce (cadd c1 c2) p ≠ 0) → Step E c' { E' with A := E.A } := fun st hc => ⟨st.k, st.ct, st.f, ⟨[], by simp⟩, fun a o z q => st.h a o (hc a z) (kp a o q)⟩
        cases hc : T.call f (.ref 0 :: ds) [⟨C, [], []⟩] with
        | none => simp only [hc] at h
        | some r =>
          cases r with
          | ex y ps μ =>
            simp only [hc] at h
            by_cases gy : noRefs y.ds = true
            · rw [if_pos gy] at h
              intro cls d E' st rt w'
              obtain ⟨cp, cm, rp, rmm, t', fz'⟩ := w'.own
              refine h cls d { E' with A := E.A } (up st fun p z => by simp only [cadd]; omega) ⟨rt.1, ?_⟩ ⟨w'.same, ⟨c1, c2, RE.mono (up st fun p z => by simp only [cadd]; omega) re, RM.mono (up st fun p z => by simp only [cadd]; omega) rm, fun p => by have := t p; omega, fun p z => fz' p (by simp only [cadd]; omega)⟩, fun p z => w'.ex p (by simp only [cadd]; omega)⟩
              rcases rt.2 with q | ⟨dd, fs, q1, q2, q3, q4⟩
              · exact .inl q
              · exact .inr ⟨dd, fs, q1, q2, q3, RTs.reA E.A _ gy q4⟩
            · rw [if_neg gy] at h
              exact h.elim
          | ok d ps μ =>
            cases d <;> first | (simp only [hc] at h; done) | skip
            cases μ with
            | nil => simp only [hc] at h
            | cons r0 μ =>
              cases μ with
              | cons r1 μ => simp only [hc] at h
              | nil =>
                simp only [hc] at h
                by_cases gr : r0.cls = C ∧ noRefs r0.ds = true
                · rw [if_pos gr] at h
                  intro v E' c st rt w'
                  obtain ⟨rfl, rfl⟩ : v = .non ∧ c = cz := by simp only [RT] at rt; exact rt
                  refine ⟨rfl, ?_⟩
                  obtain ⟨cp, cm, rp, rmm, t', fz'⟩ := w'.own
                  simp only [RM] at rmm
                  obtain ⟨a, A', dx', fs, cf, cq, eA, hH, hk, hf, ⟨rfl, rfl⟩, rfl⟩ := rmm
                  obtain ⟨l, el⟩ := st.a
                  have ea : a = x := by
                    rw [eA] at el
                    have el : [a] = x :: l := el
                    cases el
                    rfl
                  subst ea
                  simp only [cadd, cz] at t' fz'
                  let F2 : Hp := fun p => if one a p + cf p = 0 then E'.F p else E'.H p
                  let E2 : Hw := { E' with A := E.A, F := F2 }
                  have hF : ∀ p o, E'.F p = some o → F2 p = some o := fun p o z => by
                    show (if one a p + cf p = 0 then E'.F p else E'.H p) = some o
                    by_cases y : one a p + cf p = 0
                    · rw [if_pos y]; exact z
                    · rw [fz' p (by omega)] at z; cases z
                  have up2 : ∀ {c' : Cn}, (∀ p, c' p ≠ 0 → cadd ce (cadd c1 c2) p ≠ 0) → Step E c' E2 := fun hc => ⟨st.k, st.ct, fun p o z => hF p o (st.f p o z), ⟨[], by simp [E2]⟩, fun a o z q => st.h a o (hc a z) (kp a o q)⟩
                  refine h (.ref a) E2 cz (up2 fun p z => by simp only [cadd]; omega) ?_ ⟨fun p o z => ?_, ⟨c1, c2, RE.mono (up2 fun p z => by simp only [cadd]; omega) re, RM.mono (up2 fun p z => by simp only [cadd]; omega) rm, fun p => by have := t p; simp only [cadd, cz]; omega, fun p z => ?_⟩, fun p z => ?_⟩
                  · simp only [RT', RT]
                    refine ⟨trivial, a, dx', fs, rfl, ?_, hk, ?_⟩
                    · show (if one a a + cf a = 0 then E'.F a else E'.H a) = _
                      rw [if_neg (by simp [one])]
                      have e1 : E'.ct = E.ct := st.ct
                      show E'.H a = some (.ins (E'.ct C) dx' fs)
                      rw [← gr.1]
                      exact hH
                    · exact RTs.freeze (E := { E' with A := E.A }) (E' := E2) rfl rfl rfl hF r0.ds (RTs.reA E.A _ gr.2 hf) fun p o z q => by
                        show (if one a p + cf p = 0 then E'.F p else E'.H p) = some o
                        rw [if_neg (by omega)]
                        exact q
                  · have z : (if one a p + cf p = 0 then E'.F p else E'.H p) = some o := z
                    by_cases y : one a p + cf p = 0
                    · rw [if_pos y] at z; exact w'.same p o z
                    · rw [if_neg y] at z; exact z
                  · show (if one a p + cf p = 0 then E'.F p else E'.H p) = none
                    have := t' p
                    have z2 : c1 p + c2 p + ce p ≠ 0 := by simpa [cadd, cz] using z
                    rw [if_pos (by omega)]
                    exact fz' p (by omega)
                  · exact w'.ex p (by simp only [cadd, cz] at z ⊢; omega)
                · rw [if_neg gr] at h
                  exact h.elim
    · rw [if_neg g] at h
      exact h.elim
/-- C(..), frozen at once -/
theorem g_mk (F : Dk X ct T C f n) (tk : Takes X W) (hg : Gl X x) (hm : X.mg x = some (.ref (ct C))) (ha : PGs X ct W T (e :: es) (c :: cs)) (hdb : (x == ("__debug__" : Str)) = false := by decide)
    (he : starEach (e :: es) X.env = (false, eval e X.env) :: starEach es X.env := by rfl) (hpl : (backTo pos (starEach es X.env)).any (·.1) = false := by rfl) : PV X ct W T (.Call (.Name x p) (e :: es) [] pos) (.mk C f true (c :: cs)) := by
  obtain ⟨fa, k, fd, ps, M, F, hn, hr, hb⟩ := F
  refine ⟨fun pins s σ H Q I z => ?_⟩
  refine wpAny_Call_Name_kw (ld_glob I hg hm ?_ hdb)
  obtain ⟨E, s0, ce, eK, ec, rfl, w, z⟩ := z
  simp only [ev] at z
  have q : tGs X ct W T (c :: cs) σ E.H fun vs H1 => ∀ x dx, H1 x = none → H1 dx = none → dx ≠ x → spV X.K ct n (T.call f) (.ref x :: vs) (upd (upd H1 dx (.own x)) x (.ins (ct C) dx [])) (fun v H2 => v = .non ∧ Q (.ref x) H2) (WE W σ) := by
    refine tGs_ok eK ec w (z.bnd fun vas vs E1 s1 c1 st r w1 z1 => ?_)
    have ecz : c1 = cz := r.1
    subst ecz
    exact fun x dx hx hdx ne => mk_ok true hn (st.k.trans eK) (st.ct.trans ec) w1 r.2 z1 hx hdx ne
  refine PySem.W.callWith_K (h₀ := X.base) I.ok.mod.kin M.kp (thn (ha.run pos pins s σ E.H _ I q) fun us s1 ⟨vs, H1, I1, r, q⟩ => ⟨I1.kIn, ?_⟩) he hpl
  exact run_makeS M F hr hb tk I1 r q
end
end VI

/-! Changing operations on what a slot owns. -/
namespace VI
open PySem L2 PyProof.Rows

section
variable {E : Hw} {σ : L2.St} {s : VS} {ce : Cn} {i : Nat}
theorem set_self {σ : L2.St} {i : Nat} {v : V} (e2 : σ[i]? = some (some v)) : σ.set i (some v) = σ := by
  apply List.ext_getElem?
  intro j
  by_cases y : j = i
  · subst y; rw [List.getElem?_set_self (List.getElem?_eq_some_iff.mp e2).1]; exact e2.symm
  · rw [List.getElem?_set_ne (Ne.symm y)]
theorem set_id {α : Type} {ρ : List α} {i : Nat} {v w : α} (e : ρ[i]? = some v) : (ρ.set i w).set i v = ρ := by
  rw [List.set_set]
  apply List.ext_getElem?
  intro j
  by_cases y : j = i
  · subst y; rw [List.getElem?_set_self (List.getElem?_eq_some_iff.mp e).1]; exact e.symm
  · rw [List.getElem?_set_ne (Ne.symm y)]
theorem Wd.wr {d0 : D} (w : Wd E σ s ce) (e : s.ρ[i]? = some (some d0)) : ∃ v cd, σ[i]? = some (some v) ∧ RT E d0 v cd ∧ (∀ p, cd p + ce p ≤ 1) ∧ (∀ p, cd p ≠ 0 → E.F p = none) ∧
    ∀ (E' : Hw) (d1 : D) (cd' : Cn), E'.K = E.K → E'.ct = E.ct → E'.A = E.A → E'.F = E.F → (∀ p o, cd p = 0 → E.H p = some o → E'.H p = some o) → (∀ p, cd' p ≤ cd p) → RT E' d1 v cd' →
      Step E ce E' ∧ Wd E' σ ⟨s.ρ.set i (some d1), s.μ⟩ ce := by
  obtain ⟨c1, c2, re, rm, t, f⟩ := w.own
  obtain ⟨v, cd, c1', e2, r, rfl, re'⟩ := re.at e
  simp only [cadd] at t f
  refine ⟨v, cd, e2, r, fun p => by have := t p; omega, fun p z => f p (by omega), fun E' d1 cd' hK hc hA hF hH le r1 => ?_⟩
  have st : ∀ c, (∀ p, c p ≠ 0 → cd p = 0) → Step E c E' := fun c hc' => ⟨hK, hc, fun a o z => by rw [hF]; exact z, ⟨[], by rw [hA]; simp⟩, fun a o z q => hH a o (hc' a z) q⟩
  have il : i < s.ρ.length := (List.getElem?_eq_some_iff.mp e).1
  refine ⟨st ce fun p z => by have := t p; omega, ⟨fun p o z => ?_, ⟨cadd cd' c1', c2, ?_, by rw [hA]; exact RM.mono (st _ fun p z => by have := t p; omega) rm, fun p => by have := t p; have := le p; simp only [cadd]; omega, fun p z => by rw [hF]; exact f p (by have := le p; simp only [cadd] at z; omega)⟩, fun p z => ?_⟩⟩
  · rw [hF] at z
    refine hH p o ?_ (w.same p o z)
    by_cases y : cd p = 0
    · exact y
    · rw [f p (by omega)] at z; cases z
  · have q := RE.put (i := i) (d := d1) (v := v) (RE.mono (st c1' fun p z => by have := t p; omega) re') (by simp [il]) r1
    rw [set_self e2, List.set_set] at q
    exact q
  · have y := w.ex p z
    cases q : E.H p with
    | none => exact absurd q y
    | some o =>
      rw [hH p o (by have := t p; omega) q]
      exact fun h => nomatch h
theorem rts_snoc : ∀ {ds : List D} {vs : List V} {c : Cn} {d : D} {v : V}, RTs E ds vs c → RT E d v cz → RTs E (ds ++ [d]) (vs ++ [v]) c
  | [], _, _, d, v, h, r => by
    simp only [RTs] at h
    obtain ⟨rfl, rfl⟩ := h
    simp only [List.nil_append, RTs]
    exact ⟨v, [], cz, cz, rfl, r, ⟨rfl, rfl⟩, rfl⟩
  | d0 :: ds, _, _, d, v, h, r => by
    simp only [RTs] at h
    obtain ⟨v0, vs', c1, c2, rfl, r0, q, rfl⟩ := h
    simp only [List.cons_append, RTs]
    exact ⟨v0, vs' ++ [v], c1, c2, rfl, r0, rts_snoc q r, rfl⟩
theorem rts_ins : ∀ {ds : List D} {vs : List V} {c : Cn} {d : D} {v : V} (k : Nat), RTs E ds vs c → RT E d v cz → RTs E (ds.take k ++ [d] ++ ds.drop k) (vs.take k ++ [v] ++ vs.drop k) c
  | [], _, _, d, v, k, h, r => by
    simp only [RTs] at h
    obtain ⟨rfl, rfl⟩ := h
    simp only [List.take_nil, List.drop_nil, List.nil_append, List.append_nil, RTs]
    exact ⟨v, [], cz, cz, rfl, r, ⟨rfl, rfl⟩, rfl⟩
  | d0 :: ds, _, _, d, v, 0, h, r => by
    simp only [RTs] at h
    obtain ⟨v0, vs', c1, c2, rfl, r0, q, rfl⟩ := h
    simp only [List.take_zero, List.drop_zero, List.nil_append, List.cons_append, RTs]
    exact ⟨v, _, cz, cadd c1 c2, rfl, r, ⟨v0, vs', c1, c2, rfl, r0, q, rfl⟩, (cadd_lz _).symm⟩
  | d0 :: ds, _, _, d, v, k + 1, h, r => by
    simp only [RTs] at h
    obtain ⟨v0, vs', c1, c2, rfl, r0, q, rfl⟩ := h
    have ih := rts_ins k q r
    simp only [List.take_succ_cons, List.drop_succ_cons, List.cons_append, RTs]
    exact ⟨v0, _, c1, c2, rfl, r0, ih, rfl⟩
theorem rts_erase : ∀ {ds : List D} {vs : List V} {c : Cn} (k : Nat), RTs E ds vs c → ∃ c', RTs E (ds.eraseIdx k) (vs.eraseIdx k) c' ∧ ∀ p, c' p ≤ c p
  | [], _, _, _, h => by
    simp only [RTs] at h
    obtain ⟨rfl, rfl⟩ := h
    exact ⟨cz, by simp [RTs], fun p => Nat.le_refl _⟩
  | d0 :: ds, _, _, 0, h => by
    simp only [RTs] at h
    obtain ⟨v0, vs', c1, c2, rfl, r0, q, rfl⟩ := h
    exact ⟨c2, q, fun p => by simp only [cadd]; omega⟩
  | d0 :: ds, _, _, k + 1, h => by
    simp only [RTs] at h
    obtain ⟨v0, vs', c1, c2, rfl, r0, q, rfl⟩ := h
    obtain ⟨c', q', le⟩ := rts_erase k q
    refine ⟨cadd c1 c', ?_, fun p => by have := le p; simp only [cadd]; omega⟩
    simp only [List.eraseIdx_cons_succ, RTs]
    exact ⟨v0, _, c1, c', rfl, r0, q', rfl⟩
theorem rts_dropLast : ∀ {ds : List D} {vs : List V} {c : Cn}, RTs E ds vs c → ∃ c', RTs E ds.dropLast vs.dropLast c' ∧ ∀ p, c' p ≤ c p
  | [], _, _, h => by
    simp only [RTs] at h
    obtain ⟨rfl, rfl⟩ := h
    exact ⟨cz, by simp [RTs], fun p => Nat.le_refl _⟩
  | [d0], _, _, h => by
    simp only [RTs] at h
    obtain ⟨v0, vs', c1, c2, rfl, r0, ⟨rfl, rfl⟩, rfl⟩ := h
    exact ⟨cz, by simp [RTs], fun p => Nat.zero_le _⟩
  | d0 :: d1 :: ds, _, _, h => by
    rw [RTs] at h
    obtain ⟨v0, vs', c1, c2, rfl, r0, q, rfl⟩ := h
    obtain ⟨c', q', le⟩ := rts_dropLast q
    have q0 := q
    simp only [RTs] at q0
    obtain ⟨v1, vs'', _, _, rfl, _⟩ := q0
    refine ⟨cadd c1 c', ?_, fun p => by have := le p; simp only [cadd]; omega⟩
    show RTs E (d0 :: (d1 :: ds).dropLast) (v0 :: (v1 :: vs'').dropLast) (cadd c1 c')
    rw [RTs]
    exact ⟨v0, _, c1, c', rfl, r0, q', rfl⟩
theorem rts_cat : ∀ {ds es : List D} {vs ws : List V} {c c' : Cn}, RTs E ds vs c → RTs E es ws c' → RTs E (ds ++ es) (vs ++ ws) (cadd c c')
  | [], _, _, _, _, _, h1, h2 => by simp only [RTs] at h1; obtain ⟨rfl, rfl⟩ := h1; rw [cadd_lz]; exact h2
  | d :: ds, es, _, ws, _, _, h1, h2 => by
    simp only [RTs] at h1
    obtain ⟨v, vs', c1, c2, rfl, r, q, rfl⟩ := h1
    simp only [List.cons_append, RTs]
    exact ⟨v, vs' ++ ws, c1, _, rfl, r, rts_cat q h2, cadd_assoc _ _ _⟩
theorem rts_rev : ∀ {ds : List D} {vs : List V} {c : Cn}, RTs E ds vs c → RTs E ds.reverse vs.reverse c
  | [], _, _, h => by simp only [RTs] at h; obtain ⟨rfl, rfl⟩ := h; simp [RTs]
  | d :: ds, _, _, h => by
    simp only [RTs] at h
    obtain ⟨v, vs', c1, c2, rfl, r, q, rfl⟩ := h
    rw [List.reverse_cons, List.reverse_cons, cadd_comm]
    refine rts_cat (rts_rev q) ?_
    simp only [RTs]
    exact ⟨v, [], c1, cz, rfl, r, ⟨rfl, rfl⟩, rfl⟩
theorem rts_set : ∀ {ds : List D} {vs : List V} {c : Cn} (k : Nat) {d : D} {v : V}, RTs E ds vs c → RT E d v cz → ∃ c', RTs E (ds.set k d) (vs.set k v) c' ∧ ∀ p, c' p ≤ c p
  | [], _, _, _, _, _, h, _ => by
    simp only [RTs] at h
    obtain ⟨rfl, rfl⟩ := h
    exact ⟨cz, by simp [RTs], fun p => Nat.le_refl _⟩
  | d0 :: ds, _, _, 0, d, v, h, r => by
    simp only [RTs] at h
    obtain ⟨v0, vs', c1, c2, rfl, r0, q, rfl⟩ := h
    refine ⟨cadd cz c2, ?_, fun p => by simp only [cadd, cz]; omega⟩
    simp only [List.set_cons_zero, RTs]
    exact ⟨v, vs', cz, c2, rfl, r, q, rfl⟩
  | d0 :: ds, _, _, k + 1, d, v, h, r => by
    simp only [RTs] at h
    obtain ⟨v0, vs', c1, c2, rfl, r0, q, rfl⟩ := h
    obtain ⟨c', q', le⟩ := rts_set k q r
    refine ⟨cadd c1 c', ?_, fun p => by have := le p; simp only [cadd]; omega⟩
    simp only [List.set_cons_succ, RTs]
    exact ⟨v0, _, c1, c', rfl, r0, q', rfl⟩
/-- a list that the slot i owns: where it stands, and what may be put there -/
theorem Wd.wlst {xs : List D} (w : Wd E σ s ce) (e : s.ρ[i]? = some (some (.lst true xs))) : ∃ a vs c', σ[i]? = some (some (.ref a)) ∧ E.H a = some (.lst vs) ∧ RTs E xs vs c' ∧
    ∀ ys ws c'', RTs E ys ws c'' → (∀ p, c'' p ≤ c' p) → Step E ce { E with H := upd E.H a (.lst ws) } ∧ Wd { E with H := upd E.H a (.lst ws) } σ ⟨s.ρ.set i (some (.lst true ys)), s.μ⟩ ce ∧
      ∀ d v, RT E d v cz → RT { E with H := upd E.H a (.lst ws) } d v cz := by
  obtain ⟨v, cd, e2, r, t, f, k⟩ := w.wr e
  simp only [RT] at r
  obtain ⟨a, vs, c', rfl, q, rt, rfl⟩ := r
  refine ⟨a, vs, c', e2, q, rt, fun ys ws c'' ry le => ?_⟩
  have hs : ∀ c : Cn, c a = 0 → Step E c { E with H := upd E.H a (.lst ws) } := fun c hc => ⟨rfl, rfl, fun _ _ h => h, ⟨[], by simp⟩, fun b o z y => by
    show upd E.H a (.lst ws) b = some o
    rw [upd_ne (fun e => z (by rw [e]; exact hc))]
    exact y⟩
  have ta := t a
  simp only [cadd, one] at ta
  have ca : c' a = 0 := by simp at ta; omega
  obtain ⟨st, wd⟩ := k { E with H := upd E.H a (.lst ws) } (.lst true ys) (cadd (one a) c'') rfl rfl rfl rfl (fun p o z y => by
    show upd E.H a (.lst ws) p = some o
    rw [upd_ne (fun e => by rw [e] at z; simp [cadd, one] at z)]
    exact y) (fun p => by have := le p; simp only [cadd]; omega) (by
      simp only [RT]
      exact ⟨a, ws, c'', rfl, upd_same, RTs.mono ys (hs c'' (by have := le a; omega)) ry, rfl⟩)
  exact ⟨st, wd, fun d v r => RT.mono d (hs cz rfl) r⟩
/-- .. a dict -/
theorem Wd.wdic {ks : List Key} {ds : List D} (w : Wd E σ s ce) (e : s.ρ[i]? = some (some (.dic true ks ds))) : ∃ a kvs c', σ[i]? = some (some (.ref a)) ∧ E.H a = some (.dK kvs) ∧ kvs.map (·.1) = ks ∧ RTs E ds (kvs.map (·.2)) c' ∧
    ∀ kvs' ks' ds' c'', kvs'.map (·.1) = ks' → RTs E ds' (kvs'.map (·.2)) c'' → (∀ p, c'' p ≤ c' p) → Step E ce { E with H := upd E.H a (.dK kvs') } ∧ Wd { E with H := upd E.H a (.dK kvs') } σ ⟨s.ρ.set i (some (.dic true ks' ds')), s.μ⟩ ce ∧
      ∀ d v, RT E d v cz → RT { E with H := upd E.H a (.dK kvs') } d v cz := by
  obtain ⟨v, cd, e2, r, t, f, k⟩ := w.wr e
  simp only [RT] at r
  obtain ⟨a, kvs, c', rfl, q, ek, rt, rfl⟩ := r
  refine ⟨a, kvs, c', e2, q, ek, rt, fun kvs' ks' ds' c'' ek' ry le => ?_⟩
  have hs : ∀ c : Cn, c a = 0 → Step E c { E with H := upd E.H a (.dK kvs') } := fun c hc => ⟨rfl, rfl, fun _ _ h => h, ⟨[], by simp⟩, fun b o z y => by
    show upd E.H a (.dK kvs') b = some o
    rw [upd_ne (fun e => z (by rw [e]; exact hc))]
    exact y⟩
  have ta := t a
  simp only [cadd, one] at ta
  have ca : c' a = 0 := by simp at ta; omega
  obtain ⟨st, wd⟩ := k { E with H := upd E.H a (.dK kvs') } (.dic true ks' ds') (cadd (one a) c'') rfl rfl rfl rfl (fun p o z y => by
    show upd E.H a (.dK kvs') p = some o
    rw [upd_ne (fun e => by rw [e] at z; simp [cadd, one] at z)]
    exact y) (fun p => by have := le p; simp only [cadd]; omega) (by
      simp only [RT]
      exact ⟨a, kvs', c'', rfl, upd_same, ek', RTs.mono _ (hs c'' (by have := le a; omega)) ry, rfl⟩)
  exact ⟨st, wd, fun d v r => RT.mono d (hs cz rfl) r⟩
end
section
variable {X : Cx} {ct : Str → Addr} {W : WX} {T : Tab} {e a b o : Expr} {es : List Expr} {c ca q : Ex} {cs : List Ex} {i : Nat} {p pos apos : Pos} {m : Mp}
/-- the run of a changing operation: its slot's kind is known ahead, its arguments, then the change -/
theorem mt_run {σ : L2.St} {H : Hp} {Q : VK} (z : tV X ct W T (.mt m (.var i) cs) σ H Q) : ∃ v, σ[i]? = some (some v) ∧ (∃ (E : Hw) (o : D) (c : Cn), E.H = H ∧ (∀ a o, E.F a = some o → E.H a = some o) ∧ RT E o v c ∧ m.kind o = true) ∧
    tFs X ct W T cs σ H fun vs H2 => ∃ (E : Hw) (s : VS) (ce : Cn) (o : D) (ds : List D) (o' d : D), E.H = H2 ∧ Wd E σ s ce ∧ s.ρ[i]? = some (some o) ∧ RTs E ds vs cz ∧ m.fn o ds = some (o', d) ∧
      ∀ (v' : V) (E' : Hw), Step E ce E' → RT E' d v' cz → Wd E' σ ⟨s.ρ.set i (some o'), s.μ⟩ ce → Q v' E'.H := by
  obtain ⟨E, s, ce, eK, ec, rfl, w, z⟩ := z
  cases e1 : s.ρ[i]? with
  | none => rw [RA.non (by simp only [ev, e1])] at z; exact z.elim
  | some oo =>
    cases oo with
    | none => rw [RA.non (by simp only [ev, e1])] at z; exact z.elim
    | some o0 =>
      by_cases hk : m.kind o0 = true
      · have z : RA W RT' ((evs T cs).bnd fun ds s => match s.ρ[i]? with
          | some (some o) => (m.fn o ds).map fun (o', d) => .ok d ⟨s.ρ.set i (some o'), s.μ⟩
          | _ => none) σ E s ce Q := RA.eq (by simp only [ev, e1, hk, if_true]; all_goals rfl) z
        obtain ⟨c1, c2, re, _⟩ := w.own
        obtain ⟨v, cc, e2, r⟩ := re.val e1
        refine ⟨v, e2, ⟨E, o0, cc, rfl, w.same, r, hk⟩, tFs_ok eK ec w (z.bnd fun ds vs E1 s1 c st r1 w1 z1 => ?_)⟩
        have ecz : c = cz := r1.1
        subst ecz
        cases e3 : s1.ρ[i]? with
        | none => rw [RA.non (by simp only [e3])] at z1; exact z1.elim
        | some oo =>
          cases oo with
          | none => rw [RA.non (by simp only [e3])] at z1; exact z1.elim
          | some o =>
            cases hf : m.fn o ds with
            | none => rw [RA.non (by simp only [e3, hf]; rfl)] at z1; exact z1.elim
            | some r =>
              obtain ⟨o', d⟩ := r
              rw [RA.ok (a := d) (s' := ⟨s1.ρ.set i (some o'), s1.μ⟩) (by simp only [e3, hf]; rfl)] at z1
              exact ⟨E1, s1, ce, o, ds, o', d, rfl, w1, e3, r1.2, hf, fun v' E' st' r' w' => z1 v' E' cz st' r' w'⟩
      · rw [RA.non (by simp only [ev, e1, hk]; rfl)] at z
        exact z.elim
theorem ty_list {E : Hw} {o : D} {v : V} {c : Cn} {K : PySem.W.Frag} (hs : ∀ a o, E.F a = some o → E.H a = some o) (r : RT E o v c) (h : m.kind o = true) (hm : m ≠ .setd) : tyV K "list" v E.H := by
  cases o <;> first | (cases m <;> first | (cases h; done) | exact absurd rfl hm) | skip
  obtain ⟨a, vs, c', rfl, q, _⟩ := lst_at hs r
  exact .inl ⟨rfl, vs, .inl (.inl q)⟩
theorem rts1 {E : Hw} {ds : List D} {v : V} {c : Cn} (h : RTs E ds [v] c) : ∃ d, ds = [d] ∧ RT E d v c := by
  cases ds with
  | nil => simp [RTs] at h
  | cons d ds =>
    simp only [RTs] at h
    obtain ⟨v', vs', c1, c2, e, r, q, rfl⟩ := h
    cases e
    cases ds with
    | nil => simp only [RTs] at q; obtain ⟨_, rfl⟩ := q; exact ⟨d, rfl, r⟩
    | cons d' ds => simp only [RTs] at q; obtain ⟨_, _, _, _, e, _⟩ := q; cases e
theorem mp_lst {m : Mp} {o : D} {ds : List D} {o' d : D} (hm : m ≠ .setd) (h : Mp.fn m o ds = some (o', d)) : ∃ xs, o = .lst true xs := by
  cases o with
  | lst b xs =>
    cases b with
    | true => exact ⟨xs, rfl⟩
    | false => cases m <;> simp [Mp.fn] at h
  | dic b ks xs => cases m <;> simp [Mp.fn] at h; exact absurd rfl hm
  | _ => cases m <;> simp [Mp.fn] at h
theorem mp_app {xs ds : List D} {o' d : D} (h : Mp.fn .app (.lst true xs) ds = some (o', d)) : ∃ d0, ds = [d0] ∧ xs.length < lim ∧ o' = .lst true (xs ++ [d0]) ∧ d = .non := by
  match ds, h with
  | [], h => simp [Mp.fn] at h
  | [d0], h =>
    simp only [Mp.fn] at h
    split at h
    · rename_i z
      cases h
      exact ⟨d0, rfl, z, rfl, rfl⟩
    · cases h
  | _ :: _ :: _, h => simp [Mp.fn] at h
theorem sqN {α β : Type} {xs : List α} {ys : List β} (h : xs.length = ys.length) {i : Int} {k : Nat} (z : ixN xs.length i = some k) : seqIndex? i ys.length = some k := by rw [← h]; exact (ixN_seq z).1
theorem rts_at : ∀ {E : Hw} {ds : List D} {vs : List V} {c : Cn} {k : Nat} {d : D}, RTs E ds vs c → ds[k]? = some d → ∃ v c1, vs[k]? = some v ∧ RT E d v c1
  | _, [], _, _, _, _, _, e => by simp at e
  | _, d0 :: ds, _, _, 0, d, h, e => by
    simp only [RTs] at h
    obtain ⟨v, vs', c1, c2, rfl, r, q, rfl⟩ := h
    simp only [List.getElem?_cons_zero, Option.some.injEq] at e
    subst e
    exact ⟨v, c1, rfl, r⟩
  | _, d0 :: ds, _, _, k + 1, d, h, e => by
    simp only [RTs] at h
    obtain ⟨v, vs', c1, c2, rfl, r, q, rfl⟩ := h
    rw [List.getElem?_cons_succ] at e
    obtain ⟨v', c', e', r'⟩ := rts_at q e
    exact ⟨v', c', by rw [List.getElem?_cons_succ]; exact e', r'⟩
theorem okA_eq {d d' : D} (h : okA d = some d') : d' = d ∧ allF d = true := by
  unfold okA at h
  split at h
  · cases h; exact ⟨rfl, by assumption⟩
  · cases h
theorem mp_popl {xs ds : List D} {o' d : D} (h : Mp.fn .popl (.lst true xs) ds = some (o', d)) : ds = [] ∧ xs[xs.length - 1]? = some d ∧ allF d = true ∧ o' = .lst true xs.dropLast := by
  match ds, h with
  | _ :: _, h => simp [Mp.fn] at h
  | [], h =>
    simp only [Mp.fn] at h
    cases q : xs[xs.length - 1]? with
    | none => rw [q] at h; cases h
    | some d0 =>
      rw [q] at h
      simp only [Option.bind_some] at h
      cases q2 : okA d0 with
      | none => rw [q2] at h; cases h
      | some d1 =>
        rw [q2] at h
        obtain ⟨rfl, f⟩ := okA_eq q2
        cases h
        exact ⟨rfl, rfl, f, rfl⟩
theorem mp_popa {xs ds : List D} {o' d : D} (h : Mp.fn .popa (.lst true xs) ds = some (o', d)) : ∃ i k, ds = [.int i] ∧ -(2 ^ 63) ≤ i ∧ i < 2 ^ 63 ∧ ixN xs.length i = some k ∧ xs[k]? = some d ∧ allF d = true ∧ o' = .lst true (xs.eraseIdx k) := by
  match ds, h with
  | [], h => simp [Mp.fn] at h
  | _ :: _ :: _, h => simp [Mp.fn] at h
  | [d0], h =>
    cases d0 with
    | int i =>
      simp only [Mp.fn] at h
      split at h
      · rename_i z
        cases q : ixN xs.length i with
        | none => rw [q] at h; cases h
        | some k =>
          rw [q] at h
          simp only [Option.bind_some] at h
          cases q1 : xs[k]? with
          | none => rw [q1] at h; cases h
          | some d0 =>
            rw [q1] at h
            simp only [Option.bind_some] at h
            cases q2 : okA d0 with
            | none => rw [q2] at h; cases h
            | some d1 =>
              rw [q2] at h
              obtain ⟨rfl, f⟩ := okA_eq q2
              cases h
              exact ⟨i, k, rfl, z.1, z.2, q, q1, f, rfl⟩
      · cases h
    | _ => simp [Mp.fn] at h
theorem mp_rev {xs ds : List D} {o' d : D} (h : Mp.fn .rev (.lst true xs) ds = some (o', d)) : ds = [] ∧ o' = .lst true xs.reverse ∧ d = .non := by
  match ds, h with
  | _ :: _, h => simp [Mp.fn] at h
  | [], h => simp only [Mp.fn] at h; cases h; exact ⟨rfl, rfl, rfl⟩
theorem mp_clr {xs ds : List D} {o' d : D} (h : Mp.fn .clr (.lst true xs) ds = some (o', d)) : ds = [] ∧ o' = .lst true [] ∧ d = .non := by
  match ds, h with
  | _ :: _, h => simp [Mp.fn] at h
  | [], h => simp only [Mp.fn] at h; cases h; exact ⟨rfl, rfl, rfl⟩
theorem mp_insr {xs ds : List D} {o' d : D} (h : Mp.fn .insr (.lst true xs) ds = some (o', d)) : ∃ i d0, ds = [.int i, d0] ∧ xs.length < lim ∧ 0 ≤ i ∧ i < 2 ^ 63 ∧ o' = .lst true (xs.take i.toNat ++ [d0] ++ xs.drop i.toNat) ∧ d = .non := by
  match ds, h with
  | [], h => simp [Mp.fn] at h
  | [_], h => simp [Mp.fn] at h
  | _ :: _ :: _ :: _, h => simp [Mp.fn] at h
  | [d1, d0], h =>
    cases d1 with
    | int i =>
      simp only [Mp.fn] at h
      split at h
      · rename_i z
        cases h
        exact ⟨i, d0, rfl, z.1, z.2.1, z.2.2, rfl, rfl⟩
      · cases h
    | _ => simp [Mp.fn] at h
/-- xs.insert(e, e) -/
theorem g_insr (ho : PE X o (tVar i)) (ha : PV X ct W T a ca) (hb : PV X ct W T b q) (hbase : attributeBase o "insert" X.env (eval o X.env) = eval o X.env := by rfl)
    (hfew : ((backTo pos (starEach [a, b] X.env)).all (fun x => !x.1) && (backToKw pos (keywordEach [] X.env)).all (fun x => x.1.isSome) && decide (([a, b] : List Expr).length + ([] : List Keyword).length + (if ([] : List Keyword).isEmpty then 0 else 1) < 30)) = true := by rfl)
    (hline : (apos.endLine == pos.line) = true := by rfl) (hst : starEach [a, b] X.env = (false, eval a X.env) :: starEach [b] X.env := by rfl) (hst2 : starEach [b] X.env = (false, eval b X.env) :: starEach [] X.env := by rfl) (hplain : (backTo pos (starEach [b] X.env)).any (·.1) = false := by rfl) :
    PV X ct W T (.Call (.Attribute o "insert" apos) [a, b] [] pos) (.mt .insr (.var i) [ca, q]) :=
  PE.weak (pe_bm PySem.F.plainAttrs_list PySem.F.slot_list_insert PySem.F.type_list_insert mt_insert ho (pa_cons (pf_of ha) (pa_cons (pf_of hb) pa_nil hst2) hst) hbase hfew hline hst hplain) fun σ H Q z => by
    obtain ⟨v, e, ⟨E0, o0, c0, rfl, hs0, r0, hk⟩, qq⟩ := mt_run z
    refine ⟨v, e, ty_list hs0 r0 hk (by decide), tFs_mono qq fun vs H2 ⟨E, s, ce, o, ds, o', d, eH, w, e3, rd, hf, k⟩ => ?_⟩
    subst eH
    obtain ⟨xs, rfl⟩ := mp_lst (by decide) hf
    obtain ⟨n, d0, rfl, hl, h1, h2, rfl, rfl⟩ := mp_insr hf
    obtain ⟨l, ys, c', e4, hH, rt, kk⟩ := w.wlst e3
    rw [e] at e4
    cases e4
    simp only [RTs] at rd
    obtain ⟨y0, _, cy0, c2, rfl, rn, ⟨y, _, cy, c3, rfl, ry, ⟨rfl, rfl⟩, rfl⟩, hz⟩ := rd
    obtain ⟨rfl, hz2⟩ := cadd_z hz
    obtain ⟨rfl, _⟩ := cadd_z hz2.symm
    simp only [RT] at rn
    obtain ⟨rfl, _⟩ := rn
    obtain ⟨st, wd, _⟩ := kk _ _ c' (rts_ins n.toNat rt ry) (fun p => Nat.le_refl _)
    exact ⟨l, ys, n, y, rfl, rfl, hH, by rw [← rt.length]; exact Nat.lt_of_lt_of_le hl (by decide), h1, h2, k .non _ st rt_non wd⟩
/-- xs.append(e) -/
theorem g_app (ho : PE X o (tVar i)) (ha : PV X ct W T a ca) (hbase : attributeBase o "append" X.env (eval o X.env) = eval o X.env := by rfl)
    (hfew : ((backTo pos (starEach [a] X.env)).all (fun x => !x.1) && (backToKw pos (keywordEach [] X.env)).all (fun x => x.1.isSome) && decide (([a] : List Expr).length + ([] : List Keyword).length + (if ([] : List Keyword).isEmpty then 0 else 1) < 30)) = true := by rfl)
    (hline : (apos.endLine == pos.line) = true := by rfl) (hst : starEach [a] X.env = (false, eval a X.env) :: starEach [] X.env := by rfl) (hplain : (backTo pos (starEach [] X.env)).any (·.1) = false := by rfl) :
    PV X ct W T (.Call (.Attribute o "append" apos) [a] [] pos) (.mt .app (.var i) [ca]) :=
  PE.weak (pe_bm PySem.F.plainAttrs_list PySem.F.slot_list_append PySem.F.type_list_append mt_append ho (pa_cons (pf_of ha) pa_nil hst) hbase hfew hline hst hplain) fun σ H Q z => by
    obtain ⟨v, e, ⟨E0, o0, c0, rfl, hs0, r0, hk⟩, q⟩ := mt_run z
    refine ⟨v, e, ty_list hs0 r0 hk (by decide), tFs_mono q fun vs H2 ⟨E, s, ce, o, ds, o', d, eH, w, e3, rd, hf, k⟩ => ?_⟩
    subst eH
    obtain ⟨xs, rfl⟩ := mp_lst (by decide) hf
    obtain ⟨d0, rfl, hl, rfl, rfl⟩ := mp_app hf
    obtain ⟨l, ys, c', e4, hH, rt, kk⟩ := w.wlst e3
    rw [e] at e4
    cases e4
    simp only [RTs] at rd
    obtain ⟨y, _, cy, c2, rfl, ry, ⟨rfl, rfl⟩, hz⟩ := rd
    obtain ⟨rfl, _⟩ := cadd_z hz
    obtain ⟨st, wd, _⟩ := kk (xs ++ [d0]) (ys ++ [y]) c' (rts_snoc rt ry) (fun p => Nat.le_refl _)
    exact ⟨l, ys, y, rfl, rfl, hH, by rw [← rt.length]; exact Nat.lt_of_lt_of_le hl (by decide), k .non _ st rt_non wd⟩
/-- xs.pop() -/
theorem g_popl (ho : PE X o (tVar i)) (hbase : attributeBase o "pop" X.env (eval o X.env) = eval o X.env := by rfl) (hline : (apos.endLine == pos.line) = true := by rfl) :
    PV X ct W T (.Call (.Attribute o "pop" apos) [] [] pos) (.mt .popl (.var i) []) :=
  PE.weak (pe_bm0 PySem.F.plainAttrs_list PySem.F.slot_list_pop PySem.F.type_list_pop mt_pop ho hbase hline) fun σ H Q z => by
    obtain ⟨v, e, ⟨E0, o0, c0, rfl, hs0, r0, hk⟩, q⟩ := mt_run z
    refine ⟨v, e, ty_list hs0 r0 hk (by decide), ?_⟩
    obtain ⟨E, s, ce, o, ds, o', d, eH, w, e3, rd, hf, k⟩ := q
    rw [← eH]
    obtain ⟨xs, rfl⟩ := mp_lst (by decide) hf
    obtain ⟨rfl, hl, fd, rfl⟩ := mp_popl hf
    obtain ⟨l, ys, c', e4, hH, rt, kk⟩ := w.wlst e3
    rw [e] at e4
    cases e4
    obtain ⟨y, cy, ey, ry⟩ := rts_at rt hl
    rw [rt.length] at ey
    have := RT.allF d ry fd
    subst this
    obtain ⟨c'', rd', le⟩ := rts_dropLast rt
    obtain ⟨st, wd, kp⟩ := kk _ _ c'' rd' le
    exact ⟨l, ys, y, rfl, rfl, hH, ey, k y _ st (kp d y ry) wd⟩
/-- xs.pop(e) -/
theorem g_popa (ho : PE X o (tVar i)) (ha : PV X ct W T a ca) (hbase : attributeBase o "pop" X.env (eval o X.env) = eval o X.env := by rfl)
    (hfew : ((backTo pos (starEach [a] X.env)).all (fun x => !x.1) && (backToKw pos (keywordEach [] X.env)).all (fun x => x.1.isSome) && decide (([a] : List Expr).length + ([] : List Keyword).length + (if ([] : List Keyword).isEmpty then 0 else 1) < 30)) = true := by rfl)
    (hline : (apos.endLine == pos.line) = true := by rfl) (hst : starEach [a] X.env = (false, eval a X.env) :: starEach [] X.env := by rfl) (hplain : (backTo pos (starEach [] X.env)).any (·.1) = false := by rfl) :
    PV X ct W T (.Call (.Attribute o "pop" apos) [a] [] pos) (.mt .popa (.var i) [ca]) :=
  PE.weak (pe_bm PySem.F.plainAttrs_list PySem.F.slot_list_pop PySem.F.type_list_pop mt_popAt ho (pa_cons (pf_of ha) pa_nil hst) hbase hfew hline hst hplain) fun σ H Q z => by
    obtain ⟨v, e, ⟨E0, o0, c0, rfl, hs0, r0, hk⟩, q⟩ := mt_run z
    refine ⟨v, e, ty_list hs0 r0 hk (by decide), tFs_mono q fun vs H2 ⟨E, s, ce, o, ds, o', d, eH, w, e3, rd, hf, k⟩ => ?_⟩
    subst eH
    obtain ⟨xs, rfl⟩ := mp_lst (by decide) hf
    obtain ⟨n, j, rfl, h1, h2, hj, hl, fd, rfl⟩ := mp_popa hf
    obtain ⟨l, ys, c', e4, hH, rt, kk⟩ := w.wlst e3
    rw [e] at e4
    cases e4
    simp only [RTs, RT] at rd
    obtain ⟨y0, _, cy0, c2, rfl, ⟨rfl, rfl⟩, ⟨rfl, rfl⟩, _⟩ := rd
    obtain ⟨y, cy, ey, ry⟩ := rts_at rt hl
    have := RT.allF d ry fd
    subst this
    obtain ⟨c'', rd', le⟩ := rts_erase j rt
    obtain ⟨st, wd, kp⟩ := kk _ _ c'' rd' le
    exact ⟨l, ys, n, j, y, rfl, rfl, hH, h1, h2, sqN rt.length hj, ey, k y _ st (kp d y ry) wd⟩
/-- xs.reverse() -/
theorem g_rev (ho : PE X o (tVar i)) (hbase : attributeBase o "reverse" X.env (eval o X.env) = eval o X.env := by rfl) (hline : (apos.endLine == pos.line) = true := by rfl) :
    PV X ct W T (.Call (.Attribute o "reverse" apos) [] [] pos) (.mt .rev (.var i) []) :=
  PE.weak (pe_bm0 PySem.F.plainAttrs_list PySem.F.slot_list_reverse PySem.F.type_list_reverse mt_reverse ho hbase hline) fun σ H Q z => by
    obtain ⟨v, e, ⟨E0, o0, c0, rfl, hs0, r0, hk⟩, q⟩ := mt_run z
    refine ⟨v, e, ty_list hs0 r0 hk (by decide), ?_⟩
    obtain ⟨E, s, ce, o, ds, o', d, eH, w, e3, rd, hf, k⟩ := q
    rw [← eH]
    obtain ⟨xs, rfl⟩ := mp_lst (by decide) hf
    obtain ⟨rfl, rfl, rfl⟩ := mp_rev hf
    obtain ⟨l, ys, c', e4, hH, rt, kk⟩ := w.wlst e3
    rw [e] at e4
    cases e4
    obtain ⟨st, wd, kp⟩ := kk _ _ c' (rts_rev rt) (fun p => Nat.le_refl _)
    exact ⟨l, ys, rfl, rfl, hH, k .non _ st rt_non wd⟩
/-- xs.clear() -/
theorem g_clr (ho : PE X o (tVar i)) (hbase : attributeBase o "clear" X.env (eval o X.env) = eval o X.env := by rfl) (hline : (apos.endLine == pos.line) = true := by rfl) :
    PV X ct W T (.Call (.Attribute o "clear" apos) [] [] pos) (.mt .clr (.var i) []) :=
  PE.weak (pe_bm0 PySem.F.plainAttrs_list PySem.F.slot_list_clear PySem.F.type_list_clear mt_clear ho hbase hline) fun σ H Q z => by
    obtain ⟨v, e, ⟨E0, o0, c0, rfl, hs0, r0, hk⟩, q⟩ := mt_run z
    refine ⟨v, e, ty_list hs0 r0 hk (by decide), ?_⟩
    obtain ⟨E, s, ce, o, ds, o', d, eH, w, e3, rd, hf, k⟩ := q
    rw [← eH]
    obtain ⟨xs, rfl⟩ := mp_lst (by decide) hf
    obtain ⟨rfl, rfl, rfl⟩ := mp_clr hf
    obtain ⟨l, ys, c', e4, hH, rt, kk⟩ := w.wlst e3
    rw [e] at e4
    cases e4
    obtain ⟨st, wd, kp⟩ := kk [] [] cz ⟨rfl, rfl⟩ (fun p => Nat.zero_le _)
    exact ⟨l, ys, rfl, rfl, hH, k .non _ st rt_non wd⟩
end
end VI

/-! Targets, what is walked, comprehensions. -/
namespace VI
open PySem L2 PyProof.Rows

section
variable {E : Hw} {σ : L2.St} {s : VS} {ce : Cn}
/-- what stands in σ at empty slots does not matter -/
theorem RE.agree {E : Hw} : ∀ {ρ : List (Option D)} {σ σ' : L2.St} {c : Cn}, RE E ρ σ c → σ'.length = σ.length → (∀ (i : Nat) (d : D), ρ[i]? = some (some d) → σ'[i]? = σ[i]?) → RE E ρ σ' c
  | [], _, σ', _, h, l, _ => by
    simp only [RE] at h ⊢
    obtain ⟨rfl, rfl⟩ := h
    exact ⟨List.length_eq_zero_iff.mp (by simpa using l), rfl⟩
  | none :: ρ, _, [], _, h, l, _ => by
    simp only [RE] at h
    obtain ⟨x, σ', rfl, _⟩ := h
    simp at l
  | none :: ρ, _, x' :: σ', _, h, l, a => by
    simp only [RE] at h ⊢
    obtain ⟨x, σ1, rfl, q⟩ := h
    exact ⟨x', σ', rfl, RE.agree q (by simpa using l) fun i d e => by simpa using a (i + 1) d (by simpa using e)⟩
  | some d0 :: ρ, _, [], _, h, l, _ => by
    simp only [RE] at h
    obtain ⟨v, σ', c1, c2, rfl, _⟩ := h
    simp at l
  | some d0 :: ρ, _, x' :: σ', _, h, l, a => by
    simp only [RE] at h ⊢
    obtain ⟨v, σ1, c1, c2, rfl, r, q, rfl⟩ := h
    have e := a 0 d0 rfl
    simp only [List.getElem?_cons_zero, Option.some.injEq] at e
    subst e
    exact ⟨v, σ', c1, c2, rfl, r, RE.agree q (by simpa using l) fun i d e => by simpa using a (i + 1) d (by simpa using e), rfl⟩
/-- a value put into a slot, whatever stood there -/
theorem RE.over {ρ : List (Option D)} {c c1 : Cn} {d : D} {v : V} (i : Nat) (re : RE E ρ σ c) (r : RT E d v c1) : ∃ c', (∀ p, c' p ≤ c p + c1 p) ∧ RE E (ρ.set i (some d)) (σ.set i (some v)) c' := by
  by_cases il : i < ρ.length
  · obtain ⟨c2, le, q⟩ := re.drop i
    have z := RE.put (i := i) q (by simp [il]) r
    rw [List.set_set] at z
    exact ⟨_, fun p => by have := le p; simp only [cadd]; omega, z⟩
  · rw [List.set_eq_of_length_le (by omega), List.set_eq_of_length_le (by have := re.length; omega)]
    exact ⟨c, fun p => by omega, re⟩
theorem Wd.over {c : Cn} {d : D} {v : V} (i : Nat) (w : Wd E σ s (cadd ce c)) (r : RT E d v c) : Wd E (σ.set i (some v)) ⟨s.ρ.set i (some d), s.μ⟩ ce := by
  obtain ⟨c1, c2, re, rm, t, f⟩ := w.own
  obtain ⟨c', le, q⟩ := re.over i r
  simp only [cadd] at t f
  exact ⟨w.same, ⟨c', c2, q, rm, fun p => by have := t p; have := le p; omega, fun p z => f p (by have := le p; omega)⟩, fun p z => w.ex p (by simp only [cadd]; omega)⟩
theorem wipe_get : ∀ {vs : List Nat} {σ : L2.St} {k : Nat}, (wipe σ vs)[k]? = if k ∈ vs then σ[k]?.map (fun _ => none) else σ[k]?
  | [], σ, k => by simp [wipe]
  | v :: vs, σ, k => by
    unfold wipe
    by_cases h : v = k
    · subst h
      rw [List.getElem?_set]
      simp only [if_true, wipe_length, List.mem_cons, true_or]
      by_cases l : v < σ.length
      · simp [l]
      · simp [l]
    · rw [List.getElem?_set_ne h, wipe_get]
      have : k ≠ v := fun e => h e.symm
      simp [this]
theorem wipeR_get : ∀ {vs : List Nat} {ρ : List (Option D)} {k : Nat}, (wipeR ρ vs)[k]? = if k ∈ vs then ρ[k]?.map (fun _ => none) else ρ[k]?
  | [], σ, k => by simp [wipeR]
  | v :: vs, σ, k => by
    have l0 : (wipeR σ vs).length = σ.length := by
      clear k
      induction vs with
      | nil => rfl
      | cons a l ih => simp only [wipeR, List.length_set]; exact ih
    unfold wipeR
    by_cases h : v = k
    · subst h
      rw [List.getElem?_set]
      simp only [if_true, l0, List.mem_cons, true_or]
      by_cases l : v < σ.length
      · simp [l]
      · simp [l]
    · rw [List.getElem?_set_ne h, wipeR_get]
      have : k ≠ v := fun e => h e.symm
      simp [this]
theorem wipe_wipe {σ : L2.St} {vs : List Nat} : wipe (wipe σ vs) vs = wipe σ vs := by
  apply List.ext_getElem?
  intro k
  simp only [wipe_get]
  split
  · cases σ[k]? <;> rfl
  · rfl
theorem wipeR_wipeR {ρ : List (Option D)} {vs : List Nat} : wipeR (wipeR ρ vs) vs = wipeR ρ vs := by
  apply List.ext_getElem?
  intro k
  simp only [wipeR_get]
  split
  · cases ρ[k]? <;> rfl
  · rfl
theorem RE.drops : ∀ {vs : List Nat} {ρ : List (Option D)} {c : Cn}, RE E ρ σ c → ∃ c', (∀ p, c' p ≤ c p) ∧ RE E (wipeR ρ vs) σ c'
  | [], _, c, h => ⟨c, fun _ => Nat.le_refl _, h⟩
  | v :: vs, _, c, h => by
    obtain ⟨c1, l1, h1⟩ := RE.drops (vs := vs) h
    obtain ⟨c2, l2, h2⟩ := h1.drop v
    exact ⟨c2, fun p => by have := l1 p; have := l2 p; omega, h2⟩
theorem Wd.agree {σ' : L2.St} (w : Wd E σ s ce) (l : σ'.length = σ.length) (h : ∀ (i : Nat) (d : D), s.ρ[i]? = some (some d) → σ'[i]? = σ[i]?) : Wd E σ' s ce := by
  obtain ⟨c1, c2, re, rm, t, f⟩ := w.own
  exact ⟨w.same, ⟨c1, c2, re.agree l h, rm, t, f⟩, w.ex⟩
theorem Wd.dropsR (w : Wd E σ s ce) (vs : List Nat) : Wd E σ ⟨wipeR s.ρ vs, s.μ⟩ ce := by
  obtain ⟨c1, c2, re, rm, t, f⟩ := w.own
  obtain ⟨c', le, q⟩ := re.drops (vs := vs)
  exact ⟨w.same, ⟨c', c2, q, rm, fun p => by have := t p; have := le p; omega, fun p z => f p (by have := le p; omega)⟩, w.ex⟩
/-- slots forgotten on both sides -/
theorem Wd.wipe (w : Wd E σ s ce) (vs : List Nat) : Wd E (L2.wipe σ vs) ⟨wipeR s.ρ vs, s.μ⟩ ce :=
  (w.dropsR vs).agree (L2.wipe_length σ vs) fun i d e => by
    rw [wipeR_get] at e
    rw [wipe_get]
    split at e
    · cases q : s.ρ[i]? with
      | none => rw [q] at e; cases e
      | some o => rw [q] at e; cases e
    · rename_i h; rw [if_neg h]
theorem Wd.unwipe {vs : List Nat} (w : Wd E (L2.wipe σ vs) ⟨wipeR s.ρ vs, s.μ⟩ ce) : Wd E σ ⟨wipeR s.ρ vs, s.μ⟩ ce :=
  w.agree (L2.wipe_length σ vs).symm fun i d e => by
    rw [wipe_get]
    have e : (wipeR s.ρ vs)[i]? = some (some d) := e
    rw [wipeR_get] at e
    split at e
    · cases q : s.ρ[i]? with
      | none => rw [q] at e; cases e
      | some o => rw [q] at e; cases e
    · rename_i h; rw [if_neg h]
end

/-! ### targets -/
/-- what a target does with a value -/
def GB (K : PySem.W.Frag) (g : TG) (is : List Nat) : Prop :=
  ∀ (E : Hw) (σ : L2.St) (s : VS) (ce c : Cn) (d : D) (v : V) (ρ' : List (Option D)) (R : L2.St → Hp → Prop), E.K = K → Wd E σ s (cadd ce c) → RT E d v c → bindT is d s.ρ = some ρ' →
    (∀ σ', L2.wipe σ' is = L2.wipe σ is → Wd E σ' ⟨ρ', s.μ⟩ ce → R σ' E.H) → g v σ E.H R
theorem gb1 {K : PySem.W.Frag} {i : Nat} : GB K (gName i) [i] := fun E σ s ce c d v ρ' R eK w r hb k => by
  simp only [bindT] at hb
  cases hb
  refine k _ ?_ (w.over i r)
  simp [L2.wipe]
theorem wipe2 {σ : L2.St} {i j : Nat} {x y : Option V} : L2.wipe ((σ.set i x).set j y) [i, j] = L2.wipe σ [i, j] := by
  apply List.ext_getElem?
  intro k
  rw [wipe_get, wipe_get]
  split
  · simp only [List.getElem?_set, List.length_set]
    split <;> split <;> simp_all
    all_goals (try split) <;> simp_all
  · rename_i h
    simp only [List.mem_cons, List.not_mem_nil, or_false, not_or] at h
    rw [List.getElem?_set_ne (Ne.symm h.2), List.getElem?_set_ne (Ne.symm h.1)]
theorem wipe3 {σ : L2.St} {i j l : Nat} {x y z : Option V} : L2.wipe (((σ.set i x).set j y).set l z) [i, j, l] = L2.wipe σ [i, j, l] := by
  apply List.ext_getElem?
  intro k
  rw [wipe_get, wipe_get]
  split
  · simp only [List.getElem?_set, List.length_set]
    split <;> split <;> simp_all
    all_goals (try split) <;> simp_all
    all_goals (try split) <;> simp_all
  · rename_i h
    simp only [List.mem_cons, List.not_mem_nil, or_false, not_or] at h
    rw [List.getElem?_set_ne (Ne.symm h.2.2), List.getElem?_set_ne (Ne.symm h.2.1), List.getElem?_set_ne (Ne.symm h.1)]
theorem gb2 {K : PySem.W.Frag} {i j : Nat} : GB K (gTup K 2 (gCons (gName i) (gCons (gName j) gNil))) [i, j] := fun E σ s ce c d v ρ' R eK w r hb k => by
  simp only [bindT] at hb
  split at hb
  · rename_i x y
    cases hb
    obtain ⟨a, vs, rfl, q, rt⟩ := r
    simp only [RTs] at rt
    obtain ⟨v1, _, c1, c2, rfl, r1, ⟨v2, _, c3, c4, rfl, r2, ⟨rfl, rfl⟩, rfl⟩, rfl⟩ := rt
    refine ⟨a, [v1, v2], rfl, .inl (.inl (w.same _ _ q)), rfl, v1, _, rfl, v2, _, rfl, rfl, ?_⟩
    have w1 : Wd E (σ.set i (some v1)) ⟨s.ρ.set i (some x), s.μ⟩ (cadd ce c3) := Wd.over (ce := cadd ce c3) (c := c1) i (w.less fun p => by simp only [cadd, cz]; omega) r1
    exact k _ wipe2 (w1.over j r2)
  · cases hb
theorem gb3 {K : PySem.W.Frag} {i j l : Nat} : GB K (gTup K 3 (gCons (gName i) (gCons (gName j) (gCons (gName l) gNil)))) [i, j, l] := fun E σ s ce c d v ρ' R eK w r hb k => by
  simp only [bindT] at hb
  split at hb
  · rename_i x y z
    cases hb
    obtain ⟨a, vs, rfl, q, rt⟩ := r
    simp only [RTs] at rt
    obtain ⟨v1, _, c1, c2, rfl, r1, ⟨v2, _, c3, c4, rfl, r2, ⟨v3, _, c5, c6, rfl, r3, ⟨rfl, rfl⟩, rfl⟩, rfl⟩, rfl⟩ := rt
    refine ⟨a, [v1, v2, v3], rfl, .inl (.inl (w.same _ _ q)), rfl, v1, _, rfl, v2, _, rfl, v3, _, rfl, rfl, ?_⟩
    have w1 : Wd E (σ.set i (some v1)) ⟨s.ρ.set i (some x), s.μ⟩ (cadd (cadd ce c5) c3) := Wd.over (ce := cadd (cadd ce c5) c3) (c := c1) i (w.less fun p => by simp only [cadd, cz]; omega) r1
    have w2 : Wd E ((σ.set i (some v1)).set j (some v2)) ⟨(s.ρ.set i (some x)).set j (some y), s.μ⟩ (cadd ce c5) := w1.over j r2
    exact k _ wipe3 (w2.over l r3)
  · cases hb
end VI

/-! What is walked; comprehensions. -/
namespace VI
open PySem L2 PyProof.Rows

/-- J gives items, one a turn -/
def Srv (E : Hw) (items : List D) (J : It) : Prop := ∃ (G : Hp → Prop) (Y : Nat → Hp → V → Hp → Prop), Walk J items.length G Y ∧
  ∀ (E1 : Hw), Step E cz E1 → (∀ a o, E1.F a = some o → E1.H a = some o) → G E1.H ∧
    ∀ (i : Nat) (x : V) (H' : Hp) (d : D), items[i]? = some d → Y i E1.H x H' → ∃ E2, New E1 E2 ∧ E2.H = H' ∧ RT E2 d x cz
abbrev SrvR : Hw → List D → It → Cn → Prop := fun E items J c => c = cz ∧ Srv E items J
def srcM (T : Tab) (sk : Sk) (src : List Ex) : M (List D) := (evs T src).bnd fun ds => M.opt (srcD sk ds)
def tSrc (X : Cx) (ct : Str → Addr) (W : WX) (T : Tab) (sk : Sk) (src : List Ex) : TI := fun σ H R => Run X.K ct W SrvR (srcM T sk src) σ H R
def PIs (X : Cx) (ct : Str → Addr) (W : WX) (T : Tab) (tg iter : Expr) (sk : Sk) (src : List Ex) : Prop := PI X tg iter (tSrc X ct W T sk src)
theorem PI.weak {X : Cx} {tg iter : Expr} {t t' : TI} (h : PI X tg iter t) (w : ∀ σ H R, t' σ H R → t σ H R) : PI X tg iter t' := ⟨fun pins s σ H R I q => h.run pins s σ H R I (w σ H R q)⟩
theorem rts_z : ∀ {E : Hw} {ds : List D} {vs : List V} {k : Nat} {x : V} {d : D}, RTs E ds vs cz → vs[k]? = some x → ds[k]? = some d → RT E d x cz
  | _, [], _, _, _, _, _, _, e => by simp at e
  | _, d0 :: ds, _, 0, x, d, h, e1, e => by
    simp only [RTs] at h
    obtain ⟨v, vs', c1, c2, rfl, r, q, hz⟩ := h
    obtain ⟨rfl, rfl⟩ := cadd_z hz
    simp only [List.getElem?_cons_zero, Option.some.injEq] at e e1
    rw [← e, ← e1]
    exact r
  | _, d0 :: ds, _, k + 1, x, d, h, e1, e => by
    simp only [RTs] at h
    obtain ⟨v, vs', c1, c2, rfl, r, q, hz⟩ := h
    obtain ⟨rfl, rfl⟩ := cadd_z hz
    rw [List.getElem?_cons_succ] at e e1
    exact rts_z q e1 e
section
variable {X : Cx} {ct : Str → Addr} {W : WX} {T : Tab} {tg l a b : Expr} {c ca cb : Ex} {sk : Sk} {src : List Ex} {p pos : Pos}
theorem src_ok {σ : L2.St} {E : Hw} {s : VS} {ce : Cn} {R : It → Hp → Prop} (eK : E.K = X.K) (ec : E.ct = ct) (w : Wd E σ s ce) (z : RA W SrvR (srcM T sk src) σ E s ce R) :
    tFs X ct W T src σ E.H fun vs H1 => ∃ (E1 : Hw) (ds items : List D), E1.K = X.K ∧ E1.H = H1 ∧ (∀ a o, E1.F a = some o → E1.H a = some o) ∧ RTs E1 ds vs cz ∧ srcD sk ds = some items ∧ ∀ J, Srv E1 items J → R J H1 := by
  refine tFs_ok eK ec w (z.bnd fun ds vs E1 s1 c st r w1 z1 => ?_)
  have ecz : c = cz := r.1
  subst ecz
  cases q : srcD sk ds with
  | none => rw [RA.non (show M.opt (srcD sk ds) s1 = none by rw [q]; rfl)] at z1; exact z1.elim
  | some items =>
    rw [RA.ok (a := items) (s' := s1) (show M.opt (srcD sk ds) s1 = _ by rw [q]; rfl)] at z1
    exact ⟨E1, ds, items, st.k.trans eK, rfl, w1.same, r.2, q, fun J h => z1 J E1 cz (Step.refl _ _) ⟨rfl, h⟩ w1⟩
theorem srv_list {E : Hw} {K : PySem.W.Frag} {ds : List D} {v : V} {c : Cn} (r : RT E (.lst false ds) v c) : ∃ a vs, v = .ref a ∧ E.F a = some (.lst vs) ∧ Srv E ds (Itl K a) := by
  simp only [RT] at r
  obtain ⟨_, a, vs, rfl, q, rt⟩ := r
  refine ⟨a, vs, rfl, q, fun H => SqL K H a vs, YAt vs, by rw [rt.length]; exact walk_list, fun E1 st sm => ⟨.inl (.inl (sm _ _ (st.f _ _ q))), ?_⟩⟩
  rintro i x H' d e ⟨rfl, ex⟩
  exact ⟨E1, New.refl sm, rfl, rts_z (RTs.mono ds st rt) ex e⟩
theorem srv_scr {E : Hw} {ns : List Int} {v : V} {c : Cn} (r : RT E (.scr ns) v c) : ∃ a, v = .ref a ∧ SqL E.K E.F a (ns.map V.int) ∧ Srv E (ns.map .int) (Itl E.K a) := by
  simp only [RT] at r
  obtain ⟨_, a, rfl, q⟩ := r
  refine ⟨a, rfl, q, fun H => SqL E.K H a (ns.map V.int), YAt (ns.map V.int), by have := walk_list (K := E.K) (a := a) (xs := ns.map V.int); simpa using this, fun E1 st sm => ⟨sqL_mono (fun a o h => sm _ _ (st.f _ _ h)) q, ?_⟩⟩
  rintro i x H' d e ⟨rfl, ex⟩
  refine ⟨E1, New.refl sm, rfl, ?_⟩
  rw [List.getElem?_map] at e ex
  cases q : ns[i]? with
  | none => rw [q] at e; cases e
  | some n => rw [q] at e ex; cases e; cases ex; exact rt_int
theorem s_list (h : PV X ct W T l c) : PIs X ct W T tg l .val [c] := PI.weak (pi_list (pf_of h)) fun σ H R z => by
  obtain ⟨E, s, ce, eK, ec, rfl, w, z⟩ := z
  have q := src_ok eK ec w z
  refine tFs_mono (Q := _) (R := fun vs H1 => (fun x H1 => ∃ a, x = V.ref a ∧ (∃ xs, SqL X.K H1 a xs) ∧ R (Itl X.K a) H1) (vs.headD .non) H1) q fun vs H1 ⟨E1, ds, items, k1, eH, sm, rt, hs, kk⟩ => ?_
  subst eH
  unfold srcD at hs
  split at hs <;> try contradiction
  · cases hs
    obtain ⟨v, _, c1, c2, rfl, r, ⟨rfl, rfl⟩, _⟩ := rt
    obtain ⟨a, vs, rfl, q, sv⟩ := srv_list (K := X.K) r
    exact ⟨a, rfl, ⟨vs, .inl (.inl (sm _ _ q))⟩, kk _ sv⟩
  · cases hs
    obtain ⟨v, _, c1, c2, rfl, r, ⟨rfl, rfl⟩, _⟩ := rt
    obtain ⟨a, rfl, q, sv⟩ := srv_scr r
    rw [k1] at q sv
    exact ⟨a, rfl, ⟨_, sqL_mono sm q⟩, kk _ sv⟩
theorem s_tup (h : PV X ct W T l c) : PIs X ct W T tg l .tupS [c] := PI.weak (pi_tup (pf_of h)) fun σ H R z => by
  obtain ⟨E, s, ce, eK, ec, rfl, w, z⟩ := z
  have q := src_ok eK ec w z
  refine tFs_mono (Q := _) (R := fun vs H1 => (fun x H1 => ∃ a, x = V.ref a ∧ (∃ xs, SqT X.K H1 a xs) ∧ R (Itt X.K a) H1) (vs.headD .non) H1) q fun vs H1 ⟨E1, ds, items, k1, eH, sm, rt, hs, kk⟩ => ?_
  subst eH
  unfold srcD at hs
  split at hs <;> try contradiction
  split at hs
  · cases hs
    rename_i ha
    obtain ⟨v, _, c1, c2, rfl, r, ⟨rfl, rfl⟩, _⟩ := rt
    simp only [RT] at r
    obtain ⟨a, vs, rfl, q, rt⟩ := r
    have := RTs.allF _ rt ha
    subst this
    refine ⟨a, rfl, ⟨vs, .inl (.inl (sm _ _ q))⟩, kk _ ⟨fun H => SqT X.K H a vs, YAt vs, by rw [rt.length]; exact walk_tup, fun E2 st sm2 => ⟨.inl (.inl (sm2 _ _ (st.f _ _ q))), ?_⟩⟩⟩
    rintro i x H' d e ⟨rfl, ex⟩
    exact ⟨E2, New.refl sm2, rfl, rts_z (RTs.mono _ st rt) ex e⟩
  · cases hs
theorem s_str (h : PV X ct W T l c) : PIs X ct W T tg l .strS [c] := PI.weak (pi_str (pf_of h)) fun σ H R z => by
  obtain ⟨E, s, ce, eK, ec, rfl, w, z⟩ := z
  have q := src_ok eK ec w z
  refine tFs_mono (Q := _) (R := fun vs H1 => (fun v H1 => ∃ x, v = V.str x ∧ R (Its x) H1) (vs.headD .non) H1) q fun vs H1 ⟨E1, ds, items, k1, eH, sm, rt, hs, kk⟩ => ?_
  subst eH
  unfold srcD at hs
  split at hs <;> try contradiction
  cases hs
  rename_i z _
  obtain ⟨v, _, c1, c2, rfl, r, ⟨rfl, rfl⟩, _⟩ := rt
  simp only [RT] at r
  obtain ⟨rfl, _⟩ := r
  refine ⟨z, rfl, kk _ ⟨_, _, by have := walk_str (z := z); simpa using this, fun E2 st sm2 => ⟨trivial, ?_⟩⟩⟩
  rintro i x H' d e ⟨rfl, c, ex, rfl⟩
  refine ⟨E2, New.refl sm2, rfl, ?_⟩
  rw [List.getElem?_map, Array.getElem?_toList, ex] at e
  cases e
  exact rt_str
theorem s_rng1 (hg : Gl X "range") (hm : X.mg "range" = none) (ha : PV X ct W T a c) (hs : starEach [a] X.env = [(false, eval a X.env)] := by rfl) : PIs X ct W T tg (.Call (.Name "range" p) [a] [] pos) .rng1 [c] :=
  PI.weak (pi_range1 hg hm (pa_cons (pf_of ha) pa_nil hs) hs) fun σ H R z => by
    obtain ⟨E, s, ce, eK, ec, rfl, w, z⟩ := z
    refine tFs_mono (src_ok eK ec w z) fun vs H1 ⟨E1, ds, items, k1, eH, sm, rt, hs, kk⟩ => ?_
    subst eH
    unfold srcD at hs
    split at hs <;> try contradiction
    split at hs
    · cases hs
      rename_i n _ hn
      obtain ⟨v, _, c1, c2, rfl, r, ⟨rfl, rfl⟩, _⟩ := rt
      simp only [RT] at r
      obtain ⟨rfl, _⟩ := r
      have hlim : (lim : Int) = 1000000 := rfl
      refine ⟨n, rfl, by omega, by omega, kk _ ⟨_, _, by have := walk_range (lo := 0) (n := n.toNat); simpa using this, fun E2 st sm2 => ⟨trivial, ?_⟩⟩⟩
      rintro i x H' d e ⟨rfl, rfl⟩
      refine ⟨E2, New.refl sm2, rfl, ?_⟩
      rw [List.getElem?_map] at e
      cases q : (List.range n.toNat)[i]? with
      | none => rw [q] at e; cases e
      | some j =>
        rw [q] at e
        obtain ⟨hj, rfl⟩ := List.getElem?_eq_some_iff.mp q
        cases e
        rw [List.getElem_range]
        exact rt_int
    · cases hs
theorem s_rng2 (hg : Gl X "range") (hm : X.mg "range" = none) (ha : PV X ct W T a ca) (hb : PV X ct W T b cb) (hs : starEach [a, b] X.env = [(false, eval a X.env), (false, eval b X.env)] := by rfl) (hs2 : starEach [b] X.env = [(false, eval b X.env)] := by rfl) :
    PIs X ct W T tg (.Call (.Name "range" p) [a, b] [] pos) .rng2 [ca, cb] :=
  PI.weak (pi_range2 hg hm (pa_cons (pf_of ha) (pa_cons (pf_of hb) pa_nil hs2) (by rw [hs, hs2])) hs hs2) fun σ H R z => by
    obtain ⟨E, s, ce, eK, ec, rfl, w, z⟩ := z
    refine tFs_mono (src_ok eK ec w z) fun vs H1 ⟨E1, ds, items, k1, eH, sm, rt, hs, kk⟩ => ?_
    subst eH
    unfold srcD at hs
    split at hs <;> try contradiction
    split at hs
    · cases hs
      rename_i m n _ hn
      obtain ⟨v, _, c1, c2, rfl, r, ⟨v', _, c3, c4, rfl, r', ⟨rfl, rfl⟩, _⟩, _⟩ := rt
      simp only [RT] at r r'
      obtain ⟨rfl, _⟩ := r
      obtain ⟨rfl, _⟩ := r'
      have hlim : (lim : Int) = 1000000 := rfl
      refine ⟨m, n, rfl, ⟨by omega, by omega, by omega, by omega⟩, kk _ ⟨_, _, by have := walk_range (lo := m) (n := (n - m).toNat); simpa using this, fun E2 st sm2 => ⟨trivial, ?_⟩⟩⟩
      rintro i x H' d e ⟨rfl, rfl⟩
      refine ⟨E2, New.refl sm2, rfl, ?_⟩
      rw [List.getElem?_map] at e
      cases q : (List.range (n - m).toNat)[i]? with
      | none => rw [q] at e; cases e
      | some j =>
        rw [q] at e
        obtain ⟨hj, rfl⟩ := List.getElem?_eq_some_iff.mp q
        cases e
        rw [List.getElem_range]
        exact rt_int
    · cases hs
/-- a pair made at a turn -/
theorem pair_new {E : Hw} {t : Addr} {x y : V} {dx dy : D} (sm : ∀ a o, E.F a = some o → E.H a = some o) (ht : E.H t = none) (rx : RT E dx x cz) (ry : RT E dy y cz) :
    ∃ E2, New E E2 ∧ E2.H = upd E.H t (.tup [x, y]) ∧ RT E2 (.tup [dx, dy]) (.ref t) cz := by
  have n := layF_new sm (o := .tup [x, y]) ht
  refine ⟨E.layF t (.tup [x, y]), n, rfl, ?_⟩
  simp only [RT]
  refine ⟨t, [x, y], rfl, upd_same, ?_⟩
  simp only [RTs]
  exact ⟨x, [y], cz, cz, rfl, RT.mono dx (n.step _) rx, ⟨y, [], cz, cz, rfl, RT.mono dy (n.step _) ry, ⟨rfl, rfl⟩, rfl⟩, rfl⟩
theorem s_enum {elts : List Expr} {kk : Nat} {tpos : Pos} (hg : Gl X "enumerate") (hm : X.mg "enumerate" = none) (ha : PV X ct W T a c) (hs : starEach [a] X.env = [(false, eval a X.env)] := by rfl) :
    PIs X ct W T (.Tuple elts kk tpos) (.Call (.Name "enumerate" p) [a] [] pos) .enum [c] :=
  PI.weak (pi_enum hg hm (pa_cons (pf_of ha) pa_nil hs) hs) fun σ H R z => by
    obtain ⟨E, s, ce, eK, ec, rfl, w, z⟩ := z
    refine tFs_mono (src_ok eK ec w z) fun vs H1 ⟨E1, ds, items, k1, eH, sm, rt, hs, kk⟩ => ?_
    subst eH
    unfold srcD at hs
    split at hs <;> try contradiction
    cases hs
    rename_i ds _
    obtain ⟨v, _, c1, c2, rfl, r, ⟨rfl, rfl⟩, _⟩ := rt
    simp only [RT] at r
    obtain ⟨_, a, vs, rfl, q, rt⟩ := r
    refine ⟨a, vs, rfl, .inl (.inl (sm _ _ q)), kk _ ⟨fun H => SqL X.K H a vs, _, by have := walk_enum (K := X.K) (a := a) (xs := vs); rw [← rt.length] at this; simpa using this, fun E2 st sm2 => ⟨.inl (.inl (sm2 _ _ (st.f _ _ q))), ?_⟩⟩⟩
    rintro i x H' d e ⟨t, x1, x2, rfl, ht, rfl, e1, e2⟩
    cases e1
    rw [List.getElem?_zipWith] at e
    cases q1 : (List.range ds.length)[i]? with
    | none => rw [q1] at e; cases e
    | some j =>
      cases q2 : ds[i]? with
      | none => rw [q1, q2] at e; cases e
      | some d2 =>
        rw [q1, q2] at e
        obtain ⟨hj, rfl⟩ := List.getElem?_eq_some_iff.mp q1
        cases e
        rw [List.getElem_range]
        exact pair_new sm2 ht rt_int (rts_z (RTs.mono _ st rt) e2 q2)
theorem s_zip {elts : List Expr} {kk : Nat} {tpos : Pos} (hg : Gl X "zip") (hm : X.mg "zip" = none) (ha : PV X ct W T a ca) (hb : PV X ct W T b cb)
    (hs : starEach [a, b] X.env = (false, eval a X.env) :: starEach [b] X.env := by rfl) (hpl : (backTo pos (starEach [b] X.env)).any (·.1) = false := by rfl) (hs1 : starEach [b] X.env = (false, eval b X.env) :: starEach [] X.env := by rfl) :
    PIs X ct W T (.Tuple elts kk tpos) (.Call (.Name "zip" p) [a, b] [] pos) .zip [ca, cb] :=
  PI.weak (pi_zip hg hm (pa_cons (pf_of ha) (pa_cons (pf_of hb) pa_nil hs1) hs) hs hpl) fun σ H R z => by
    obtain ⟨E, s, ce, eK, ec, rfl, w, z⟩ := z
    refine tFs_mono (src_ok eK ec w z) fun vs H1 ⟨E1, ds, items, k1, eH, sm, rt, hs, kk⟩ => ?_
    subst eH
    unfold srcD at hs
    split at hs <;> try contradiction
    cases hs
    rename_i xs ys _
    obtain ⟨v, _, c1, c2, rfl, r, ⟨v', _, c3, c4, rfl, r', ⟨rfl, rfl⟩, _⟩, _⟩ := rt
    simp only [RT] at r r'
    obtain ⟨_, a, vs, rfl, q, rt⟩ := r
    obtain ⟨_, a', ws, rfl, q', rt'⟩ := r'
    refine ⟨a, a', vs, ws, rfl, .inl (.inl (sm _ _ q)), .inl (.inl (sm _ _ q')), kk _ ⟨fun H => SqL X.K H a vs ∧ SqL X.K H a' ws, _, walk_zip (by rw [List.length_zipWith, rt.length, rt'.length]), fun E2 st sm2 => ⟨⟨.inl (.inl (sm2 _ _ (st.f _ _ q))), .inl (.inl (sm2 _ _ (st.f _ _ q')))⟩, ?_⟩⟩⟩
    rintro i x H' d e ⟨t, x1, x2, rfl, ht, rfl, e1, e2⟩
    rw [List.getElem?_zipWith] at e
    cases q1 : xs[i]? with
    | none => rw [q1] at e; cases e
    | some j =>
      cases q2 : ys[i]? with
      | none => rw [q1, q2] at e; cases e
      | some d2 =>
        rw [q1, q2] at e
        cases e
        exact pair_new sm2 ht (rts_z (RTs.mono _ st rt) e1 q1) (rts_z (RTs.mono _ st rt') e2 q2)
end
end VI

/-! List comprehensions. -/
namespace VI
open PySem L2 PyProof.Rows

abbrev WF : WX := fun _ _ _ _ => False
abbrev RB : Hw → Bool → Bool → Cn → Prop := fun _ b b' c => c = cz ∧ b = b'
def tCs (X : Cx) (ct : Str → Addr) (W : WX) (T : Tab) (cs : List Ex) : TT := fun σ H Q => Run X.K ct W RB (evc T cs) σ H Q
def PCs (X : Cx) (ct : Str → Addr) (W : WX) (T : Tab) (ifs : List Expr) (cs : List Ex) : Prop := PTs X ifs (tCs X ct W T cs)
theorem PTs.weak {X : Cx} {e : List Expr} {t t' : TT} (h : PTs X e t) (w : ∀ σ H Q, t' σ H Q → t σ H Q) : PTs X e t' := ⟨fun pins s σ H Q I q => h.run pins s σ H Q I (w σ H Q q)⟩
theorem pcs_nil {X : Cx} {ct : Str → Addr} {W : WX} {T : Tab} : PCs X ct W T [] [] := PTs.weak pts_nil fun σ H Q z => by
  obtain ⟨E, s, ce, eK, ec, rfl, w, z⟩ := z
  simp only [evc] at z
  exact z.ret (c := cz) (Step.refl _ _) ⟨rfl, rfl⟩ w
theorem pcs_one {X : Cx} {ct : Str → Addr} {W : WX} {T : Tab} {e : Expr} {c : Ex} (h : PTc X ct W T e c) : PCs X ct W T [e] [c] := PTs.weak (pts_one h) fun σ H Q z => by
  obtain ⟨E, s, ce, eK, ec, rfl, w, z⟩ := z
  simp only [evc] at z
  refine ⟨E, s, ce, eK, ec, rfl, w, z.bnd fun d v E1 s1 c st r w1 z1 => ?_⟩
  cases d <;> first | exact (show False from z1).elim | skip
  rename_i k
  obtain ⟨rfl, rfl⟩ := RTbl rfl r
  refine ⟨k, rfl, ?_⟩
  cases k with
  | true => exact z1.ret (c := cz) (Step.refl _ _) ⟨rfl, rfl⟩ w1
  | false => exact z1.ret (c := cz) (Step.refl _ _) ⟨rfl, rfl⟩ w1
section
variable {E : Hw} {σ : L2.St} {s : VS} {ce : Cn}
/-- a thing that is held elsewhere is written -/
theorem Wd.wrE {D : Addr} {o : HO} (w : Wd E σ s ce) (h : ce D ≠ 0) : Wd { E with H := upd E.H D o } σ s ce ∧ ∀ c : Cn, c D = 0 → Step E c { E with H := upd E.H D o } := by
  obtain ⟨c1, c2, re, rm, t, f⟩ := w.own
  have hs : ∀ c : Cn, c D = 0 → Step E c { E with H := upd E.H D o } := fun c hc => ⟨rfl, rfl, fun _ _ h => h, ⟨[], by simp⟩, fun b o' z y => by
    show upd E.H D o b = some o'
    rw [upd_ne (fun e => z (by rw [e]; exact hc))]
    exact y⟩
  have tD := t D
  have fD := f D (by omega)
  refine ⟨⟨fun p u q => ?_, ⟨c1, c2, RE.mono (hs c1 (by omega)) re, RM.mono (hs c2 (by omega)) rm, t, f⟩, fun p z => ?_⟩, hs⟩
  · show upd E.H D o p = some u
    rw [upd_ne (fun e => by rw [e] at q; rw [fD] at q; cases q)]
    exact w.same p u q
  · show upd E.H D o p ≠ none
    by_cases e : p = D
    · rw [e, upd_same]; exact fun z => nomatch z
    · rw [upd_ne e]; exact w.ex p z
theorem Wd.held {c : Cn} (w : Wd E σ s (cadd ce c)) : ∀ p, ce p + c p ≤ 1 := fun p => by
  obtain ⟨c1, c2, re, rm, t, f⟩ := w.own
  have := t p
  simp only [cadd] at this
  omega
end
theorem one_self (D : Addr) : one D D = 1 := by simp [one]
/-- one turn of the loop, by its outcome -/
theorem loopC_cons {f : D → M (Option D)} {d : D} {rest acc : List D} {s sf : VS} {ds : List D} (h : loopC f (d :: rest) acc s = some (.ok ds sf)) :
    ∃ r s1, f d s = some (.ok r s1) ∧ match r with
      | some y => acc.length < lim ∧ loopC f rest (acc ++ [y]) s1 = some (.ok ds sf)
      | none => loopC f rest acc s1 = some (.ok ds sf) := by
  unfold loopC M.bnd at h
  cases q : f d s with
  | none => rw [q] at h; cases h
  | some r =>
    rw [q] at h
    cases r with
    | ex x s1 => cases h
    | ok r s1 =>
      refine ⟨r, s1, rfl, ?_⟩
      cases r with
      | none => exact h
      | some y =>
        simp only at h ⊢
        split at h
        · exact ⟨by assumption, h⟩
        · cases h
theorem lcBody_ok {tg : List Nat} {mc : M Bool} {me : M D} {d : D} {s s1 : VS} {r : Option D} (h : lcBody tg mc me d s = some (.ok r s1)) :
    ∃ ρ b s2, bindT tg d (wipeR s.ρ tg) = some ρ ∧ mc ⟨ρ, s.μ⟩ = some (.ok b s2) ∧ ((b = false ∧ r = none ∧ s1 = s2) ∨ (b = true ∧ ∃ y, me s2 = some (.ok y s1) ∧ r = some (frz y))) := by
  unfold lcBody at h
  cases q : bindT tg d (wipeR s.ρ tg) with
  | none => rw [q] at h; cases h
  | some ρ =>
    rw [q] at h
    simp only [M.bnd] at h
    cases q1 : mc ⟨ρ, s.μ⟩ with
    | none => rw [q1] at h; cases h
    | some r1 =>
      rw [q1] at h
      cases r1 with
      | ex x s2 => cases h
      | ok b s2 =>
        refine ⟨ρ, b, s2, rfl, q1, ?_⟩
        cases b with
        | false => cases h; exact .inl ⟨rfl, rfl, rfl⟩
        | true =>
          simp only [if_true, M.bnd] at h
          cases q2 : me s2 with
          | none => rw [q2] at h; cases h
          | some r2 =>
            rw [q2] at h
            cases r2 with
            | ex x s3 => cases h
            | ok y s3 => cases h; exact .inr ⟨rfl, y, rfl, rfl⟩
section
variable {X : Cx} {ct : Str → Addr} {W : WX} {T : Tab} {elt tg iter : Expr} {ifs : List Expr} {scope : Scope} {own : List (Str × Nat)} {pos : Pos} {sk : Sk} {src cs : List Ex} {c : Ex} {is : List Nat} {g : TG}
theorem rt_lst {E : Hw} {a : Addr} {vs : List V} {ds : List D} (h : E.H a = some (.lst vs)) (r : RTs E ds vs cz) : RT E (.lst true ds) (.ref a) (one a) := by
  simp only [RT]
  exact ⟨a, vs, cz, rfl, h, r, rfl⟩
/-- [elt for tg in iter if ..], from the source on -/
theorem lc_run (gb : GB X.K g is) {σ : L2.St} {H : Hp} {Q : VK} (z : tV X ct W T (.lc is sk src cs c) σ H Q) :
    tLc (tSrc X ct W T sk src) g (tCs X ct WF T cs) (tV X ct WF T c) is σ H Q := by
  obtain ⟨E, s, ce, eK, ec, rfl, w, z⟩ := z
  have z : RA W RT' ((srcM T sk src).bnd fun items => lcM is (evc T cs) (ev T c) items) σ E s ce Q := RA.eq (by simp only [ev]; rfl) z
  refine ⟨E, s, ce, eK, ec, rfl, w, z.bnd fun items J E1 s1 c1 st r w1 z1 => ?_⟩
  obtain ⟨rfl, G, Y, wk, sv⟩ := r
  intro Dn hD
  -- the outcome of the whole
  cases q : loopC (lcBody is (evc T cs) (ev T c)) items [] ⟨wipeR s1.ρ is, s1.μ⟩ with
  | none => rw [RA.non (by simp only [lcM, q, lcEnd])] at z1; exact z1.elim
  | some r =>
    cases r with
    | ex x s' => rw [RA.non (by simp only [lcM, q, lcEnd])] at z1; exact z1.elim
    | ok ds sf =>
      rw [RA.ok (a := .lst true ds) (s' := ⟨wipeR sf.ρ is, sf.μ⟩) (by simp only [lcM, q, lcEnd])] at z1
      refine lc_it wk (Pv := fun i H => ∃ (E' : Hw) (s' : VS) (acc : List D) (vs : List V), E'.H = H ∧ Step E1 ce E' ∧ Wd E' (L2.wipe σ is) ⟨wipeR s'.ρ is, s'.μ⟩ (cadd ce (one Dn)) ∧ H Dn = some (.lst vs) ∧ RTs E' acc vs cz ∧
        loopC (lcBody is (evc T cs) (ev T c)) (items.drop i) acc s' = some (.ok ds sf)) ?_ (fun i H hi ⟨E', s', acc, vs, eH, st', w', _⟩ => ?_) (fun i x H H' hi ⟨E', s', acc, vs, eH, st', w', hv, ra, ql⟩ y => ?_) (fun H ⟨E', s', acc, vs, eH, st', w', hv, ra, ql⟩ => ?_)
      · -- at first
        have n : New E1 (E1.lay Dn (.lst [])) := lay_new w1.same hD
        have w2 : Wd (E1.lay Dn (.lst [])) σ s1 (cadd (cadd ce cz) (one Dn)) := w1.new n (fun p => by simp only [one]; split <;> omega) fun p h => by
          have e : p = Dn := by
            by_cases z : p = Dn
            · exact z
            · simp [one, z] at h
          subst e
          refine ⟨hD, ?_, by show upd E1.H p _ p ≠ none; rw [upd_same]; exact fun z => nomatch z⟩
          show E1.F p = none
          cases r : E1.F p with
          | none => rfl
          | some o => rw [w1.same p o r] at hD; cases hD
        refine ⟨E1.lay Dn (.lst []), ⟨wipeR s1.ρ is, s1.μ⟩, [], [], rfl, n.step _, ?_, upd_same, ⟨rfl, rfl⟩, q⟩
        have := w2.wipe is
        rw [wipeR_wipeR]
        exact this
      · subst eH
        exact (sv E' (st'.less fun p h => absurd rfl h) w'.same).1
      · subst eH
        have hd : items[i]? = some items[i] := by simp [hi]
        obtain ⟨E2, n2, eH2, rx⟩ := (sv E' (st'.less fun p h => absurd rfl h) w'.same).2 i x H' items[i] hd y
        subst eH2
        rw [List.drop_eq_getElem_cons hi] at ql
        obtain ⟨r, s3, hb, hr⟩ := loopC_cons ql
        obtain ⟨ρ, b, s2, hbt, hcs, hcase⟩ := lcBody_ok hb
        have w2 : Wd E2 (L2.wipe σ is) ⟨wipeR s'.ρ is, s'.μ⟩ (cadd ce (one Dn)) := w'.new (c := cz) n2 (fun _ => Nat.zero_le _) fun p h => absurd rfl h
        have eK2 : E2.K = X.K := n2.k.trans (st'.k.trans (st.k.trans eK))
        have ec2 : E2.ct = ct := n2.ct.trans (st'.ct.trans (st.ct.trans ec))
        have hv2 : E2.H Dn = some (.lst vs) := n2.h _ _ hv
        have ra2 : RTs E2 acc vs cz := RTs.mono acc (n2.step _) ra
        refine gb E2 _ ⟨wipeR s'.ρ is, s'.μ⟩ (cadd ce (one Dn)) cz items[i] x ρ _ eK2 w2 rx hbt fun σ' hw w3 => ⟨by rw [hw, wipe_wipe], ?_⟩
        rw [wipe_wipe] at hw
        refine ⟨E2, ⟨ρ, s'.μ⟩, cadd ce (one Dn), eK2, ec2, rfl, w3, ?_⟩
        rw [RA.ok (a := b) (s' := s2) hcs]
        rintro b' E3 c3 st3 ⟨rfl, rfl⟩ w4
        have w4 : Wd E3 σ' s2 (cadd ce (one Dn)) := w4
        have hD1 : cadd ce (one Dn) Dn ≠ 0 := by simp [cadd, one]
        have hv3 : E3.H Dn = some (.lst vs) := st3.h _ _ hD1 hv2
        have ra3 : RTs E3 acc vs cz := RTs.mono acc (st3.less fun p h => absurd rfl h) ra2
        have up : ∀ {Ex : Hw}, Step E3 (cadd ce (one Dn)) Ex → Step E1 ce Ex := fun sx =>
          st'.trans ((n2.step ce).trans ((st3.trans sx).less fun p h => by simp only [cadd]; omega))
        rcases hcase with ⟨rfl, rfl, rfl⟩ | ⟨rfl, y', he, rfl⟩
        · rw [if_neg (by decide)]
          refine ⟨E3, s3, acc, vs, rfl, up (Step.refl _ _), ?_, hv3, ra3, hr⟩
          have := w4.wipe is
          rw [hw] at this
          exact this
        · rw [if_pos rfl]
          refine ⟨E3, s2, cadd ce (one Dn), st3.k.trans eK2, st3.ct.trans ec2, rfl, w4, ?_⟩
          rw [RA.ok (a := y') (s' := s3) he]
          intro v E4 c4 st4 r4 w5
          obtain ⟨E5, st5, eH5, r5, w6⟩ := w5.freeze r4
          have st35 := st4.trans st5
          have hv5 : E5.H Dn = some (.lst vs) := st35.h _ _ hD1 hv3
          have ra5 : RTs E5 acc vs cz := RTs.mono acc (st35.less fun p h => absurd rfl h) ra3
          obtain ⟨w7, hs7⟩ := w6.wrE (o := .lst (vs ++ [v])) hD1
          refine ⟨vs, by rw [← eH5]; exact hv5, by rw [← ra5.length]; exact Nat.lt_of_lt_of_le hr.1 (by decide), ?_⟩
          have hcD : ce Dn = 0 := by
            have := w6.held Dn
            rw [one_self] at this
            omega
          refine ⟨{ E5 with H := upd E5.H Dn (.lst (vs ++ [v])) }, s3, acc ++ [frz y'], vs ++ [v], by rw [← eH5], (up st35).trans (hs7 ce hcD), ?_, upd_same, rts_snoc (RTs.mono acc (hs7 cz rfl) ra5) (RT.mono _ (hs7 cz rfl) r5), hr.2⟩
          have := w7.wipe is
          rw [hw] at this
          exact this
      · subst eH
        rw [List.drop_length, loopC] at ql
        cases ql
        exact z1 (.ref Dn) E' (one Dn) st' (rt_lst hv ra) w'.unwipe
theorem g_lc (G : XG X) (hi : PIs X ct W T tg iter sk src) (gb : GB X.K g is) (hown : own.map (·.2) = is) (ok : BlkOk X.N X.env.scope scope own)
    (hg : ∀ (s : Shared) (H : Hp) (C : Addr) (cl : List (Str × Addr)) (fp : List Addr), PG (X.blk s H scope (compEnvC scope cl C X.env) fp) tg g)
    (hc : ∀ (s : Shared) (H : Hp) (C : Addr) (cl : List (Str × Addr)) (fp : List Addr), PCs (X.blk s H scope (compEnvC scope cl C X.env) fp) ct WF T ifs cs)
    (he : ∀ (s : Shared) (H : Hp) (C : Addr) (cl : List (Str × Addr)) (fp : List Addr), PV (X.blk s H scope (compEnvC scope cl C X.env) fp) ct WF T elt c)
    (hs : ∀ x, foldedSetIterable iter X.env x = pure x := by intro _; rfl) :
    PV X ct W T (.ListComp elt [⟨tg, iter, ifs, 0⟩] scope pos) (.lc is sk src cs c) := by
  subst hown
  exact PE.weak (pe_lc (tt := tCs X ct WF T cs) (te := tV X ct WF T c) G.calm G.nd hi ok hg hc he hs) fun σ H Q z => lc_run gb z
end
end VI

/-! Statements: the code, its runs, the rules. -/
namespace VI
open PySem L2 PyProof.Rows

inductive Fl where
  | nx | bk | ct | rt (d : D)
inductive Sm where
  | asg (tg : List Nat) (e : Ex)
  | par2 (i j : Nat) (a b : Ex)
  | ex (e : Ex)
  | setS (m : Mp) (i : Nat) (k e : Ex)
  | setF (C : Str) (i : Nat) (f : Str) (e : Ex)
  | ite (c : Ex) (a b : List Sm)
  | whl (c : Ex) (b : List Sm)
  | for (tg : List Nat) (sk : Sk) (src : List Ex) (b : List Sm)
  | ret (e : Ex) | retN | pass | brk | cnt | never
/-- a slot that may not be written -/
def free (Pn tg : List Nat) : Bool := tg.all fun i => decide (i ∉ Pn)
def seqF (m2 : M Fl) : Fl → M Fl
  | .nx => m2
  | f => M.ret f
def loopF (m2 : M Fl) : Fl → M Fl
  | .nx => m2
  | .ct => m2
  | .bk => M.ret .nx
  | .rt d => M.ret (.rt d)
def tst (f : Bool → M Fl) : D → M Fl
  | .bl b => f b
  | _ => M.fail
def whileM (c : M D) (b : M Fl) : Nat → M Fl
  | 0 => M.fail
  | n + 1 => c.bnd (tst fun k => if k then b.bnd (loopF (whileM c b n)) else M.ret .nx)
def bndT (Pn tg : List Nat) (d : D) (m : M Fl) : M Fl := fun s => if free Pn tg then match bindT tg d s.ρ with
  | some ρ => m ⟨ρ, s.μ⟩
  | none => none
  else none
def forM (Pn tg : List Nat) (b : M Fl) : List D → M Fl
  | [] => M.ret .nx
  | d :: ds => bndT Pn tg d (b.bnd (loopF (forM Pn tg b ds)))
def setFM (C : Str) (i : Nat) (f : Str) (d : D) : M Fl := fun s => match s.ρ[i]? with
  | some (some (.ref k)) => match s.μ[k]? with
    | some r => if r.cls = C ∧ r.fn.length < 900 then some (.ok .nx ⟨s.ρ, s.μ.set k (fput r f d)⟩) else none
    | none => none
  | _ => none
mutual
def exec (T : Tab) (Pn : List Nat) : Sm → M Fl
  | .asg tg e => (ev T e).bnd fun d => bndT Pn tg d (M.ret .nx)
  | .par2 i j a b => (evs T [a, b]).bnd fun ds => match ds with
    | [x, y] => bndT Pn [i] x (bndT Pn [j] y (M.ret .nx))
    | _ => M.fail
  | .ex e => (ev T e).bnd fun _ => M.ret .nx
  | .setS m i k e => (ev T (.mt m (.var i) [e, k])).bnd fun _ => M.ret .nx
  | .setF C i f e => (ev T e).bnd fun d => setFM C i f (frz d)
  | .ite c a b => (ev T c).bnd (tst fun k => if k then execs T Pn a else execs T Pn b)
  | .whl c b => whileM (ev T c) (execs T Pn b) T.fuel
  | .for tg sk src b => (srcM T sk src).bnd (forM Pn tg (execs T Pn b))
  | .ret e => (ev T e).bnd fun d => M.ret (.rt d)
  | .retN => M.ret (.rt .non)
  | .pass => M.ret .nx
  | .brk => M.ret .bk
  | .cnt => M.ret .ct
  | .never => M.fail
def execs (T : Tab) (Pn : List Nat) : List Sm → M Fl
  | [] => M.ret .nx
  | c :: cs => (exec T Pn c).bnd (seqF (execs T Pn cs))
end

/-- what must stay as it stands -/
def Pin (Pn : List Nat) (σ σ' : L2.St) : Prop := ∀ i ∈ Pn, σ'[i]? = σ[i]?
theorem Pin.refl {Pn : List Nat} {σ : L2.St} : Pin Pn σ σ := fun _ _ => rfl
theorem Pin.trans {Pn : List Nat} {σ σ1 σ2 : L2.St} (a : Pin Pn σ σ1) (b : Pin Pn σ1 σ2) : Pin Pn σ σ2 := fun i h => (b i h).trans (a i h)
theorem Pin.wipe {Pn is : List Nat} {σ σ' : L2.St} (h : L2.wipe σ' is = L2.wipe σ is) (f : free Pn is = true) : Pin Pn σ σ' := fun i hi => by
  have n : i ∉ is := fun z => by
    have := List.all_eq_true.mp f i z
    simp at this
    exact this hi
  have := congrArg (fun l => l[i]?) h
  simp only [wipe_get, if_neg n] at this
  exact this
/-- what an end asks -/
def FQ (Q : Ends) (σ' : L2.St) (E' : Hw) (s' : VS) (ce : Cn) : Fl → Prop
  | .nx => Wd E' σ' s' ce → Q.nx σ' E'.H
  | .bk => Wd E' σ' s' ce → Q.bk σ' E'.H
  | .ct => Wd E' σ' s' ce → Q.ct σ' E'.H
  | .rt d => ∀ (v : V) (c : Cn), RT E' d v c → Wd E' σ' s' (cadd ce c) → Q.rt v E'.H
/-- a statement's run -/
def RS (W : WX) (Pn : List Nat) (m : M Fl) (σ : L2.St) (E : Hw) (s : VS) (ce : Cn) (Q : Ends) : Prop := match m s with
  | some (.ok f s') => ∀ (σ' : L2.St) (E' : Hw), Pin Pn σ σ' → Step E ce E' → FQ Q σ' E' s' ce f
  | some (.ex x s') => ∀ (cls : Value) (d : Option Addr) (σ' : L2.St) (E' : Hw), Pin Pn σ σ' → Step E ce E' → ExR E' x cls d → Wd E' σ' s' ce → W cls d σ' E'.H
  | none => False
section
variable {X : Cx} {ct : Str → Addr} {W : WX} {T : Tab} {Pn : List Nat} {α β : Type} {Rel : Hw → α → β → Cn → Prop} {m : M α} {f : α → M Fl} {mb mk : M Fl} {σ σ' : L2.St} {E E' : Hw} {s s' : VS} {ce : Cn} {Q : Ends} {R : β → Hp → Prop}
theorem RS.non (e : mb s = none) : RS W Pn mb σ E s ce Q = False := by
  unfold RS
  rw [e]
theorem RS.ok {fl : Fl} (e : mb s = some (.ok fl s')) : RS W Pn mb σ E s ce Q = ∀ (σ' : L2.St) (E' : Hw), Pin Pn σ σ' → Step E ce E' → FQ Q σ' E' s' ce fl := by
  unfold RS
  rw [e]
theorem RS.exc {x : EXC} (e : mb s = some (.ex x s')) : RS W Pn mb σ E s ce Q = ∀ (cls : Value) (d : Option Addr) (σ' : L2.St) (E' : Hw), Pin Pn σ σ' → Step E ce E' → ExR E' x cls d → Wd E' σ' s' ce → W cls d σ' E'.H := by
  unfold RS
  rw [e]
theorem RS.eq (e : mb s = mk s') (h : RS W Pn mb σ E s ce Q) : RS W Pn mk σ E s' ce Q := by
  unfold RS at h ⊢
  rw [← e]
  exact h
/-- later -/
theorem RS.up (h : RS W Pn mb σ E s ce Q) (p : Pin Pn σ σ') (st : Step E ce E') : RS W Pn mb σ' E' s ce Q := by
  cases q : mb s with
  | none => rw [RS.non q] at h; exact h.elim
  | some r =>
    cases r with
    | ex x s2 =>
      rw [RS.exc q] at h ⊢
      exact fun cls d σ2 E2 p2 st2 => h cls d σ2 E2 (p.trans p2) (st.trans st2)
    | ok fl s2 =>
      rw [RS.ok q] at h ⊢
      exact fun σ2 E2 p2 st2 => h σ2 E2 (p.trans p2) (st.trans st2)
/-- an expression first -/
theorem RS.bnd (h : RS W Pn (m.bnd f) σ E s ce Q) (k : ∀ (a : α) (b : β) (E1 : Hw) (s1 : VS) (c : Cn), Step E ce E1 → Rel E1 a b c → Wd E1 σ s1 (cadd ce c) → RS W Pn (f a) σ E1 s1 ce Q → R b E1.H) : RA W Rel m σ E s ce R := by
  cases q : m s with
  | none => rw [RS.non (show M.bnd m f s = none by unfold M.bnd; rw [q])] at h; exact h.elim
  | some r =>
    cases r with
    | ex x s2 =>
      rw [RS.exc (show M.bnd m f s = some (.ex x s2) by unfold M.bnd; rw [q])] at h
      rw [RA.exc q]
      exact fun cls d E2 st r w => h cls d σ E2 Pin.refl st r w
    | ok a s2 =>
      rw [RA.ok q]
      intro b E2 c st r w
      refine k a b E2 s2 c st r w ?_
      exact (RS.eq (mk := f a) (s' := s2) (show M.bnd m f s = f a s2 by unfold M.bnd; rw [q]) h).up Pin.refl st
theorem RS.ret_nx (h : RS W Pn (M.ret .nx) σ E s ce Q) (w : Wd E σ s ce) : Q.nx σ E.H := by
  rw [RS.ok (show M.ret Fl.nx s = some (.ok .nx s) from rfl)] at h
  exact h σ E Pin.refl (Step.refl _ _) w
theorem RS.seq (h : RS W Pn (mb.bnd (seqF mk)) σ E s ce Q) {N : L2.St → Hp → Prop} (k : ∀ (σ' : L2.St) (E' : Hw) (s' : VS), Pin Pn σ σ' → Step E ce E' → Wd E' σ' s' ce → RS W Pn mk σ' E' s' ce Q → N σ' E'.H) :
    RS W Pn mb σ E s ce { Q with nx := N } := by
  cases q : mb s with
  | none => rw [RS.non (show M.bnd mb _ s = none by unfold M.bnd; rw [q])] at h; exact h.elim
  | some r =>
    cases r with
    | ex x s2 =>
      rw [RS.exc (show M.bnd mb _ s = some (.ex x s2) by unfold M.bnd; rw [q])] at h
      rw [RS.exc q]
      exact h
    | ok fl s2 =>
      have e : M.bnd mb (seqF mk) s = seqF mk fl s2 := by unfold M.bnd; rw [q]
      rw [RS.ok q]
      intro σ1 E1 p st
      have h := (RS.eq (mk := seqF mk fl) (s' := s2) e h).up p st
      cases fl with
      | nx => exact fun w => k σ1 E1 s2 p st w h
      | bk =>
        rw [RS.ok (show seqF mk Fl.bk s2 = some (.ok .bk s2) from rfl)] at h
        exact fun w => h σ1 E1 Pin.refl (Step.refl _ _) w
      | ct =>
        rw [RS.ok (show seqF mk Fl.ct s2 = some (.ok .ct s2) from rfl)] at h
        exact fun w => h σ1 E1 Pin.refl (Step.refl _ _) w
      | rt d =>
        rw [RS.ok (show seqF mk (Fl.rt d) s2 = some (.ok (.rt d) s2) from rfl)] at h
        exact fun v c r w => h σ1 E1 Pin.refl (Step.refl _ _) v c r w
theorem RS.loop (h : RS W Pn (mb.bnd (loopF mk)) σ E s ce Q) {N : L2.St → Hp → Prop} (k : ∀ (σ' : L2.St) (E' : Hw) (s' : VS), Pin Pn σ σ' → Step E ce E' → Wd E' σ' s' ce → RS W Pn mk σ' E' s' ce Q → N σ' E'.H) :
    RS W Pn mb σ E s ce { Q with nx := N, ct := N, bk := Q.nx } := by
  cases q : mb s with
  | none => rw [RS.non (show M.bnd mb _ s = none by unfold M.bnd; rw [q])] at h; exact h.elim
  | some r =>
    cases r with
    | ex x s2 =>
      rw [RS.exc (show M.bnd mb _ s = some (.ex x s2) by unfold M.bnd; rw [q])] at h
      rw [RS.exc q]
      exact h
    | ok fl s2 =>
      have e : M.bnd mb (loopF mk) s = loopF mk fl s2 := by unfold M.bnd; rw [q]
      rw [RS.ok q]
      intro σ1 E1 p st
      have h := (RS.eq (mk := loopF mk fl) (s' := s2) e h).up p st
      cases fl with
      | nx => exact fun w => k σ1 E1 s2 p st w h
      | ct => exact fun w => k σ1 E1 s2 p st w h
      | bk =>
        rw [RS.ok (show loopF mk Fl.bk s2 = some (.ok .nx s2) from rfl)] at h
        exact fun w => h σ1 E1 Pin.refl (Step.refl _ _) w
      | rt d =>
        rw [RS.ok (show loopF mk (Fl.rt d) s2 = some (.ok (.rt d) s2) from rfl)] at h
        exact fun v c r w => h σ1 E1 Pin.refl (Step.refl _ _) v c r w
theorem bndT_ok {d : D} {tg : List Nat} (h : RS W Pn (bndT Pn tg d mk) σ E s ce Q) : ∃ ρ, free Pn tg = true ∧ bindT tg d s.ρ = some ρ ∧ RS W Pn mk σ E ⟨ρ, s.μ⟩ ce Q := by
  by_cases hf : free Pn tg = true
  · cases q : bindT tg d s.ρ with
    | none => rw [RS.non (by unfold bndT; rw [if_pos hf, q])] at h; exact h.elim
    | some ρ => exact ⟨ρ, hf, rfl, RS.eq (by unfold bndT; rw [if_pos hf, q]) h⟩
  · rw [RS.non (by unfold bndT; rw [if_neg hf])] at h
    exact h.elim
end
section
variable (X : Cx) (ct : Str → Addr) (W : WX) (T : Tab) (Pn : List Nat)
def tS (m : M Fl) : TS := fun Q σ H => ∃ (E : Hw) (s : VS) (ce : Cn), E.K = X.K ∧ E.ct = ct ∧ E.H = H ∧ Wd E σ s ce ∧ RS W Pn m σ E s ce Q
def PSc (st : Stmt) (c : Sm) : Prop := PS X st (tS X ct W Pn (exec T Pn c))
def PSq (st : List Stmt) (c : List Sm) : Prop := PSs X st (tS X ct W Pn (execs T Pn c))
end
section
variable {X : Cx} {ct : Str → Addr} {W : WX} {T : Tab} {Pn : List Nat} {st : Stmt} {sts a b : List Stmt} {c : Sm} {cs ca cb : List Sm} {e e1 e2 : Expr} {x x1 x2 : Ex} {pos : Pos} {is : List Nat} {g : TG} {tg : Expr}
theorem r_nil : PSq X ct W T Pn [] [] := PSs.weak pss_nil fun Q σ H z => by
  obtain ⟨E, s, ce, eK, ec, rfl, w, z⟩ := z
  simp only [execs] at z
  exact z.ret_nx w
theorem r_cons (h : PSc X ct W T Pn st c) (hs : PSq X ct W T Pn sts cs) : PSq X ct W T Pn (st :: sts) (c :: cs) := PSs.weak (pss_cons h hs) fun Q σ H z => by
  obtain ⟨E, s, ce, eK, ec, rfl, w, z⟩ := z
  simp only [execs] at z
  exact ⟨E, s, ce, eK, ec, rfl, w, z.seq fun σ1 E1 s1 p st w1 z1 => ⟨E1, s1, ce, st.k.trans eK, st.ct.trans ec, rfl, w1, z1⟩⟩
theorem asg_run (gb : GB X.K g is) {σ : L2.St} {H : Hp} {Q : Ends} (z : tS X ct W Pn (exec T Pn (.asg is x)) Q σ H) : tAsg (tV X ct W T x) g Q σ H := by
  obtain ⟨E, s, ce, eK, ec, rfl, w, z⟩ := z
  simp only [exec] at z
  refine ⟨E, s, ce, eK, ec, rfl, w, z.bnd fun d v E1 s1 c st r w1 z1 => ?_⟩
  obtain ⟨ρ, hf, hb, z2⟩ := bndT_ok z1
  refine gb E1 σ s1 ce c d v ρ _ (st.k.trans eK) w1 r hb fun σ' hw w2 => ?_
  exact (z2.up (Pin.wipe hw hf) (Step.refl _ _)).ret_nx w2
/-- target = e -/
theorem r_asg (h : PV X ct W T e x) (hg : PG X tg g) (gb : GB X.K g is) (hs : swapsWithSole [tg] e pos.line X.env = pure false := by rfl) (hw : swappedStores [tg] e X.env = pure none := by rfl) (h1 : (assignEach [tg] X.env).map (·.2) = [assign tg X.env] := by rfl) :
    PSc X ct W T Pn (.Assign [tg] e pos) (.asg is x) := PS.weak (ps_asg h hg hs hw h1) fun Q σ H z => asg_run gb z
/-- name = e -/
theorem r_set {i : Nat} {y : Str} {p : Pos} (G : XG X) (hi : X.N[i]? = some y) (hx : Loc X.env.scope y) (h : PV X ct W T e x) (hs : swapsWith e (some (.Name y p)) pos.line X.env = pure false := by rfl) (hf : X.fn y = true := by rfl) :
    PSc X ct W T Pn (.Assign [.Name y p] e pos) (.asg [i] x) := PS.weak (ps_set G.nd hi hx h hs (.inl hf)) fun Q σ H z => asg_run gb1 z
/-- name = [..] -/
theorem r_setLc {i : Nat} {y : Str} {py spos : Pos} {elt tg iter : Expr} {ifs : List Expr} {scope : Scope} {own : List (Str × Nat)} {sk : Sk} {src cs : List Ex} {c : Ex} (G : XG X) (hy : X.N[i]? = some y) (hyl : X.env.scope.names.lookup y = some .local)
    (hsw : swapsWith (.ListComp elt [⟨tg, iter, ifs, 0⟩] scope pos) (some (.Name y py)) spos.line X.env = pure true) (hi : PIs X ct W T tg iter sk src) (gb : GB X.K g is) (hown : own.map (·.2) = is) (ok : BlkOk X.N X.env.scope scope own)
    (hg : ∀ (s : Shared) (H : Hp) (C : Addr) (cl : List (Str × Addr)) (fp : List Addr), PG (X.blk s H scope (compEnvC scope cl C X.env) fp) tg g)
    (hc : ∀ (s : Shared) (H : Hp) (C : Addr) (cl : List (Str × Addr)) (fp : List Addr), PCs (X.blk s H scope (compEnvC scope cl C X.env) fp) ct WF T ifs cs)
    (he : ∀ (s : Shared) (H : Hp) (C : Addr) (cl : List (Str × Addr)) (fp : List Addr), PV (X.blk s H scope (compEnvC scope cl C X.env) fp) ct WF T elt c)
    (hs : ∀ x, foldedSetIterable iter X.env x = pure x := by intro _; rfl) :
    PSc X ct W T Pn (.Assign [.Name y py] (.ListComp elt [⟨tg, iter, ifs, 0⟩] scope pos) spos) (.asg [i] (.lc is sk src cs c)) := by
  subst hown
  refine PS.weak (ps_setLc (tt := tCs X ct WF T cs) (te := tV X ct WF T c) G.calm G.nd hy hyl hsw hi ok hg hc he hs) fun Q σ H z => ?_
  exact lc_run gb (asg_run gb1 z)
theorem r_par2 {i j : Nat} {y z : Str} {py pz pt : Pos} {kt k2 pt2} (G : XG X) (hi : X.N[i]? = some y) (hj : X.N[j]? = some z) (hij : i ≠ j)
    (hx : X.env.scope.names.lookup y = some .local) (hy : X.env.scope.names.lookup z = some .local) (hs : PFs X ct W T [e1, e2] [x1, x2])
    (hw : swappedStores [.Tuple [.Name y py, .Name z pz] kt pt] (.Tuple [e1, e2] k2 pt2) X.env = pure (some [y, z]) := by rfl)
    (hsw : swapsWithSole [.Tuple [.Name y py, .Name z pz] kt pt] (.Tuple [e1, e2] k2 pt2) pos.line X.env = pure false := by rfl) :
    PSc X ct W T Pn (.Assign [.Tuple [.Name y py, .Name z pz] kt pt] (.Tuple [e1, e2] k2 pt2) pos) (.par2 i j x1 x2) := PS.weak (ps_par G.calm G.nd hi hj hij hx hy hs hw hsw) fun Q σ H z => by
  obtain ⟨E, s, ce, eK, ec, rfl, w, z⟩ := z
  simp only [exec] at z
  refine tFs_ok eK ec w (z.bnd fun ds vs E1 s1 c st r w1 z1 => ?_)
  obtain ⟨rfl, r⟩ := r
  split at z1
  · rename_i d1 d2
    simp only [RTs] at r
    obtain ⟨v1, _, c1, c2, rfl, r1, ⟨v2, _, c3, c4, rfl, r2, ⟨rfl, rfl⟩, h4⟩, h3⟩ := r
    obtain ⟨rfl, rfl⟩ := cadd_z h3
    obtain ⟨rfl, _⟩ := cadd_z h4
    refine ⟨v1, v2, rfl, ?_⟩
    obtain ⟨ρ1, f1, b1, z2⟩ := bndT_ok z1
    obtain ⟨ρ2, f2, b2, z3⟩ := bndT_ok z2
    cases b1
    cases b2
    have w2 : Wd E1 (σ.set i (some v1)) ⟨s1.ρ.set i (some d1), s1.μ⟩ ce := Wd.over (c := cz) i w1 r1
    have w3 : Wd E1 ((σ.set i (some v1)).set j (some v2)) ⟨(s1.ρ.set i (some d1)).set j (some d2), s1.μ⟩ ce := Wd.over (c := cz) (s := ⟨s1.ρ.set i (some d1), s1.μ⟩) j w2 r2
    refine (z3.up ?_ (Step.refl _ _)).ret_nx w3
    exact (Pin.wipe (σ' := σ.set i (some v1)) (is := [i]) (by simp [L2.wipe]) f1).trans (Pin.wipe (is := [j]) (by simp [L2.wipe]) f2)
  · exact (show False from z1).elim
/-- e, its value dropped -/
theorem r_ex (h : PV X ct W T e x) (hs : swapsWith e none pos.line X.env = pure false := by rfl) : PSc X ct W T Pn (.Expr e pos) (.ex x) := PS.weak (ps_expr h hs) fun Q σ H z => by
  obtain ⟨E, s, ce, eK, ec, rfl, w, z⟩ := z
  simp only [exec] at z
  exact ⟨E, s, ce, eK, ec, rfl, w, z.bnd fun d v E1 s1 c st r w1 z1 => z1.ret_nx (w1.less fun p => by simp only [cadd]; omega)⟩
theorem r_doc {d : Str} {j pos'} : PSc X ct W T Pn (.Expr (.Constant (.str d) j pos) pos') .pass := PS.weak ps_doc fun Q σ H z => by
  obtain ⟨E, s, ce, eK, ec, rfl, w, z⟩ := z
  simp only [exec] at z
  exact z.ret_nx w
theorem r_pass : PSc X ct W T Pn (.Pass pos) .pass := PS.weak ps_pass fun Q σ H z => by
  obtain ⟨E, s, ce, eK, ec, rfl, w, z⟩ := z
  simp only [exec] at z
  exact z.ret_nx w
theorem r_brk : PSc X ct W T Pn (.Break pos) .brk := PS.weak ps_break fun Q σ H z => by
  obtain ⟨E, s, ce, eK, ec, rfl, w, z⟩ := z
  simp only [exec] at z
  rw [RS.ok (show M.ret Fl.bk s = some (.ok .bk s) from rfl)] at z
  exact z σ E Pin.refl (Step.refl _ _) w
theorem r_cnt : PSc X ct W T Pn (.Continue pos) .cnt := PS.weak ps_continue fun Q σ H z => by
  obtain ⟨E, s, ce, eK, ec, rfl, w, z⟩ := z
  simp only [exec] at z
  rw [RS.ok (show M.ret Fl.ct s = some (.ok .ct s) from rfl)] at z
  exact z σ E Pin.refl (Step.refl _ _) w
theorem r_never : PSc X ct W T Pn st .never := PS.weak ps_never fun Q σ H z => by
  obtain ⟨E, s, ce, eK, ec, rfl, w, z⟩ := z
  simp only [exec] at z
  exact z
theorem r_ret (h : PV X ct W T e x) : PSc X ct W T Pn (.Return (some e) pos) (.ret x) := PS.weak (ps_ret h) fun Q σ H z => by
  obtain ⟨E, s, ce, eK, ec, rfl, w, z⟩ := z
  simp only [exec] at z
  refine ⟨E, s, ce, eK, ec, rfl, w, z.bnd fun d v E1 s1 c st r w1 z1 => ?_⟩
  rw [RS.ok (show M.ret (Fl.rt d) s1 = some (.ok (.rt d) s1) from rfl)] at z1
  exact z1 σ E1 Pin.refl (Step.refl _ _) v c r w1
theorem r_retN : PSc X ct W T Pn (.Return none pos) .retN := PS.weak ps_retN fun Q σ H z => by
  obtain ⟨E, s, ce, eK, ec, rfl, w, z⟩ := z
  simp only [exec] at z
  rw [RS.ok (show M.ret (Fl.rt .non) s = some (.ok (.rt .non) s) from rfl)] at z
  exact z σ E Pin.refl (Step.refl _ _) .non cz rt_non w
/-- a test, then m -/
theorem tst_run {σ : L2.St} {E : Hw} {s : VS} {ce : Cn} {Q : Ends} {f : Bool → M Fl} {R : Bool → Hp → Prop} (eK : E.K = X.K) (ec : E.ct = ct) (w : Wd E σ s ce) (z : RS W Pn ((ev T x).bnd (tst f)) σ E s ce Q)
    (k : ∀ (b : Bool) (E1 : Hw) (s1 : VS), Step E ce E1 → Wd E1 σ s1 ce → RS W Pn (f b) σ E1 s1 ce Q → R b E1.H) : tT X ct W T x σ E.H R := by
  refine ⟨E, s, ce, eK, ec, rfl, w, z.bnd fun d v E1 s1 c st r w1 z1 => ?_⟩
  cases d <;> first | exact (show False from z1).elim | skip
  rename_i b
  obtain ⟨rfl, rfl⟩ := RTbl rfl r
  exact ⟨b, rfl, k b E1 s1 st w1 z1⟩
theorem r_if (hc : PTc X ct W T e x) (ha : PSq X ct W T Pn a ca) (hb : PSq X ct W T Pn b cb) : PSc X ct W T Pn (.If e a b pos) (.ite x ca cb) := PS.weak (ps_if hc ha hb) fun Q σ H z => by
  obtain ⟨E, s, ce, eK, ec, rfl, w, z⟩ := z
  simp only [exec] at z
  refine tst_run eK ec w z fun k E1 s1 st w1 z1 => ?_
  cases k with
  | true => exact iteT ⟨E1, s1, ce, st.k.trans eK, st.ct.trans ec, rfl, w1, z1⟩
  | false => exact iteF ⟨E1, s1, ce, st.k.trans eK, st.ct.trans ec, rfl, w1, z1⟩
theorem r_while (hp : PassesOwn (model X.prog X.w) X.A X.env X.xe) (hc : PTc X ct W T e x) (ha : PSq X ct W T Pn a ca) : PSc X ct W T Pn (.While e a [] pos) (.whl x ca) := PS.weak (ps_while hp hc ha) fun Q σ H z => by
  refine ⟨fun n σ H => tS X ct W Pn (whileM (ev T x) (execs T Pn ca) n) Q σ H, ⟨T.fuel, by simpa only [exec] using z⟩, fun m σ H z => ?_⟩
  obtain ⟨E, s, ce, eK, ec, rfl, w, z⟩ := z
  cases m with
  | zero => exact (show False from z).elim
  | succ m =>
    simp only [whileM] at z
    refine tst_run eK ec w z fun k E1 s1 st w1 z1 => ?_
    cases k with
    | true =>
      refine iteT ⟨fun σ' H' => tS X ct W Pn (whileM (ev T x) (execs T Pn ca) m) Q σ' H', fun σ' H' n => ⟨m, Nat.lt_succ_self _, n⟩, ?_⟩
      rw [if_pos rfl] at z1
      exact ⟨E1, s1, ce, st.k.trans eK, st.ct.trans ec, rfl, w1, z1.loop fun σ2 E2 s2 p st2 w2 z2 => ⟨E2, s2, ce, st2.k.trans (st.k.trans eK), st2.ct.trans (st.ct.trans ec), rfl, w2, z2⟩⟩
    | false =>
      rw [if_neg (by decide)] at z1
      exact iteF (z1.ret_nx w1)
theorem r_for {sk : Sk} {src : List Ex} {iter : Expr} (G : XG X) (hp : PassesOwn (model X.prog X.w) X.A X.env X.xe) (hi : PIs X ct W T tg iter sk src) (hg : PG X tg g) (gb : GB X.K g is) (ha : PSq X ct W T Pn a ca)
    (hs : ∀ x, foldedSetIterable iter X.env x = pure x := by intro _; rfl) : PSc X ct W T Pn (.For tg iter a [] pos) (.for is sk src ca) := PS.weak (ps_for hp G.calm hi hg ha hs) fun Q σ H z => by
  obtain ⟨E, s, ce, eK, ec, rfl, w, z⟩ := z
  simp only [exec] at z
  refine ⟨E, s, ce, eK, ec, rfl, w, z.bnd fun items J E1 s1 c st r w1 z1 => ?_⟩
  obtain ⟨rfl, GG, Y, wk, sv⟩ := r
  refine for_it wk (fun i σ H => ∃ (E2 : Hw) (s2 : VS), E2.H = H ∧ Step E1 ce E2 ∧ Wd E2 σ s2 ce ∧ RS W Pn (forM Pn is (execs T Pn ca) (items.drop i)) σ E2 s2 ce Q) ⟨E1, s1, rfl, Step.refl _ _, w1, z1⟩
    (fun i σ H hi ⟨E2, s2, eH, st2, w2, _⟩ => ?_) (fun i x σ H H' hi ⟨E2, s2, eH, st2, w2, z2⟩ y => ?_) (fun σ H ⟨E2, s2, eH, st2, w2, z2⟩ => ?_)
  · subst eH
    exact (sv E2 (st2.less fun p h => absurd rfl h) w2.same).1
  · subst eH
    have hd : items[i]? = some items[i] := by simp [hi]
    obtain ⟨E3, n3, eH3, rx⟩ := (sv E2 (st2.less fun p h => absurd rfl h) w2.same).2 i x H' items[i] hd y
    subst eH3
    rw [List.drop_eq_getElem_cons hi, forM] at z2
    obtain ⟨ρ, hf, hb, z3⟩ := bndT_ok z2
    have w3 : Wd E3 σ s2 ce := w2.new (c := cz) n3 (fun _ => Nat.zero_le _) fun p h => absurd rfl h
    have st3 : Step E1 ce E3 := st2.trans (n3.step _)
    refine gb E3 σ s2 ce cz items[i] x ρ _ (st3.k.trans (st.k.trans eK)) w3 rx hb fun σ' hw w4 => ?_
    refine ⟨E3, ⟨ρ, s2.μ⟩, ce, st3.k.trans (st.k.trans eK), st3.ct.trans (st.ct.trans ec), rfl, w4, ?_⟩
    exact (z3.up (Pin.wipe hw hf) (n3.step _)).loop fun σ5 E5 s5 p5 st5 w5 z5 => ⟨E5, s5, rfl, st3.trans st5, w5, z5⟩
  · subst eH
    rw [List.drop_length, forM] at z2
    exact z2.ret_nx w2
end
end VI

/-! Stores into lists, dicts, attributes; a def as a whole. -/
namespace VI
open PySem L2 PyProof.Rows

section
variable {E : Hw} {σ : L2.St} {s : VS} {ce : Cn}
theorem RE.nones {E : Hw} : ∀ {ρ : List (Option D)} {σ : L2.St}, ρ.length = σ.length → (∀ (i : Nat) (d : D), ρ[i]? ≠ some (some d)) → RE E ρ σ cz
  | [], [], _, _ => by simp [RE]
  | [], _ :: _, l, _ => by simp at l
  | _ :: _, [], l, _ => by simp at l
  | none :: ρ, x :: σ, l, h => by
    simp only [RE]
    exact ⟨x, σ, rfl, RE.nones (by simpa using l) fun i d e => h (i + 1) d (by simpa using e)⟩
  | some d :: ρ, x :: σ, l, h => absurd rfl (h 0 d)
/-- fewer slots known -/
theorem RE.sub {E : Hw} : ∀ {ρ ρ' : List (Option D)} {σ σ' : L2.St} {c : Cn}, RE E ρ σ c → ρ'.length = σ'.length → (∀ (i : Nat) (d : D), ρ'[i]? = some (some d) → ρ[i]? = some (some d) ∧ σ'[i]? = σ[i]?) → ∃ c', (∀ p, c' p ≤ c p) ∧ RE E ρ' σ' c'
  | [], ρ', _, σ', c, _, l, h => ⟨cz, fun _ => Nat.zero_le _, RE.nones l fun i d e => by have := (h i d e).1; simp at this⟩
  | _ :: _, [], _, [], c, _, _, _ => ⟨cz, fun _ => Nat.zero_le _, by simp [RE]⟩
  | _ :: _, [], _, _ :: _, c, _, l, _ => by simp at l
  | _ :: _, _ :: _, _, [], c, _, l, _ => by simp at l
  | none :: ρ, o :: ρ', _, y :: σ', c, re, l, h => by
    simp only [RE] at re
    obtain ⟨x, σ, rfl, re⟩ := re
    obtain ⟨c', le, q⟩ := RE.sub (ρ' := ρ') (σ' := σ') re (by simpa using l) fun i d e => by simpa using h (i + 1) d (by simpa using e)
    cases o with
    | none => exact ⟨c', le, by simp only [RE]; exact ⟨y, σ', rfl, q⟩⟩
    | some d => have := (h 0 d rfl).1; simp at this
  | some d0 :: ρ, o :: ρ', _, y :: σ', c, re, l, h => by
    simp only [RE] at re
    obtain ⟨v, σ, c1, c2, rfl, r, re, rfl⟩ := re
    obtain ⟨c', le, q⟩ := RE.sub (ρ' := ρ') (σ' := σ') re (by simpa using l) fun i d e => by simpa using h (i + 1) d (by simpa using e)
    cases o with
    | none => exact ⟨c', fun p => by have := le p; simp only [cadd]; omega, by simp only [RE]; exact ⟨y, σ', rfl, q⟩⟩
    | some d =>
      obtain ⟨h1, h2⟩ := h 0 d rfl
      simp only [List.getElem?_cons_zero, Option.some.injEq] at h1 h2
      subst h1
      subst h2
      exact ⟨cadd c1 c', fun p => by have := le p; simp only [cadd]; omega, by simp only [RE]; exact ⟨v, σ', c1, c', rfl, r, q, rfl⟩⟩
theorem Wd.sub {ρ' : List (Option D)} {σ' : L2.St} (w : Wd E σ s ce) (l : ρ'.length = σ'.length) (h : ∀ (i : Nat) (d : D), ρ'[i]? = some (some d) → s.ρ[i]? = some (some d) ∧ σ'[i]? = σ[i]?) : Wd E σ' ⟨ρ', s.μ⟩ ce := by
  obtain ⟨c1, c2, re, rm, t, f⟩ := w.own
  obtain ⟨c', le, q⟩ := re.sub l h
  exact ⟨w.same, ⟨c', c2, q, rm, fun p => by have := t p; have := le p; omega, fun p z => f p (by have := le p; omega)⟩, w.ex⟩
end
/-! ### a def -/
/-- what the parameters' slots hold at the end, those alone that stayed -/
def outs (n : Nat) (Pn : List Nat) (ρ : List (Option D)) : List (Option D) := (List.range n).map fun i => if i ∈ Pn then (ρ[i]?).join else none
def runR (n : Nat) (Pn : List Nat) : Option (Res Fl) → Option CR
  | some (.ok .nx s) => some (.ok .non (outs n Pn s.ρ) s.μ)
  | some (.ok (.rt d) s) => some (.ok d (outs n Pn s.ρ) s.μ)
  | some (.ex x s) => some (.ex x (outs n Pn s.ρ) s.μ)
  | _ => none
def runF (T : Tab) (n nN : Nat) (Pn : List Nat) (body : List Sm) (ds : List D) (μ : List RO) : Option CR :=
  if ds.length = n then runR n Pn (execs T Pn body ⟨ds.map some ++ List.replicate (nN - n) none, μ⟩) else none
theorem runF_len {T : Tab} {n nN : Nat} {Pn : List Nat} {body : List Sm} : ∀ ds μ r, runF T n nN Pn body ds μ = some r → ds.length = n := fun ds μ r h => by
  unfold runF at h
  split at h
  · assumption
  · cases h
theorem outs_wd {E : Hw} {σ σ' : L2.St} {s : VS} {ce : Cn} {n : Nat} {Pn : List Nat} {vs : List V} {l : L2.St} (hl : vs.length = n) (hs : σ = vs.map some ++ l) (w : Wd E σ' s ce) (p : Pin Pn σ σ') : Wd E (vs.map some) ⟨outs n Pn s.ρ, s.μ⟩ ce := by
  refine w.sub (by simp [outs, hl]) fun i d e => ?_
  unfold outs at e
  rw [List.getElem?_map] at e
  by_cases hi : i < n
  · rw [show (List.range n)[i]? = some i by rw [List.getElem?_range hi]] at e
    simp only [Option.map_some, Option.some.injEq] at e
    split at e
    · rename_i hp
      refine ⟨?_, ?_⟩
      · cases q : s.ρ[i]? with
        | none => rw [q] at e; cases e
        | some o => rw [q] at e; simp only [Option.join_some] at e; rw [e]
      · rw [p i hp, hs, List.getElem?_append_left (by simpa [hl] using hi)]
    · cases e
  · rw [show (List.range n)[i]? = none by rw [List.getElem?_eq_none]; simpa using hi] at e
    cases e
section
variable {P : Program} {w : World} {K : PySem.W.Frag} {mg : Str → Option Value} {base : Heap} {ct : Str → Addr} {T : Tab}
/-- A DEF keeps its promise -/
theorem fn_okV {x qual : Str} {params : Arguments} {stmts : List Stmt} {scope : Scope} {f : Addr} {fd : FuncData} {N ps : List Str} {k n nN : Nat} {Pn : List Nat} {body : List Sm} (F : FunD K x qual params stmts scope [] [] f fd) (S : FnScope N ps scope) (hn : ps.length = n) (hN : N.length = nN)
    (hbody : ∀ (cdv : Value) (A : Around) (outer : List Env) (s : Shared) (H : Hp) (E : XK), Room k (A.deeper (envOfC qual scope s.heap.objs.size f cdv)) →
      PSq (cxOf (L2.CX P w) P w K mg base N qual scope f cdv A outer s H E) ct (fun cls d _ H => E cls d H) T Pn stmts body) :
    FnOk P w K mg base (L2.CX P w) (k + 1) f fd ps (spV K ct n (runF T n nN Pn body)) := by
  refine F.ok S (fun vs H Q E h => (spV_len vs H Q E h).trans hn.symm) fun cdv A outer s H vs Q E hr hsp => ⟨_, hbody cdv A outer s H E hr, ?_⟩
  obtain ⟨Ew, ds, μ, ce, eK, ec, eH, hl, wd, z⟩ := hsp
  have hds : ds.length = n := by
    obtain ⟨c1, c2, re, _⟩ := wd.own
    have := re.length
    simp only [List.length_map] at this
    omega
  have w0 : Wd Ew (L2.start N vs) ⟨ds.map some ++ List.replicate (nN - n) none, μ⟩ ce := by
    refine Wd.sub wd (by simp [L2.start, hds, hl, hN]) fun i d e => ?_
    by_cases hi : i < n
    · rw [List.getElem?_append_left (by simpa [hds] using hi)] at e
      exact ⟨e, by unfold L2.start; rw [List.getElem?_append_left (by simpa [hl] using hi)]⟩
    · rw [List.getElem?_append_right (by simpa [hds] using hi)] at e
      rw [List.getElem?_replicate] at e
      split at e <;> cases e
  refine ⟨Ew, _, ce, eK, ec, eH, w0, ?_⟩
  simp only [runF, hds, if_true] at z
  generalize hq : execs T Pn body ⟨ds.map some ++ List.replicate (nN - n) none, μ⟩ = q at z
  cases q with
  | none => exact z.elim
  | some r =>
    cases r with
    | ex x1 s1 =>
      rw [RS.exc hq]
      exact fun cls d σ' E' p st r w1 => z cls d E' st r (outs_wd hl rfl w1 p)
    | ok fl s1 =>
      rw [RS.ok hq]
      intro σ' E' p st
      cases fl with
      | nx => exact fun w1 => z .non E' cz st rt_non (outs_wd hl rfl w1 p)
      | rt d => exact fun v c r w1 => z v E' c st r (outs_wd hl rfl w1 p)
      | bk => exact z.elim
      | ct => exact z.elim
/-- a def that keeps its promise m and is called by place -/
def Dg (P : Program) (w : World) (K : PySem.W.Frag) (mg : Str → Option Value) (base : Heap) (ct : Str → Addr) (k : Nat) (fa : Addr) (n : Nat) (m : List D → List RO → Option CR) : Prop :=
  ∃ (fd : FuncData) (ps : List Str), FnOk P w K mg base (L2.CX P w) k fa fd ps (spV K ct n m) ∧ (∀ ds μ r, m ds μ = some r → ds.length = n) ∧ PySem.W.keepIn K (.ref fa) = true ∧ Binds K fd ps []
theorem dg_of {x qual : Str} {params : Arguments} {stmts : List Stmt} {scope : Scope} {f : Addr} {fd : FuncData} {N ps : List Str} {k n nN : Nat} {Pn : List Nat} {body : List Sm} (F : FunD K x qual params stmts scope [] [] f fd) (S : FnScope N ps scope) (hn : ps.length = n) (hN : N.length = nN)
    (hb : Binds K fd ps [])
    (hbody : ∀ (cdv : Value) (A : Around) (outer : List Env) (s : Shared) (H : Hp) (E : XK), Room k (A.deeper (envOfC qual scope s.heap.objs.size f cdv)) →
      PSq (cxOf (L2.CX P w) P w K mg base N qual scope f cdv A outer s H E) ct (fun cls d _ H => E cls d H) T Pn stmts body) :
    Dg P w K mg base ct (k + 1) f n (runF T n nN Pn body) := ⟨fd, ps, fn_okV F S hn hN hbody, fun ds μ r h => runF_len ds μ r h, F.kp, hb⟩
theorem df_of {X : Cx} {f : Nat} {fa : Addr} {n k j : Nat} {m : List D → List RO → Option CR} (h : Dg X.prog X.w X.K X.mg X.base ct k fa n m) (hm : T.call f = m) (hr : Room j X.A) (hk : k ≤ j) : Df X ct T f fa n := by
  obtain ⟨fd, ps, h1, h2, h3, h4⟩ := h
  subst hm
  exact ⟨k, fd, ps, h1, h2, hr.mono hk, h3, h4⟩
theorem dk_ofG {X : Cx} {C : Str} {f : Nat} {fa : Addr} {n k j : Nat} {m : List D → List RO → Option CR} (M : Mk X.K (ct C) fa) (h : Dg X.prog X.w X.K X.mg X.base ct k fa n m) (hm : T.call f = m) (hr : Room j X.A) (hk : k + 1 ≤ j) : Dk X ct T C f n := by
  obtain ⟨fd, ps, h1, h2, h3, h4⟩ := h
  subst hm
  exact ⟨fa, k, fd, ps, M, h1, h2, hr.mono hk, h4⟩
theorem dm_of {X : Cx} {C mn : Str} {f : Nat} {fa : Addr} {n : Nat} (c : Cls X.K (ct C)) (M : Meth X.K (ct C) mn fa) (h : Df X ct T f fa n) : Dm X ct T C mn f n := ⟨fa, c, M, h⟩
theorem xg_of {X : Cx} {j : Nat} (hc : X.calm = true) (hN : X.N.Nodup) (hr : Room j X.A) : XG X := ⟨hc, hN, by have := hr.un; omega⟩
/-- the law itself: nothing leaves it -/
def spL (K : PySem.W.Frag) (n : Nat) : Sp := fun vs H Q _ => ∃ (a : Addr) (ns : List Int), vs = [.ref a] ∧ ns.length ≤ n ∧ SqL K H a (ns.map V.int) ∧ ∀ H', Q (.bl true) H'
theorem law_okV {x qual : Str} {params : Arguments} {stmts : List Stmt} {scope : Scope} {f : Addr} {fd : FuncData} {N : List Str} {p : Str} {k nN nl : Nat} {body : List Sm} (F : FunD K x qual params stmts scope [] [] f fd) (S : FnScope N [p] scope) (hN : N.length = nN)
    (hbody : ∀ (cdv : Value) (A : Around) (outer : List Env) (s : Shared) (H : Hp) (E : XK), Room k (A.deeper (envOfC qual scope s.heap.objs.size f cdv)) →
      PSq (cxOf CX0 P w K mg base N qual scope f cdv A outer s H E) ct (fun _ _ _ _ => False) T [] stmts body)
    (plain : ∀ ns : List Int, ns.length ≤ nl → ∃ s, execs T [] body ⟨some (.scr ns) :: List.replicate (nN - 1) none, []⟩ = some (.ok (.rt (.bl true)) s)) :
    FnOk P w K mg base CX0 (k + 1) f fd [p] (spL K nl) := by
  refine F.ok S (fun vs H Q E h => ?_) fun cdv A outer s H vs Q E hr hsp => ⟨_, hbody cdv A outer s H E hr, ?_⟩
  · obtain ⟨a, ns, rfl, _⟩ := h
    rfl
  obtain ⟨a, ns, rfl, hl, hS, hQ⟩ := hsp
  obtain ⟨s1, e⟩ := plain ns hl
  refine ⟨⟨K, ct, H, H, []⟩, ⟨some (.scr ns) :: List.replicate (nN - 1) none, []⟩, cz, rfl, rfl, rfl, ⟨fun _ _ h => h, ⟨cz, cz, ?_, ⟨rfl, rfl⟩, fun _ => Nat.zero_le _, fun p h => absurd rfl h⟩, fun p h => absurd rfl h⟩, ?_⟩
  · show RE _ _ (some (V.ref a) :: List.replicate (N.length - 1) none) cz
    rw [hN]
    simp only [RE]
    refine ⟨.ref a, _, cz, cz, rfl, ?_, RE.nones (by simp) fun i d h => ?_, rfl⟩
    · simp only [RT]
      exact ⟨trivial, a, rfl, hS⟩
    · rw [List.getElem?_replicate] at h
      split at h <;> cases h
  · rw [RS.ok e]
    intro σ' E' _ _ v c r _
    simp only [RT] at r
    obtain ⟨rfl, _⟩ := r
    exact hQ E'.H
end
/-! ### stores -/
theorem dic_any : ∀ {kvs : List (Key × V)} {ds : List D} (k : Key), ds.length = kvs.length → (look (kvs.map (·.1)) ds k).isSome = kvs.any fun kv => decide (kv.1 = k)
  | [], [], _, _ => rfl
  | [], _ :: _, _, l => by simp at l
  | _ :: _, [], _, l => by simp at l
  | (k0, v0) :: kvs, d :: ds, k, l => by
    simp only [List.map_cons, look, List.any_cons]
    by_cases h : k0 = k
    · simp [h]
    · simp only [h, if_false, decide_false, Bool.false_or]
      exact dic_any k (by simpa using l)
theorem rts_putAt {E : Hw} {k : Key} {d : D} {v : V} (r : RT E d v cz) : ∀ {kvs : List (Key × V)} {ds : List D} {c : Cn}, RTs E ds (kvs.map (·.2)) c →
    ∃ c', RTs E (putAt (kvs.map (·.1)) ds k d) ((kvs.map fun kv => if kv.1 = k then (kv.1, v) else kv).map (·.2)) c' ∧ ∀ p, c' p ≤ c p
  | [], [], c, h => ⟨cz, by simp [RTs, putAt], fun _ => Nat.zero_le _⟩
  | [], _ :: _, c, h => by simp [RTs] at h
  | _ :: _, [], c, h => by simp [RTs] at h
  | (k0, v0) :: kvs, d0 :: ds, c, h => by
    simp only [List.map_cons, RTs] at h
    obtain ⟨v1, vs, c1, c2, e, r0, q, rfl⟩ := h
    cases e
    obtain ⟨c', q', le⟩ := rts_putAt r q
    simp only [List.map_cons, putAt]
    by_cases hk : k0 = k
    · simp only [hk, if_true, RTs]
      exact ⟨cadd cz c', ⟨v, _, cz, c', rfl, r, q', rfl⟩, fun p => by have := le p; simp only [cadd, cz]; omega⟩
    · simp only [hk, if_false, RTs]
      exact ⟨cadd c1 c', ⟨v0, _, c1, c', rfl, r0, q', rfl⟩, fun p => by have := le p; simp only [cadd]; omega⟩
theorem mp_setl {xs ds : List D} {o' d : D} (h : Mp.fn .setl (.lst true xs) ds = some (o', d)) : ∃ e k j, ds = [e, .int k] ∧ ixN xs.length k = some j ∧ o' = .lst true (xs.set j e) ∧ d = .non := by
  unfold Mp.fn at h
  split at h <;> try contradiction
  rename_i ds' e k h1 h2
  obtain ⟨j, hj, e'⟩ := Option.map_eq_some_iff.mp h
  cases h2
  cases e'
  exact ⟨_, _, j, rfl, hj, rfl, rfl⟩
theorem mp_setd {o o' d : D} {ds : List D} (h : Mp.fn .setd o ds = some (o', d)) : ∃ ks xs e k k', o = .dic true ks xs ∧ ds = [e, k] ∧ keyOf k = some k' ∧ ks.length < lim ∧ d = .non ∧
    o' = if (look ks xs k').isSome then .dic true ks (putAt ks xs k' e) else .dic true (ks ++ [k']) (xs ++ [e]) := by
  unfold Mp.fn at h
  split at h <;> try contradiction
  rename_i ks xs e k h2
  cases q : keyOf k with
  | none => rw [q] at h; cases h
  | some k' =>
    rw [q] at h
    simp only [Option.bind_some] at h
    split at h
    · rename_i hl
      refine ⟨ks, xs, e, k, k', rfl, rfl, q, hl, ?_⟩
      split at h <;> (cases h; rename_i hz; simp [hz])
    · cases h
section
variable {X : Cx} {ct : Str → Addr} {W : WX} {T : Tab} {Pn : List Nat} {o ke e : Expr} {k x : Ex} {i : Nat} {pos pos' : Pos}
theorem set_go {m : Mp} {σ : L2.St} {H : Hp} {Q : Ends} (z : tS X ct W Pn (exec T Pn (.setS m i k x)) Q σ H) : tV X ct W T (.mt m (.var i) [x, k]) σ H fun _ H' => Q.nx σ H' := by
  obtain ⟨E, s, ce, eK, ec, rfl, w, z⟩ := z
  simp only [exec] at z
  exact ⟨E, s, ce, eK, ec, rfl, w, z.bnd fun d v E1 s1 c st r w1 z1 => z1.ret_nx (w1.less fun p => by simp only [cadd]; omega)⟩
/-- xs[k] = e, a list -/
theorem r_setl (ho : PE X o (tVar i)) (hk : PV X ct W T ke k) (h : PV X ct W T e x) (hs : swapsWithSole [.Subscript o ke pos'] e pos.line X.env = pure false := by rfl) (hw : swappedStores [.Subscript o ke pos'] e X.env = pure none := by rfl)
    (h1 : (assignEach [.Subscript o ke pos'] X.env).map (·.2) = [assign (.Subscript o ke pos') X.env] := by rfl)
    (ha : ∀ v, assign (.Subscript o ke pos') X.env v = (do
      let ov ← holding [v] (eval o X.env)
      let iv ← holding [v, ov] (eval ke X.env)
      standAt pos'
      holding [v, ov, iv] (setItem ov iv v)
      release [v, ov, iv] []) := by intro _; rfl) :
    PSc X ct W T Pn (.Assign [.Subscript o ke pos'] e pos) (.setS .setl i k x) := PS.weak (ps_asg (pf_of h) (pg_sub ho (pf_of hk) set_list ha) hs hw h1) fun Q σ H z => by
  obtain ⟨v, e, ⟨E0, o0, c0, rfl, hs0, r0, hk0⟩, q⟩ := mt_run (set_go z)
  refine Run.mono q fun y H1 q1 => ⟨v, e, Run.mono q1 fun u H2 ⟨E, s, ce, o, ds, o', d, eH, w, e3, rd, hf, kk⟩ => ?_⟩
  subst eH
  obtain ⟨xs, rfl⟩ := mp_lst (by decide) hf
  obtain ⟨de, n, j, rfl, hj, rfl, rfl⟩ := mp_setl hf
  obtain ⟨l, ys, c', e4, hH, rt, kp⟩ := w.wlst e3
  rw [e] at e4
  cases e4
  simp only [RTs] at rd
  obtain ⟨y1, _, cy, c2, e5, ry, ⟨y2, _, c3, c4, e6, r2, ⟨e7, rfl⟩, h4⟩, h3⟩ := rd
  subst e7
  cases e6
  cases e5
  obtain ⟨rfl, rfl⟩ := cadd_z h3
  simp only [RT] at r2
  obtain ⟨rfl, rfl⟩ := r2
  obtain ⟨c'', rd', le⟩ := rts_set j rt ry
  obtain ⟨st, wd, _⟩ := kp _ _ c'' rd' le
  exact ⟨l, ys, n, j, rfl, rfl, hH, by rw [← rt.length]; exact hj, kk .non _ st rt_non wd⟩
/-- d[k] = e, a dict -/
theorem r_setd (G : XG X) (ho : PE X o (tVar i)) (hk : PV X ct W T ke k) (h : PV X ct W T e x) (hs : swapsWith e (some (.Subscript o ke pos')) pos.line X.env = pure false := by rfl) :
    PSc X ct W T Pn (.Assign [.Subscript o ke pos'] e pos) (.setS .setd i k x) := PS.weak (ps_dput G.h1 ho (pf_of hk) (pf_of h) hs) fun Q σ H z => by
  obtain ⟨v, e, ⟨E0, o0, c0, rfl, hs0, r0, hk0⟩, q⟩ := mt_run (set_go z)
  refine Run.mono q fun y H1 q1 => ⟨v, e, Run.mono q1 fun u H2 ⟨E, s, ce, o, ds, o', d, eH, w, e3, rd, hf, kk⟩ => ?_⟩
  subst eH
  obtain ⟨ks, xs, de, dk, k', rfl, rfl, hk', hl, rfl, rfl⟩ := mp_setd hf
  obtain ⟨l, kvs, c', e4, hH, hm, rt, kp⟩ := w.wdic e3
  rw [e] at e4
  cases e4
  simp only [RTs] at rd
  obtain ⟨y1, _, cy, c2, e5, ry, ⟨y2, _, c3, c4, e6, r2, ⟨e7, rfl⟩, h4⟩, h3⟩ := rd
  subst e7
  cases e6
  cases e5
  obtain ⟨rfl, rfl⟩ := cadd_z h3
  obtain ⟨rfl, _⟩ := cadd_z h4
  have hu : u = kV k' := keyOf_v r2 hk'
  subst hu
  have hlen : kvs.length = ks.length := by rw [← hm, List.length_map]
  have hxs : xs.length = kvs.length := by rw [rt.length, List.length_map]
  have ha := dic_any k' hxs
  rw [hm] at ha
  subst hm
  refine ⟨l, _, rfl, DPut.k hH (by rw [hlen]; exact Nat.lt_of_lt_of_le hl (by decide)), ?_⟩
  unfold putK
  rw [← ha]
  cases hb : (look (kvs.map (·.1)) xs k').isSome with
  | true =>
    rw [if_pos rfl]
    obtain ⟨c'', q', le⟩ := rts_putAt (k := k') ry rt
    obtain ⟨st, wd, _⟩ := kp (kvs.map fun kv => if kv.1 = k' then (kv.1, y) else kv) (kvs.map (·.1)) _ c'' (by
      rw [List.map_map]
      refine List.map_congr_left fun a _ => ?_
      simp only [Function.comp]
      split <;> rfl) q' le
    rw [hb, if_pos rfl] at kk
    exact kk .non _ st rt_non wd
  | false =>
    rw [if_neg (by decide)]
    obtain ⟨st, wd, _⟩ := kp (kvs ++ [(k', y)]) (kvs.map (·.1) ++ [k']) (xs ++ [de]) c' (by simp) (by rw [List.map_append]; exact rts_snoc rt ry) (fun p => Nat.le_refl _)
    rw [hb, if_neg (by decide)] at kk
    exact kk .non _ st rt_non wd
end
end VI

/-! Dict comprehensions; or, chains, choices; list(range(n)); attributes set. -/
namespace VI
open PySem L2 PyProof.Rows

/-- lc_it for a dict -/
theorem dc_it {J : It} {n : Nat} {GG : Hp → Prop} {Y : Nat → Hp → V → Hp → Prop} (w : Walk J n GG Y) {g : TG} {tt : TT} {tk tv : TE} {vs : List Nat} {σ : L2.St} {H1 : Hp} {D : Addr} {Qd : Hp → Prop} (Pv : Nat → Hp → Prop) (h0 : Pv 0 (upd H1 D (.dK []))) (hG : ∀ i H, i ≤ n → Pv i H → GG H)
    (hs : ∀ i x H H', i < n → Pv i H → Y i H x H' → g x (L2.wipe σ vs) H' fun σ2 H2 => L2.wipe σ2 vs = L2.wipe σ vs ∧ tt σ2 H2 fun b H3 =>
      if b = true then tk σ2 H3 fun y H4 => tv σ2 H4 fun z H5 => ∃ kvs k, y = kV k ∧ H5 D = some (.dK kvs) ∧ kvs.length < sizeLine ∧ Pv (i + 1) (upd H5 D (.dK (putK kvs k z))) else Pv (i + 1) H3) (hd : ∀ H, Pv n H → Qd H) :
    ∃ W : Nat → Nat → Hp → Prop, (∃ m, W 0 m (upd H1 D (.dK []))) ∧ ∀ i m H, W i m H →
      (J.stop i H ∧ Qd H) ∨ (J.go i H ∧ ∃ Nx : Hp → Prop, (∀ H', Nx H' → ∃ m', m' < m ∧ W (i + 1) m' H') ∧ ∀ x H', J.yld i H x H' → g x (L2.wipe σ vs) H' fun σ2 H2 => L2.wipe σ2 vs = L2.wipe σ vs ∧ tt σ2 H2 fun b H3 =>
        if b = true then tk σ2 H3 fun y H4 => tv σ2 H4 fun z H5 => ∃ kvs k, y = kV k ∧ H5 D = some (.dK kvs) ∧ kvs.length < sizeLine ∧ Nx (upd H5 D (.dK (putK kvs k z))) else Nx H3) := by
  refine ⟨fun i m H => m = n - i ∧ i ≤ n ∧ Pv i H, ⟨n, by simp, Nat.zero_le _, h0⟩, ?_⟩
  rintro i m H ⟨rfl, hi, p⟩
  have q := hG i H hi p
  by_cases hlt : i < n
  · refine .inr ⟨w.goes i H hlt q, Pv (i + 1), fun H' p' => ⟨n - (i + 1), by omega, rfl, hlt, p'⟩, fun x H' y => hs i x H H' hlt p (w.yields i H x H' hlt q y)⟩
  · have e : i = n := by omega
    subst e
    exact .inl ⟨w.stops H q, hd H p⟩
theorem loopK_cons {f : D → M (Key × D)} {d : D} {rest : List D} {acc : List Key × List D} {s sf : VS} {ds : List Key × List D} (h : loopK f (d :: rest) acc s = some (.ok ds sf)) :
    ∃ k y s1, f d s = some (.ok (k, y) s1) ∧ acc.1.length < lim ∧ loopK f rest (dicSet acc.1 acc.2 k y) s1 = some (.ok ds sf) := by
  unfold loopK M.bnd at h
  cases q : f d s with
  | none => rw [q] at h; cases h
  | some r =>
    rw [q] at h
    cases r with
    | ex x s1 => cases h
    | ok r s1 =>
      obtain ⟨k, y⟩ := r
      simp only at h
      split at h
      · exact ⟨k, y, s1, rfl, by assumption, h⟩
      · cases h
theorem bnd_ok {α β : Type} {m : M α} {f : α → M β} {s s2 : VS} {b : β} (h : m.bnd f s = some (.ok b s2)) : ∃ a s1, m s = some (.ok a s1) ∧ f a s1 = some (.ok b s2) := by
  unfold M.bnd at h
  cases q : m s with
  | none => rw [q] at h; cases h
  | some r =>
    rw [q] at h
    cases r with
    | ex x s1 => cases h
    | ok a s1 => exact ⟨a, s1, rfl, h⟩
theorem dcBody_ok {tg : List Nat} {mk me : M D} {d : D} {s s1 : VS} {k : Key} {y : D} (h : dcBody tg mk me d s = some (.ok (k, y) s1)) :
    ∃ ρ dk dy s2, bindT tg d (wipeR s.ρ tg) = some ρ ∧ mk ⟨ρ, s.μ⟩ = some (.ok dk s2) ∧ keyOf (frz dk) = some k ∧ me s2 = some (.ok dy s1) ∧ y = frz dy := by
  unfold dcBody at h
  cases q : bindT tg d (wipeR s.ρ tg) with
  | none => rw [q] at h; cases h
  | some ρ =>
    rw [q] at h
    obtain ⟨dk, s2, h1, h⟩ := bnd_ok h
    cases hk : keyOf (frz dk) with
    | none => rw [hk] at h; cases h
    | some k' =>
      rw [hk] at h
      obtain ⟨dy, s3, h2, h⟩ := bnd_ok h
      cases h
      exact ⟨ρ, dk, dy, s2, rfl, h1, hk, h2, rfl⟩
/-- a dict's pairs after a store -/
theorem dic_put {E : Hw} {kvs : List (Key × V)} {ds : List D} {k : Key} {d : D} {v : V} (rt : RTs E ds (kvs.map (·.2)) cz) (r : RT E d v cz) :
    (putK kvs k v).map (·.1) = (dicSet (kvs.map (·.1)) ds k d).1 ∧ RTs E (dicSet (kvs.map (·.1)) ds k d).2 ((putK kvs k v).map (·.2)) cz := by
  have hxs : ds.length = kvs.length := by rw [rt.length, List.length_map]
  have ha := dic_any k hxs
  unfold putK dicSet
  rw [← ha]
  cases hb : (look (kvs.map (·.1)) ds k).isSome with
  | true =>
    simp only [if_true]
    obtain ⟨c', q, le⟩ := rts_putAt (k := k) r rt
    have : c' = cz := by funext p; have := le p; simp only [cz] at this ⊢; omega
    subst this
    refine ⟨?_, q⟩
    rw [List.map_map]
    refine List.map_congr_left fun a _ => ?_
    simp only [Function.comp]
    split <;> rfl
  | false =>
    rw [if_neg (by decide), if_neg (by decide)]
    exact ⟨by simp, by rw [List.map_append]; exact rts_snoc rt r⟩
section
variable {X : Cx} {ct : Str → Addr} {W : WX} {T : Tab} {kx vx tg iter : Expr} {scope : Scope} {own : List (Str × Nat)} {pos : Pos} {sk : Sk} {src : List Ex} {k c : Ex} {is : List Nat} {g : TG}
theorem dc_run (gb : GB X.K g is) {σ : L2.St} {H : Hp} {Q : VK} (z : tV X ct W T (.dc is sk src k c) σ H Q) :
    tDc (tSrc X ct W T sk src) g tYes (tF1 X ct WF T k) (tF1 X ct WF T c) is σ H Q := by
  obtain ⟨E, s, ce, eK, ec, rfl, w, z⟩ := z
  have z : RA W RT' ((srcM T sk src).bnd fun items => dcM is (ev T k) (ev T c) items) σ E s ce Q := RA.eq (by simp only [ev]; rfl) z
  refine ⟨E, s, ce, eK, ec, rfl, w, z.bnd fun items J E1 s1 c1 st r w1 z1 => ?_⟩
  obtain ⟨rfl, G, Y, wk, sv⟩ := r
  intro Dn hD
  cases q : loopK (dcBody is (ev T k) (ev T c)) items ([], []) ⟨wipeR s1.ρ is, s1.μ⟩ with
  | none => rw [RA.non (by simp only [dcM, q, dcEnd])] at z1; exact z1.elim
  | some r =>
    cases r with
    | ex x s' => rw [RA.non (by simp only [dcM, q, dcEnd])] at z1; exact z1.elim
    | ok ds sf =>
      rw [RA.ok (a := .dic true ds.1 ds.2) (s' := ⟨wipeR sf.ρ is, sf.μ⟩) (by simp only [dcM, q, dcEnd])] at z1
      refine dc_it wk (Pv := fun i H => ∃ (E' : Hw) (s' : VS) (acc : List D) (kvs : List (Key × V)), E'.H = H ∧ Step E1 ce E' ∧ Wd E' (L2.wipe σ is) ⟨wipeR s'.ρ is, s'.μ⟩ (cadd ce (one Dn)) ∧ H Dn = some (.dK kvs) ∧ RTs E' acc (kvs.map (·.2)) cz ∧
        loopK (dcBody is (ev T k) (ev T c)) (items.drop i) (kvs.map (·.1), acc) s' = some (.ok ds sf)) ?_ (fun i H hi ⟨E', s', acc, vs, eH, st', w', _⟩ => ?_) (fun i x H H' hi ⟨E', s', acc, vs, eH, st', w', hv, ra, ql⟩ y => ?_) (fun H ⟨E', s', acc, vs, eH, st', w', hv, ra, ql⟩ => ?_)
      · have n : New E1 (E1.lay Dn (.dK [])) := lay_new w1.same hD
        have w2 : Wd (E1.lay Dn (.dK [])) σ s1 (cadd (cadd ce cz) (one Dn)) := w1.new n (fun p => by simp only [one]; split <;> omega) fun p h => by
          have e : p = Dn := by
            by_cases z : p = Dn
            · exact z
            · simp [one, z] at h
          subst e
          refine ⟨hD, ?_, by show upd E1.H p _ p ≠ none; rw [upd_same]; exact fun z => nomatch z⟩
          show E1.F p = none
          cases r : E1.F p with
          | none => rfl
          | some o => rw [w1.same p o r] at hD; cases hD
        refine ⟨E1.lay Dn (.dK []), ⟨wipeR s1.ρ is, s1.μ⟩, [], [], rfl, n.step _, ?_, upd_same, ⟨rfl, rfl⟩, q⟩
        have := w2.wipe is
        rw [wipeR_wipeR]
        exact this
      · subst eH
        exact (sv E' (st'.less fun p h => absurd rfl h) w'.same).1
      · subst eH
        have hd : items[i]? = some items[i] := by simp [hi]
        obtain ⟨E2, n2, eH2, rx⟩ := (sv E' (st'.less fun p h => absurd rfl h) w'.same).2 i x H' items[i] hd y
        subst eH2
        rw [List.drop_eq_getElem_cons hi] at ql
        obtain ⟨kk, dy, s3, hb, hlen, hr⟩ := loopK_cons ql
        obtain ⟨ρ, dk, dv, s2, hbt, hmk, hkey, hme, rfl⟩ := dcBody_ok hb
        have w2 : Wd E2 (L2.wipe σ is) ⟨wipeR s'.ρ is, s'.μ⟩ (cadd ce (one Dn)) := w'.new (c := cz) n2 (fun _ => Nat.zero_le _) fun p h => absurd rfl h
        have eK2 : E2.K = X.K := n2.k.trans (st'.k.trans (st.k.trans eK))
        have ec2 : E2.ct = ct := n2.ct.trans (st'.ct.trans (st.ct.trans ec))
        have hv2 : E2.H Dn = some (.dK vs) := n2.h _ _ hv
        have ra2 : RTs E2 acc (vs.map (·.2)) cz := RTs.mono acc (n2.step _) ra
        refine gb E2 _ ⟨wipeR s'.ρ is, s'.μ⟩ (cadd ce (one Dn)) cz items[i] x ρ _ eK2 w2 rx hbt fun σ' hw w3 => ⟨by rw [hw, wipe_wipe], ?_⟩
        rw [wipe_wipe] at hw
        simp only [tYes, if_true]
        refine ⟨E2, ⟨ρ, s'.μ⟩, cadd ce (one Dn), eK2, ec2, rfl, w3, ?_⟩
        rw [RA.ok (a := frz dk) (s' := s2) (show M.bnd (ev T k) _ _ = _ by unfold M.bnd; rw [hmk]; rfl)]
        rintro yk E3 c3 st3 ⟨rfl, rk⟩ w4
        have w4 : Wd E3 σ' s2 (cadd ce (one Dn)) := w4
        refine ⟨E3, s2, cadd ce (one Dn), st3.k.trans eK2, st3.ct.trans ec2, rfl, w4, ?_⟩
        rw [RA.ok (a := frz dv) (s' := s3) (show M.bnd (ev T c) _ _ = _ by unfold M.bnd; rw [hme]; rfl)]
        rintro yv E4 c4 st4 ⟨rfl, rv⟩ w5
        have w5 : Wd E4 σ' s3 (cadd ce (one Dn)) := w5
        have hD1 : cadd ce (one Dn) Dn ≠ 0 := by simp [cadd, one]
        have st24 := st3.trans st4
        have hv4 : E4.H Dn = some (.dK vs) := st24.h _ _ hD1 hv2
        have ra4 : RTs E4 acc (vs.map (·.2)) cz := RTs.mono acc (st24.less fun p h => absurd rfl h) ra2
        have hk : yk = kV kk := keyOf_v rk hkey
        subst hk
        obtain ⟨w6, hs6⟩ := w5.wrE (o := .dK (putK vs kk yv)) hD1
        have hcD : ce Dn = 0 := by
          have := w5.held Dn
          rw [one_self] at this
          omega
        refine ⟨vs, kk, rfl, hv4, by have : (vs.map (·.1)).length < lim := hlen; rw [List.length_map] at this; exact Nat.lt_of_lt_of_le this (by decide), ?_⟩
        obtain ⟨p1, p2⟩ := dic_put (k := kk) (RTs.mono acc (hs6 cz rfl) ra4) (RT.mono _ (hs6 cz rfl) rv)
        refine ⟨{ E4 with H := upd E4.H Dn (.dK (putK vs kk yv)) }, s3, (dicSet (vs.map (·.1)) acc kk (frz dv)).2, putK vs kk yv, rfl, (st'.trans ((n2.step ce).trans (st24.less fun p h => by simp only [cadd]; omega))).trans (hs6 ce hcD), ?_, upd_same, p2, ?_⟩
        · have := w6.wipe is
          rw [hw] at this
          exact this
        · rw [p1]
          exact hr
      · subst eH
        rw [List.drop_length, loopK] at ql
        cases ql
        exact z1 (.ref Dn) E' (one Dn) st' (by simp only [RT]; exact ⟨Dn, vs, cz, rfl, hv, rfl, ra, rfl⟩) w'.unwipe
theorem g_dc (G : XG X) (hi : PIs X ct W T tg iter sk src) (gb : GB X.K g is) (hown : own.map (·.2) = is) (ok : BlkOk X.N X.env.scope scope own)
    (hg : ∀ (s : Shared) (H : Hp) (C : Addr) (cl : List (Str × Addr)) (fp : List Addr), PG (X.blk s H scope (compEnvC scope cl C X.env) fp) tg g)
    (hk : ∀ (s : Shared) (H : Hp) (C : Addr) (cl : List (Str × Addr)) (fp : List Addr), PV (X.blk s H scope (compEnvC scope cl C X.env) fp) ct WF T kx k)
    (he : ∀ (s : Shared) (H : Hp) (C : Addr) (cl : List (Str × Addr)) (fp : List Addr), PV (X.blk s H scope (compEnvC scope cl C X.env) fp) ct WF T vx c)
    (hs : ∀ x, foldedSetIterable iter X.env x = pure x := by intro _; rfl) :
    PV X ct W T (.DictComp kx vx [⟨tg, iter, [], 0⟩] scope pos) (.dc is sk src k c) := by
  subst hown
  exact PE.weak (pe_dc (tt := tYes) (tk := tF1 X ct WF T k) (tv := tF1 X ct WF T c) G.calm G.nd hi ok hg (fun _ _ _ _ _ => pts_nil) (fun s H C cl fp => pf_of (hk s H C cl fp)) (fun s H C cl fp => pf_of (he s H C cl fp)) hs) fun σ H Q z => dc_run gb z
end
section
variable {X : Cx} {ct : Str → Addr} {W : WX} {T : Tab} {Pn : List Nat} {e a b d : Expr} {rest : List Expr} {c ca cb cd : Ex} {p q : Pr} {pos pos' : Pos} {x : Str}
/-! ### tests -/
def PWc (X : Cx) (ct : Str → Addr) (W : WX) (T : Tab) (e : Expr) (c : Ex) : Prop := PW X e (tT X ct W T c)
theorem PW.weak {t t' : TT} (h : PW X e t) (w : ∀ σ H Q, t' σ H Q → t σ H Q) : PW X e t' := ⟨fun wh pins s σ H Q I q => h.run wh pins s σ H Q I (w σ H Q q)⟩
theorem ptc_w (h : PWc X ct W T e c) : PTc X ct W T e c := PW.pt h
theorem pwc_and1 (h : PTc X ct W T a ca) : PWc X ct W T (.BoolOp .And [a] pos) ca := pw_and1 h
theorem pwc_or1 (h : PTc X ct W T a ca) : PWc X ct W T (.BoolOp .Or [a] pos) ca := pw_or1 h
theorem pwc_and (h : PTc X ct W T a ca) (h' : PWc X ct W T (.BoolOp .And (b :: rest) pos) cb) : PWc X ct W T (.BoolOp .And (a :: b :: rest) pos) (.and ca cb) := PW.weak (pw_and h h') fun σ H Q z => by
  obtain ⟨E, s, ce, eK, ec, rfl, w, z⟩ := z
  simp only [ev] at z
  refine ⟨E, s, ce, eK, ec, rfl, w, z.bnd fun d v E1 s1 c st r w1 z1 => ?_⟩
  cases d <;> first | exact (show False from z1).elim | skip
  rename_i k
  obtain ⟨rfl, rfl⟩ := RTbl rfl r
  refine ⟨k, rfl, ?_⟩
  cases k with
  | true => exact iteT (Run.mk (st.k.trans eK) (st.ct.trans ec) w1 z1)
  | false =>
    obtain ⟨k, e, q⟩ := z1.ret (Step.refl _ _) rt_bl w1
    cases e
    exact iteF q
theorem pwc_or (h : PTc X ct W T a ca) (h' : PWc X ct W T (.BoolOp .Or (b :: rest) pos) cb) : PWc X ct W T (.BoolOp .Or (a :: b :: rest) pos) (.or ca cb) := PW.weak (pw_or h h') fun σ H Q z => by
  obtain ⟨E, s, ce, eK, ec, rfl, w, z⟩ := z
  simp only [ev] at z
  refine ⟨E, s, ce, eK, ec, rfl, w, z.bnd fun d v E1 s1 c st r w1 z1 => ?_⟩
  cases d <;> first | exact (show False from z1).elim | skip
  rename_i k
  obtain ⟨rfl, rfl⟩ := RTbl rfl r
  refine ⟨k, rfl, ?_⟩
  cases k with
  | true =>
    obtain ⟨k, e, q⟩ := z1.ret (Step.refl _ _) rt_bl w1
    cases e
    exact iteT q
  | false => exact iteF (Run.mk (st.k.trans eK) (st.ct.trans ec) w1 z1)
/-- not, in a test -/
theorem ptc_no (h : PTc X ct W T a ca) : PTc X ct W T (.UnaryOp .Not a pos) (.not ca) := ptc_not h fun ta h => pt_not h
/-- a value that is a bool, as a test: of a plain form -/
theorem ptc_val (h : PV X ct W T e c) (he : ∀ whole, isTrue e X.env whole = (do let v ← whole; standAt e.pos; holding [v] (truthy v)) := by intro _; rfl) : PTc X ct W T e c := pt_of (pt_val h he)
/-- and, or, not as values -/
theorem g_not (h : PV X ct W T a ca) : PV X ct W T (.UnaryOp .Not a pos) (.not ca) := pv_not h fun ta h => pe_not h
theorem g_and1 (h : PV X ct W T a ca) {o : BoolOp} : PV X ct W T (.BoolOp o [a] pos) ca := pe_one h
theorem g_and (h : PV X ct W T a ca) (h' : PV X ct W T (.BoolOp .And (b :: rest) pos) cb) : PV X ct W T (.BoolOp .And (a :: b :: rest) pos) (.and ca cb) := PE.weak (pe_and h h') fun σ H Q z => by
  obtain ⟨E, s, ce, eK, ec, rfl, w, z⟩ := z
  simp only [ev] at z
  refine ⟨E, s, ce, eK, ec, rfl, w, z.bnd fun d v E1 s1 c st r w1 z1 => ?_⟩
  cases d <;> first | exact (show False from z1).elim | skip
  rename_i k
  obtain ⟨rfl, rfl⟩ := RTbl rfl r
  refine ⟨k, rfl, ?_⟩
  cases k with
  | true => exact iteT (Run.mk (st.k.trans eK) (st.ct.trans ec) w1 z1)
  | false => exact iteF (z1.ret (Step.refl _ _) rt_bl w1)
theorem g_or (h : PV X ct W T a ca) (h' : PV X ct W T (.BoolOp .Or (b :: rest) pos) cb) : PV X ct W T (.BoolOp .Or (a :: b :: rest) pos) (.or ca cb) := PE.weak (pe_or h h') fun σ H Q z => by
  obtain ⟨E, s, ce, eK, ec, rfl, w, z⟩ := z
  simp only [ev] at z
  refine ⟨E, s, ce, eK, ec, rfl, w, z.bnd fun d v E1 s1 c st r w1 z1 => ?_⟩
  cases d <;> first | exact (show False from z1).elim | skip
  rename_i k
  obtain ⟨rfl, rfl⟩ := RTbl rfl r
  refine ⟨k, rfl, ?_⟩
  cases k with
  | true => exact iteT (z1.ret (Step.refl _ _) rt_bl w1)
  | false => exact iteF (Run.mk (st.k.trans eK) (st.ct.trans ec) w1 z1)
/-- a if c else b -/
theorem g_ife (h : PTc X ct W T e c) (ha : PV X ct W T a ca) (hb : PV X ct W T b cb) : PV X ct W T (.IfExp e a b pos) (.ife c ca cb) := PE.weak (pe_ifExp h ha hb) fun σ H Q z => by
  obtain ⟨E, s, ce, eK, ec, rfl, w, z⟩ := z
  simp only [ev] at z
  refine ⟨E, s, ce, eK, ec, rfl, w, z.bnd fun d v E1 s1 c st r w1 z1 => ?_⟩
  cases d <;> first | exact (show False from z1).elim | skip
  rename_i k
  obtain ⟨rfl, rfl⟩ := RTbl rfl r
  refine ⟨k, rfl, ?_⟩
  cases k with
  | true => exact iteT (Run.mk (st.k.trans eK) (st.ct.trans ec) w1 z1)
  | false => exact iteF (Run.mk (st.k.trans eK) (st.ct.trans ec) w1 z1)
end
end VI

/-! Comparisons as values and as tests; chains; list(range(n)); attributes set. -/
namespace VI
open PySem L2 PyProof.Rows

section
variable {X : Cx} {ct : Str → Addr} {W : WX} {T : Tab} {Pn : List Nat} {e a b d o : Expr} {rest : List Expr} {c ca cb cd : Ex} {p q : Pr} {pos pos' : Pos} {x f C : Str} {op op' : CmpOp} {i : Nat}
def PCq (X : Cx) (ct : Str → Addr) (T : Tab) (op : CmpOp) (a b : Expr) (c : Ex) : Prop := PC X op a b (tQ X ct T c)
def PCv (X : Cx) (ct : Str → Addr) (W : WX) (T : Tab) (op : CmpOp) (a b : Expr) (c : Ex) : Prop := PC X op a b (tV X ct W T c)
theorem PC.weak {t t' : TE} (h : PC X op a b t) (w : ∀ σ H Q, t' σ H Q → t σ H Q) : PC X op a b t' := ⟨fun pins s σ H Q I q => h.run pins s σ H Q I (w σ H Q q)⟩
theorem pc_op {r : R2} {ta tb : TE} (ho : OpR X (compareOp op) r) (ha : PE X a ta) (hb : PE X b tb) : PC X op a b (tOp r ta tb) :=
  ⟨fun pins s σ H Q I h => binT ha hb I h fun v u s2 x y H2 I2 rx ry q => ho pins s2 σ H2 x y v u Q I2 rx ry q⟩
/-- its uses -/
theorem q_of (h : PCq X ct T op a b c) (h1 : behindInMarks op b = false := by first | exact nomark _ | rfl) : PQ X ct T (.Compare a [op] [b] pos) c := pe_cmp h h1
theorem g_of (h : PCv X ct W T op a b c) (h1 : behindInMarks op b = false := by first | exact nomark _ | rfl) : PV X ct W T (.Compare a [op] [b] pos) c := pe_cmp h h1
theorem t_of (h : PCv X ct W T op a b c) (h1 : behindInMarks op b = false := by first | exact nomark _ | rfl) : PTc X ct W T (.Compare a [op] [b] pos) c := pt_of (pt_cmp h h1)
theorem kv_q (h : PCq X ct T op a b c) (hq : isQ c = true := by rfl) : PCv X ct W T op a b c := PC.weak h fun σ H Q z => imp_q hq z
/-- the forms -/
theorem k_cmp (o : OpR X (compareOp op) (fun x y H Q => PR X.K ct p [x, y] H Q)) (ha : PQ X ct T a ca) (hb : PQ X ct T b cb) (hq : p.quiet = true := by rfl) : PCq X ct T op a b (.pr p [ca, cb]) := PC.weak (pc_op o ha hb) fun σ H Q z => imp_pq hq z
theorem kv_cmp (o : OpR X (compareOp op) (fun x y H Q => PR X.K ct p [x, y] H Q)) (ha : PA1 X ct W T a ca) (hb : PA1 X ct W T b cb) (h1 : (p.quiet && isQs [ca, cb]) = false := by rfl) : PCv X ct W T op a b (.pr p [ca, cb]) := PC.weak (pc_op o ha hb) fun σ H Q z => imp_pv h1 z
theorem k_isN {j} (ha : PQ X ct T a ca) : PCq X ct T .Is a (.Constant .none j pos') (.pr .isN [ca]) := PC.weak (pc_isN ha) fun σ H Q z => tQ_mono (Q := _) (imp_pq rfl z) fun x H q => im_isN x H Q q
theorem k_notN {j} (ha : PQ X ct T a ca) : PCq X ct T .IsNot a (.Constant .none j pos') (.pr .notN [ca]) := PC.weak (pc_notN ha) fun σ H Q z => tQ_mono (Q := _) (imp_pq rfl z) fun x H q => im_notN x H Q q
theorem kv_isN {j} (ha : PA1 X ct W T a ca) (h1 : isQ ca = false := by rfl) : PCv X ct W T .Is a (.Constant .none j pos') (.pr .isN [ca]) := PC.weak (pc_isN ha) fun σ H Q z => Run.mono (Q := _) (imp_pv (by simp [isQs, h1]) z) fun x H q => im_isN x H Q q
theorem kv_notN {j} (ha : PA1 X ct W T a ca) (h1 : isQ ca = false := by rfl) : PCv X ct W T .IsNot a (.Constant .none j pos') (.pr .notN [ca]) := PC.weak (pc_notN ha) fun σ H Q z => Run.mono (Q := _) (imp_pv (by simp [isQs, h1]) z) fun x H q => im_notN x H Q q
theorem k_memd (G : XG X) (ha : PQ X ct T a ca) (hb : PQ X ct T b cb) : PCq X ct T .In a b (.pr .memd [ca, cb]) := PC.weak (pc_din G.h1 ha hb) fun σ H Q z =>
  tQ_mono (show tQ X ct T ca σ H (fun x H1 => tQ X ct T cb σ H1 fun y H2 => PR X.K ct .memd [x, y] H2 Q) from imp_pq rfl z) fun x H q => tQ_mono q fun y H q => im_memd (neg := false) x y H Q q
theorem k_nmemd (G : XG X) (ha : PQ X ct T a ca) (hb : PQ X ct T b cb) : PCq X ct T .NotIn a b (.pr .nmemd [ca, cb]) := PC.weak (pc_dnotin G.h1 ha hb) fun σ H Q z =>
  tQ_mono (show tQ X ct T ca σ H (fun x H1 => tQ X ct T cb σ H1 fun y H2 => PR X.K ct .nmemd [x, y] H2 Q) from imp_pq rfl z) fun x H q => tQ_mono q fun y H q => im_memd (neg := true) x y H Q q
theorem kv_memd (G : XG X) (ha : PA1 X ct W T a ca) (hb : PA1 X ct W T b cb) (h1 : isQs [ca, cb] = false := by rfl) : PCv X ct W T .In a b (.pr .memd [ca, cb]) := PC.weak (pc_din G.h1 ha hb) fun σ H Q z =>
  Run.mono (Q := _) (imp_pv (p := .memd) (by rw [h1]; rfl) z) fun x H q => Run.mono (Q := _) q fun y H q => im_memd (neg := false) x y H Q q
theorem kv_nmemd (G : XG X) (ha : PA1 X ct W T a ca) (hb : PA1 X ct W T b cb) (h1 : isQs [ca, cb] = false := by rfl) : PCv X ct W T .NotIn a b (.pr .nmemd [ca, cb]) := PC.weak (pc_dnotin G.h1 ha hb) fun σ H Q z =>
  Run.mono (Q := _) (imp_pv (p := .nmemd) (by rw [h1]; rfl) z) fun x H q => Run.mono (Q := _) q fun y H q => im_memd (neg := true) x y H Q q
/-! ### a op b op c -/
theorem chn_run {σ : L2.St} {H : Hp} {Q : VK} (z : tV X ct W T (.chn p q ca cb c) σ H Q) :
    tChain (fun x y H Q => PR X.K ct p [x, y] H Q) (fun x y H Q => PR X.K ct q [x, y] H Q) (tF1 X ct W T ca) (tF1 X ct W T cb) (tF1 X ct W T c) σ H Q := by
  obtain ⟨E, s, ce, eK, ec, rfl, w, z⟩ := z
  by_cases hpq : (p.quiet && q.quiet) = true
  · simp only [ev, hpq, if_true] at z
    simp only [Bool.and_eq_true] at hpq
    refine ⟨E, s, ce, eK, ec, rfl, w, ?_⟩
    have pr1 : ∀ {E1 : Hw} {s1 : VS} {dx dy d : D} {x y : V} {pp : Pr} {R : VK}, pp.quiet = true → E1.K = X.K → E1.ct = ct → Wd E1 σ s1 ce → RT E1 dx x cz → RT E1 dy y cz → pp.fn [dx, dy] = some d → (∀ v, RT E1 d v cz → R v E1.H) → PR X.K ct pp [x, y] E1.H R :=
      fun {E1 s1 dx dy d x y pp R} hq e1 e2 w1 r1 r2 hf k => ⟨E1, [dx, dy], d, e1, e2, rfl, w1.same, ⟨x, [y], cz, rfl, r1, y, [], cz, rfl, r2, rfl⟩, hf, by rw [if_pos hq]; exact k⟩
    have fz : ∀ {cc : Ex} {E1 : Hw} {s1 : VS} {f : D → M D} {R : V → Hp → Prop}, E1.K = X.K → E1.ct = ct → Wd E1 σ s1 ce → RA W RT' ((ev T cc).bnd f) σ E1 s1 ce Q →
        (∀ (d : D) (v : V) (E2 : Hw) (s2 : VS), Step E1 ce E2 → RT E2 (frz d) v cz → Wd E2 σ s2 ce → RA W RT' (f d) σ E2 s2 ce Q → R v E2.H) → RA W RTf ((ev T cc).bnd fun d => M.ret (frz d)) σ E1 s1 ce R := fun {cc E1 s1 f R} e1 e2 w1 zz k => by
      cases q1 : ev T cc s1 with
      | none => rw [RA.non (show M.bnd (ev T cc) f s1 = none by unfold M.bnd; rw [q1])] at zz; exact zz.elim
      | some r =>
        cases r with
        | ex x s2 =>
          rw [RA.exc (show M.bnd (ev T cc) f s1 = some (.ex x s2) by unfold M.bnd; rw [q1])] at zz
          rw [RA.exc (show M.bnd (ev T cc) _ s1 = some (.ex x s2) by unfold M.bnd; rw [q1])]
          exact zz
        | ok d s2 =>
          rw [RA.ok (show M.bnd (ev T cc) (fun d => M.ret (frz d)) s1 = some (.ok (frz d) s2) by unfold M.bnd; rw [q1]; rfl)]
          rintro v E2 c2 st2 ⟨rfl, r2⟩ w2
          refine k d v E2 s2 st2 r2 w2 ?_
          have e : M.bnd (ev T cc) f s1 = f d s2 := by unfold M.bnd; rw [q1]
          cases q2 : f d s2 with
          | none => rw [RA.non (e.trans q2)] at zz; exact zz.elim
          | some r3 =>
            cases r3 with
            | ok g s3 =>
              rw [RA.ok (e.trans q2)] at zz
              rw [RA.ok q2]
              exact fun b E3 c' st3 r' w3 => zz b E3 c' (st2.trans st3) r' w3
            | ex x s3 =>
              rw [RA.exc (e.trans q2)] at zz
              rw [RA.exc q2]
              exact fun cls d E3 st3 r' w3 => zz cls d E3 (st2.trans st3) r' w3
    refine fz eK ec w z fun dx x1 E1 s1 st1 r1 w1 z1 => ?_
    refine ⟨E1, s1, ce, st1.k.trans eK, st1.ct.trans ec, rfl, w1, ?_⟩
    refine fz (st1.k.trans eK) (st1.ct.trans ec) w1 z1 fun dy x2 E2 s2 st2 r2 w2 z2 => ?_
    have st12 := st1.trans st2
    have r1' := RT.mono _ (st2.less fun p h => absurd rfl h) r1
    cases hf : p.fn [frz dx, frz dy] with
    | none => rw [hf] at z2; exact (show False from z2).elim
    | some d =>
      rw [hf] at z2
      refine pr1 hpq.1 (st12.k.trans eK) (st12.ct.trans ec) w2 r1' r2 hf fun v rv => ?_
      cases d <;> first | exact (show False from z2).elim | skip
      rename_i k
      obtain ⟨rfl, _⟩ := RTbl rfl rv
      refine ⟨k, rfl, ?_⟩
      cases k with
      | false => exact iteF (z2.ret (Step.refl _ _) rt_bl w2)
      | true =>
        refine iteT ⟨E2, s2, ce, st12.k.trans eK, st12.ct.trans ec, rfl, w2, ?_⟩
        refine fz (st12.k.trans eK) (st12.ct.trans ec) w2 z2 fun dz x3 E3 s3 st3 r3 w3 z3 => ?_
        have st13 := st12.trans st3
        cases hg : q.fn [frz dy, frz dz] with
        | none => rw [hg] at z3; exact (show False from z3).elim
        | some d =>
          rw [hg] at z3
          refine pr1 hpq.2 (st13.k.trans eK) (st13.ct.trans ec) w3 (RT.mono _ (st3.less fun p h => absurd rfl h) r2) r3 hg fun v rv => ?_
          by_cases ha : allF d = true
          · simp only [ha, if_true] at z3
            exact z3.ret (Step.refl _ _) rv w3
          · simp only [ha, if_false] at z3
            exact (show False from z3).elim
  · rw [RA.non (by simp only [ev]; rw [if_neg hpq]; rfl)] at z
    exact z.elim
theorem g_chn (o : OpR X (compareOp op) (fun x y H Q => PR X.K ct p [x, y] H Q)) (o' : OpR X (compareOp op') (fun x y H Q => PR X.K ct q [x, y] H Q)) (ha : PV X ct W T a ca) (hb : PV X ct W T b cb) (hd : PV X ct W T d c)
    (hm : lastMarks [op, op'] [b, d] = false := by with_unfolding_all rfl) : PV X ct W T (.Compare a [op, op'] [b, d] pos) (.chn p q ca cb c) := PE.weak (pe_chain o o' (pf_of ha) (pf_of hb) (pf_of hd) hm) fun σ H Q z => chn_run z
theorem t_chn (o : OpR X (compareOp op) (fun x y H Q => PR X.K ct p [x, y] H Q)) (o' : OpR X (compareOp op') (fun x y H Q => PR X.K ct q [x, y] H Q)) (ha : PV X ct W T a ca) (hb : PV X ct W T b cb) (hd : PV X ct W T d c)
    (hm : lastMarks [op, op'] [b, d] = false := by with_unfolding_all rfl) : PTc X ct W T (.Compare a [op, op'] [b, d] pos) (.chn p q ca cb c) := PT.weak (pt_chain o o' (pf_of ha) (pf_of hb) (pf_of hd) hm) fun σ H Q z => chn_run z
end
end VI

/-! list(range(n)); attributes set. -/
namespace VI
open PySem L2 PyProof.Rows

theorem rts_putF {E : Hw} {f : Str} {d : D} {y : V} {c : Cn} (r : RT E d y c) : ∀ {fs : List (Str × V)} {ds : List D} {c1 : Cn}, RTs E ds (fs.map (·.2)) c1 →
    ∃ c', (∀ p, c' p ≤ c1 p + c p) ∧ (putF f y fs).map (·.1) = (putFd (fs.map (·.1)) ds f d).1 ∧ RTs E (putFd (fs.map (·.1)) ds f d).2 ((putF f y fs).map (·.2)) c'
  | [], [], c1, h => by
    simp only [List.map_nil, RTs] at h
    refine ⟨cadd c cz, fun p => by simp only [cadd, cz]; omega, rfl, ?_⟩
    simp only [putF, putFd, List.map_cons, List.map_nil, RTs]
    exact ⟨y, [], c, cz, rfl, r, ⟨rfl, rfl⟩, rfl⟩
  | [], _ :: _, c1, h => by simp [RTs] at h
  | _ :: _, [], c1, h => by simp [RTs] at h
  | (g, x) :: fs, d0 :: ds, c1, h => by
    simp only [List.map_cons, RTs] at h
    obtain ⟨v1, vs, c2, c3, e, r0, q, rfl⟩ := h
    cases e
    by_cases hg : g = f
    · simp only [putF, putFd, List.map_cons, hg, if_true, RTs]
      exact ⟨cadd c c3, fun p => by simp only [cadd]; omega, by simp, y, _, c, c3, rfl, r, q, rfl⟩
    · obtain ⟨c', le, e1, q'⟩ := rts_putF r q
      simp only [putF, putFd, List.map_cons, hg, if_false, RTs]
      exact ⟨cadd c2 c', fun p => by have := le p; simp only [cadd]; omega, by rw [e1], x, _, c2, c', rfl, r0, q', rfl⟩
theorem RM.put {E : Hw} : ∀ {μ : List RO} {A : List Addr} {c : Cn} {k : Nat} {r : RO} {a : Addr}, RM E μ A c → μ[k]? = some r → A[k]? = some a → ∃ dx fs c1 c0, E.H a = some (.ins (E.ct r.cls) dx fs) ∧ fs.map (·.1) = r.fn ∧ RTs E r.ds (fs.map (·.2)) c1 ∧ c = cadd (one a) (cadd c1 c0) ∧
    ∀ (E' : Hw) (r' : RO) (dx' : Addr) (fs' : List (Str × V)) (c1' : Cn), Step E c0 E' → E'.H a = some (.ins (E'.ct r'.cls) dx' fs') → fs'.map (·.1) = r'.fn → RTs E' r'.ds (fs'.map (·.2)) c1' → RM E' (μ.set k r') A (cadd (one a) (cadd c1' c0))
  | [], _, _, _, _, _, _, e, _ => by simp at e
  | r0 :: μ, _, _, 0, r, a, h, e, e' => by
    simp only [RM] at h
    obtain ⟨a0, A', dx, fs, c1, c2, rfl, q, z, t, m, rfl⟩ := h
    simp only [List.getElem?_cons_zero, Option.some.injEq] at e e'
    subst e
    subst e'
    refine ⟨dx, fs, c1, c2, q, z, t, rfl, fun E' r' dx' fs' c1' st q' z' t' => ?_⟩
    simp only [List.set_cons_zero, RM]
    exact ⟨a0, A', dx', fs', c1', c2, rfl, q', z', t', RM.mono st m, rfl⟩
  | r0 :: μ, _, _, k + 1, r, a, h, e, e' => by
    simp only [RM] at h
    obtain ⟨a0, A', dx, fs, c1, c2, rfl, q, z, t, m, rfl⟩ := h
    rw [List.getElem?_cons_succ] at e e'
    obtain ⟨dx2, fs2, c3, c4, q2, z2, t2, ec, kk⟩ := RM.put m e e'
    refine ⟨dx2, fs2, c3, cadd (one a0) (cadd c1 c4), q2, z2, t2, by subst ec; funext p; simp only [cadd]; omega, fun E' r' dx' fs' c1' st q' z' t' => ?_⟩
    have m' := kk E' r' dx' fs' c1' (st.less fun p h => by simp only [cadd]; omega) q' z' t'
    simp only [List.set_cons_succ, RM]
    refine ⟨a0, A', dx, fs, c1, cadd (one a) (cadd c1' c4), rfl, ?_, z, RTs.mono _ (st.less fun p h => by simp only [cadd]; omega) t, m', by funext p; simp only [cadd]; omega⟩
    rw [st.ct]
    exact st.h a0 _ (by simp [cadd, one]) q
theorem Wd.fput {E : Hw} {σ : L2.St} {s : VS} {ce c : Cn} {d : D} {y : V} {k : Nat} {r : RO} {a : Addr} (f : Str) (w : Wd E σ s (cadd ce c)) (rd : RT E d y c) (hr : s.μ[k]? = some r) (ha : E.A[k]? = some a) :
    ∃ dx fs, E.H a = some (.ins (E.ct r.cls) dx fs) ∧ fs.length = r.fn.length ∧ Step E ce { E with H := upd E.H a (.ins (E.ct r.cls) dx (putF f y fs)) } ∧
      Wd { E with H := upd E.H a (.ins (E.ct r.cls) dx (putF f y fs)) } σ ⟨s.ρ, s.μ.set k (VI.fput r f d)⟩ ce := by
  obtain ⟨c1, c2, re, rm, t, fz⟩ := w.own
  obtain ⟨dx, fs, c3, c0, q, z, ts, rfl, kk⟩ := rm.put hr ha
  simp only [cadd] at t fz
  have ta := t a
  simp only [show one a a = 1 by simp [one]] at ta
  have hs : ∀ c : Cn, c a = 0 → Step E c { E with H := upd E.H a (.ins (E.ct r.cls) dx (putF f y fs)) } := fun c hc => ⟨rfl, rfl, fun _ _ h => h, ⟨[], by simp⟩, fun b o z y => by
    show upd E.H a _ b = some o
    rw [upd_ne (fun e => z (by rw [e]; exact hc))]
    exact y⟩
  obtain ⟨c', le, e1, q'⟩ := rts_putF (f := f) rd ts
  refine ⟨dx, fs, q, by rw [← z, List.length_map], hs ce (by omega), ⟨fun p o h => ?_, ⟨c1, _, RE.mono (hs c1 (by omega)) re, kk _ (VI.fput r f d) dx (putF f y fs) c' (hs c0 (by omega)) upd_same (by rw [e1, z]; rfl) ?_, fun p => ?_, fun p h => ?_⟩, fun p h => ?_⟩⟩
  · show upd E.H a _ p = some o
    rw [upd_ne (fun e => by
      rw [e] at h
      rw [fz a (by simp [one])] at h
      cases h)]
    exact w.same p o h
  · rw [z] at q'
    exact RTs.mono _ (hs c' (by have := le a; omega)) q'
  · have := t p
    have := le p
    simp only [cadd]
    omega
  · have := le p
    simp only [cadd] at h
    exact fz p (by omega)
  · show upd E.H a _ p ≠ none
    by_cases e : p = a
    · rw [e, upd_same]; exact fun z => nomatch z
    · rw [upd_ne e]; exact w.ex p (by simp only [cadd]; omega)
section
variable {X : Cx} {ct : Str → Addr} {W : WX} {T : Tab} {Pn : List Nat} {e a o : Expr} {x ca : Ex} {pos pos' p p2 : Pos} {f C : Str} {i : Nat}
/-- o.f = e -/
theorem r_setF (ho : PE X o (tVar i)) (h : PV X ct W T e x) (hc : Cls X.K (ct C)) (hn : NoAttr X.K (ct C) f) (hs : swapsWith e (some (.Attribute o f pos')) pos.line X.env = pure false := by rfl) :
    PSc X ct W T Pn (.Assign [.Attribute o f pos'] e pos) (.setF C i f x) := PS.weak (ps_fld ho h hs) fun Q σ H z => by
  obtain ⟨E, s, ce, eK, rfl, rfl, w, z⟩ := z
  simp only [exec] at z
  refine ⟨E, s, ce, eK, rfl, rfl, w, z.bnd fun d v E0 s1 c st0 r0 w0 z1 => ?_⟩
  obtain ⟨E1, st1, eH, r, w1⟩ := w0.freeze r0
  have st := st0.trans st1
  rw [← eH]
  replace z1 := z1.up Pin.refl st1
  cases q1 : s1.ρ[i]? with
  | none => rw [RS.non (by simp only [setFM, q1])] at z1; exact z1.elim
  | some o1 =>
    cases o1 with
    | none => rw [RS.non (by simp only [setFM, q1])] at z1; exact z1.elim
    | some d1 =>
      cases d1 with
      | ref k =>
        cases q2 : s1.μ[k]? with
        | none => rw [RS.non (by simp only [setFM, q1, q2])] at z1; exact z1.elim
        | some r1 =>
          by_cases h1 : r1.cls = C ∧ r1.fn.length < 900
          · obtain ⟨c1, c2, re, rm, _⟩ := w1.own
            obtain ⟨vo, c3, e3, ro⟩ := re.val q1
            simp only [RT] at ro
            obtain ⟨_, ad, rfl, ha⟩ := ro
            obtain ⟨dx, fs, hh, hl, st2, w2⟩ := w1.fput f r q2 ha
            refine ⟨_, e3, ad, _, dx, fs, rfl, hh, ?_, ?_, by omega, ?_⟩
            · rw [st.ct, h1.1]; exact hc
            · rw [st.ct, h1.1]; exact hn
            · rw [RS.ok (fl := .nx) (s' := ⟨s1.ρ, s1.μ.set k (VI.fput r1 f (frz d))⟩) (by simp only [setFM, q1, q2]; rw [if_pos h1])] at z1
              exact z1 σ _ Pin.refl st2 w2
          · rw [RS.non (by simp only [setFM, q1, q2]; rw [if_neg h1])] at z1; exact z1.elim
      | _ => rw [RS.non (by simp only [setFM, q1])] at z1; exact z1.elim
/-! ### list(range(n)) -/
theorem im_lrng (x : V) (H : Hp) (Q : VK) (h : PR X.K ct .lrng [x] H Q) : ∃ n, x = .int n ∧ RgOk 0 n ∧ ∀ q, H q = none → Q (.ref q) (upd H q (.lst (rgV 0 n))) := by
  obtain ⟨E, ds, d, eK, rfl, rfl, hs, hx, hf, k⟩ := h.n rfl
  obtain ⟨a, ca, rfl, ra⟩ := rx1 hx
  cases a <;> first | (cases hf; done) | skip
  rename_i n
  replace hf : (if -1000000 ≤ n ∧ n ≤ lim then some (D.lst true ((List.range n.toNat).map fun i : Nat => .int (i : Int))) else none) = some d := hf
  split at hf
  · rename_i hn
    cases hf
    have hlim : (lim : Int) = 1000000 := rfl
    refine ⟨n, ra.int, ⟨by omega, by omega, by omega, by omega, by omega⟩, fun q hq => list_end hs k ?_ hq⟩
    unfold rgV
    rw [Int.sub_zero]
    generalize List.range n.toNat = l
    induction l with
    | nil => simp [RTs]
    | cons j l ih =>
      simp only [List.map_cons, RTs]
      exact ⟨_, _, cz, cz, rfl, by rw [Int.zero_add]; exact rt_int, ih, rfl⟩
  · cases hf
theorem g_lrng (G : XG X) (hg : Gl X "list") (hm : X.mg "list" = none) (hg2 : Gl X "range") (hm2 : X.mg "range" = none) (ha : PA1 X ct W T a ca) (na : starEach [a] X.env = (false, eval a X.env) :: starEach [] X.env := by rfl)
    (na2 : starEach [.Call (.Name "range" p2) [a] [] pos'] X.env = (false, eval (.Call (.Name "range" p2) [a] [] pos') X.env) :: starEach [] X.env := by rfl) :
    PV X ct W T (.Call (.Name "list" p) [.Call (.Name "range" p2) [a] [] pos'] [] pos) (.pr .lrng [ca]) :=
  pg1 (r := fun x H Q => ∃ n, x = .int n ∧ RgOk 0 n ∧ ∀ q, H q = none → Q (.ref q) (upd H q (.lst (rgV 0 n)))) (pe_listRg G.calm hg hm (prg_1 hg2 hm2 ha na) na2) im_lrng (by rfl)
end
end VI

/-! The rules by short names, as the printer names them. -/
namespace VI
open PySem L2 PyProof.Rows

section
variable {X : Cx} {ct : Str → Addr} {W : WX} {T : Tab} {Pn : List Nat} {e a b d : Expr} {es rest : List Expr} {c ca cb cd : Ex} {cs : List Ex} {p q : Pr} {pos pos' p2 p3 : Pos} {x y : Str} {i : Nat}
theorem un_negV : UnR X (unaryOp .USub) (fun x H Q => PR X.K ct .neg [x] H Q) := fun pins s σ H x v Q I rx h => by
  obtain ⟨E, ds, d, eK, rfl, rfl, hs, hx, hf, k⟩ := h.q rfl
  obtain ⟨a, ca, rfl, ra⟩ := rx1 hx
  cases a <;> first | (cases hf; done) | skip
  cases hf
  exact un_neg pins s σ _ x v Q I rx ⟨_, ra.int, k _ rt_int⟩
theorem q_neg (ha : PQ X ct T a ca) : PQ X ct T (.UnaryOp .USub a pos) (.pr .neg [ca]) := pq_pr (PE.weak (pe_un un_negV ha) fun σ H Q z => z) rfl
theorem g_neg (ha : PA1 X ct W T a ca) (h1 : isQ ca = false := by rfl) : PV X ct W T (.UnaryOp .USub a pos) (.pr .neg [ca]) := pv_pr (PE.weak (pe_un un_negV ha) fun σ H Q z => z) (by simp [isQs, h1])
/-- a name of the def, a constant -/
theorem vt (hN : X.N[i]? = some x := by rfl) (hv : Vis X.env.scope x := by first | exact .inl rfl | exact .inr (.inl rfl) | exact .inr (.inr rfl)) (hd : (x == ("__debug__" : Str)) = false := by decide) (hcd : (x == ("__classdict__" : Str)) = false := by decide) : PE X (.Name x pos) (tVar i) := pe_var hN hv hd hcd
theorem vq (h : PE X (.Name x pos) (tVar i)) : PQ X ct T (.Name x pos) (.var i) := pq_var h
theorem vf (h : PE X (.Name x pos) (tVar i)) : PV X ct W T (.Name x pos) (.frv i) := pv_frv h
theorem vm (h : PE X (.Name x pos) (tVar i)) : PV X ct W T (.Name x pos) (.mov i) := pv_mov h
theorem va (h : PE X (.Name x pos) (tVar i)) : PA1 X ct W T (.Name x pos) (.var i) := pa_var h
theorem ki {n : Int} {j} : PQ X ct T (.Constant (.int n) j pos) (.con (.int n)) := pq_con rfl pe_int
theorem ks {n : Str} {j} : PQ X ct T (.Constant (.str n) j pos) (.con (.str n)) := pq_con rfl pe_str
theorem kb {n : Bool} {j} : PQ X ct T (.Constant (.bool n) j pos) (.con (.bl n)) := pq_con rfl pe_bl
theorem kn {j} : PQ X ct T (.Constant .none j pos) (.con .non) := pq_con rfl pe_non
theorem kgs {z : Str} (hm : ∃ t, X.mg x = some (.str z t)) (ht : T.glo x = some (.str z) := by rfl) (hg : Gl X x := by rfl) (hd : (x == ("__debug__" : Str)) = false := by decide) : PQ X ct T (.Name x pos) (.glo x) := by
  obtain ⟨t, hm⟩ := hm
  exact pq_glo ht rfl (pe_glob hg hm ⟨_, rfl⟩ hd)
theorem kgi {z : Int} (hm : ∃ t, X.mg x = some (.int z t)) (ht : T.glo x = some (.int z) := by rfl) (hg : Gl X x := by rfl) (hd : (x == ("__debug__" : Str)) = false := by decide) : PQ X ct T (.Name x pos) (.glo x) := by
  obtain ⟨t, hm⟩ := hm
  exact pq_glo ht rfl (pe_glob hg hm ⟨_, rfl⟩ hd)
theorem q_fld {o : Expr} {f C : Str} {q : Ex} (h : PQ X ct T o q) (hc : Cls X.K (ct C)) (hn : NoAttr X.K (ct C) f) (hb : attributeBase o f X.env (eval o X.env) = eval o X.env := by rfl) : PQ X ct T (.Attribute o f pos) (.fld C q f) := pq_fld h (fun to h => pe_fld h hb) hc hn
def _root_.VI.Tab.ext (T : Tab) (i : Nat) (m : List D → List RO → Option CR) : Tab := { T with call := fun j => if j = i then m else T.call j }
/-- from one kind to another -/
theorem gq (h : PQ X ct T e c) (hq : isQ c = true := by rfl) : PV X ct W T e c := pv_q h hq
theorem ag (h : PV X ct W T e c) (hc : ∀ i, c ≠ .var i := by exact fun _ h => nomatch h) : PA1 X ct W T e c := pa_of h hc
theorem aq (h : PQ X ct T e c) (hq : isQ c = true := by rfl) (hc : ∀ i, c ≠ .var i := by exact fun _ h => nomatch h) : PA1 X ct W T e c := pa_of (pv_q h hq) hc
theorem gg (h : PV X ct W T e c) (hc : ∀ i, c ≠ .io i := by exact fun _ h => nomatch h) : PG1 X ct W T e c := pg_of h hc
/-- built-ins -/
theorem boot_isinst : bootBuiltins "isinstance" = some (.builtin "isinstance") := by decide +kernel
theorem bb_len : bootBuiltins "len" = some (.builtin "len") := by decide +kernel
theorem bb_int : bootBuiltins "int" = some (.type "int") := by decide +kernel
theorem bb_abs : bootBuiltins "abs" = some (.builtin "abs") := by decide +kernel
theorem bb_max : bootBuiltins "max" = some (.builtin "max") := by decide +kernel
theorem bb_min : bootBuiltins "min" = some (.builtin "min") := by decide +kernel
theorem bb_sum : bootBuiltins "sum" = some (.builtin "sum") := by decide +kernel
theorem bb_all : bootBuiltins "all" = some (.builtin "all") := by decide +kernel
theorem bb_any : bootBuiltins "any" = some (.builtin "any") := by decide +kernel
theorem bb_list : bootBuiltins "list" = some (.type "list") := by decide +kernel
theorem bb_tuple : bootBuiltins "tuple" = some (.type "tuple") := by decide +kernel
theorem bb_str : bootBuiltins "str" = some (.type "str") := by decide +kernel
theorem bb_bool : bootBuiltins "bool" = some (.type "bool") := by decide +kernel
theorem bb_dict : bootBuiltins "dict" = some (.type "dict") := by decide +kernel
theorem q_len (hm : X.mg "len" = none) (ha : PQ X ct T a ca) (hg : Gl X "len" := by rfl) (he : starEach [a] X.env = (false, eval a X.env) :: starEach [] X.env := by rfl) : PQ X ct T (.Call (.Name "len" pos') [a] [] pos) (.pr .len [ca]) := q_call1 (f := .none) c_len hg hm bb_len ha rfl (by decide) (by decide) he
theorem g_len (hm : X.mg "len" = none) (ha : PA1 X ct W T a ca) (h1 : isQ ca = false := by rfl) (hg : Gl X "len" := by rfl) (he : starEach [a] X.env = (false, eval a X.env) :: starEach [] X.env := by rfl) : PV X ct W T (.Call (.Name "len" pos') [a] [] pos) (.pr .len [ca]) := g_call1 c_len hg hm bb_len ha (by simp [isQs, h1]) (by decide) (by decide) he
theorem q_lend (hm : X.mg "len" = none) (ha : PQ X ct T a ca) (hg : Gl X "len" := by rfl) (he : starEach [a] X.env = (false, eval a X.env) :: starEach [] X.env := by rfl) : PQ X ct T (.Call (.Name "len" pos') [a] [] pos) (.pr .lend [ca]) := q_call1 (f := .none) c_lend hg hm bb_len ha rfl (by decide) (by decide) he
theorem q_abs (hm : X.mg "abs" = none) (ha : PQ X ct T a ca) (hg : Gl X "abs" := by rfl) (he : starEach [a] X.env = (false, eval a X.env) :: starEach [] X.env := by rfl) : PQ X ct T (.Call (.Name "abs" pos') [a] [] pos) (.pr .abs [ca]) := q_call1 (f := .none) c_abs hg hm bb_abs ha rfl (by decide) (by decide) he
theorem q_int (hm : X.mg "int" = none) (ha : PQ X ct T a ca) (hg : Gl X "int" := by rfl) (he : starEach [a] X.env = (false, eval a X.env) :: starEach [] X.env := by rfl) : PQ X ct T (.Call (.Name "int" pos') [a] [] pos) (.pr .int1 [ca]) := q_callT c_int hg hm bb_int ha rfl (by decide) (by decide) he
theorem g_int (hm : X.mg "int" = none) (ha : PA1 X ct W T a ca) (h1 : isQ ca = false := by rfl) (hg : Gl X "int" := by rfl) (he : starEach [a] X.env = (false, eval a X.env) :: starEach [] X.env := by rfl) : PV X ct W T (.Call (.Name "int" pos') [a] [] pos) (.pr .int1 [ca]) := g_callT c_int hg hm bb_int ha (by simp [isQs, h1]) (by decide) (by decide) he
theorem q_str (hm : X.mg "str" = none) (ha : PQ X ct T a ca) (hg : Gl X "str" := by rfl) (he : starEach [a] X.env = (false, eval a X.env) :: starEach [] X.env := by rfl) : PQ X ct T (.Call (.Name "str" pos') [a] [] pos) (.pr .str1 [ca]) := q_callT c_str hg hm bb_str ha rfl (by decide) (by decide) he
theorem g_str (hm : X.mg "str" = none) (ha : PA1 X ct W T a ca) (h1 : isQ ca = false := by rfl) (hg : Gl X "str" := by rfl) (he : starEach [a] X.env = (false, eval a X.env) :: starEach [] X.env := by rfl) : PV X ct W T (.Call (.Name "str" pos') [a] [] pos) (.pr .str1 [ca]) := g_callT c_str hg hm bb_str ha (by simp [isQs, h1]) (by decide) (by decide) he
theorem g_list (hm : X.mg "list" = none) (ha : PA1 X ct W T a ca) (hg : Gl X "list" := by rfl) (he : starEach [a] X.env = (false, eval a X.env) :: starEach [] X.env := by rfl) : PV X ct W T (.Call (.Name "list" pos') [a] [] pos) (.pr .list [ca]) := g_callT c_list hg hm bb_list ha (by rfl) (by decide) (by decide) he
theorem g_tuple (hm : X.mg "tuple" = none) (ha : PA1 X ct W T a ca) (hg : Gl X "tuple" := by rfl) (he : starEach [a] X.env = (false, eval a X.env) :: starEach [] X.env := by rfl) : PV X ct W T (.Call (.Name "tuple" pos') [a] [] pos) (.pr .tuple [ca]) := g_callT c_tuple hg hm bb_tuple ha (by rfl) (by decide) (by decide) he
theorem g_sum (G : XG X) (hm : X.mg "sum" = none) (ha : PA1 X ct W T a ca) (h1 : isQ ca = false := by rfl) (hg : Gl X "sum" := by rfl) (he : starEach [a] X.env = (false, eval a X.env) :: starEach [] X.env := by rfl) : PV X ct W T (.Call (.Name "sum" pos') [a] [] pos) (.pr .sum [ca]) := g_call1 (c_sum G.calm) hg hm bb_sum ha (by simp [isQs, h1]) (by decide) (by decide) he
theorem g_all (G : XG X) (hm : X.mg "all" = none) (ha : PA1 X ct W T a ca) (h1 : isQ ca = false := by rfl) (hg : Gl X "all" := by rfl) (he : starEach [a] X.env = (false, eval a X.env) :: starEach [] X.env := by rfl) : PV X ct W T (.Call (.Name "all" pos') [a] [] pos) (.pr .all [ca]) := g_call1 (c_all G.calm) hg hm bb_all ha (by simp [isQs, h1]) (by decide) (by decide) he
theorem g_any (G : XG X) (hm : X.mg "any" = none) (ha : PA1 X ct W T a ca) (h1 : isQ ca = false := by rfl) (hg : Gl X "any" := by rfl) (he : starEach [a] X.env = (false, eval a X.env) :: starEach [] X.env := by rfl) : PV X ct W T (.Call (.Name "any" pos') [a] [] pos) (.pr .any [ca]) := g_call1 (c_any G.calm) hg hm bb_any ha (by simp [isQs, h1]) (by decide) (by decide) he
theorem q_is {n : String} (hm : X.mg "isinstance" = none) (hmy : X.mg y = none) (hvy : bootBuiltins y = some (.type n)) (ha : PQ X ct T a ca) (hg : Gl X "isinstance" := by rfl) (hy : Gl X y := by rfl)
    (he : starEach [a, .Name y p2] X.env = (false, eval a X.env) :: starEach [.Name y p2] X.env := by rfl) (hn : y ≠ "__name__" := by decide) (hd : (y == ("__debug__" : Str)) = false := by decide) : PQ X ct T (.Call (.Name "isinstance" pos') [a, .Name y p2] [] pos) (.pr (.isi n) [ca]) :=
  q_isi hg hm ha hy hmy hvy he hn hd
/-- slices -/
theorem sl00 (ha : PA1 X ct W T a ca) : PV X ct W T (.Subscript a (.Slice none none none p2) pos) (.slc ca [] []) := g_sl ha po_none po_none (.inl ⟨rfl, rfl⟩) (.inl ⟨rfl, rfl⟩)
theorem sl10 (ha : PA1 X ct W T a ca) (hb : PV X ct W T b cb) : PV X ct W T (.Subscript a (.Slice (some b) none none p2) pos) (.slc ca [cb] []) := g_sl ha (po_some hb) po_none (.inr ⟨_, rfl, rfl⟩) (.inl ⟨rfl, rfl⟩)
theorem sl01 (ha : PA1 X ct W T a ca) (hb : PV X ct W T b cb) : PV X ct W T (.Subscript a (.Slice none (some b) none p2) pos) (.slc ca [] [cb]) := g_sl ha po_none (po_some hb) (.inl ⟨rfl, rfl⟩) (.inr ⟨_, rfl, rfl⟩)
theorem sl11 (ha : PA1 X ct W T a ca) (hb : PV X ct W T b cb) (hd : PV X ct W T d cd) : PV X ct W T (.Subscript a (.Slice (some b) (some d) none p2) pos) (.slc ca [cb] [cd]) := g_sl ha (po_some hb) (po_some hd) (.inr ⟨_, rfl, rfl⟩) (.inr ⟨_, rfl, rfl⟩)
/-- the targets of loops -/
theorem tg1 (G : XG X) (hN : X.N[i]? = some x := by rfl) (hx : Loc X.env.scope x := by first | exact .inl rfl | exact .inr rfl) (hf : X.fn x = true ∨ X.env.scope.names.lookup x = some .local := by first | exact .inl rfl | exact .inr rfl) : PG X (.Name x pos) (gName i) := pg_name G.nd hN hx hf
theorem tg2 {k j : Nat} (G : XG X) (h1 : PG X a (gName i)) (h2 : PG X b (gName j)) (hs : (assignEach [a, b] X.env).map (·.2) = assign a X.env :: (assignEach [b] X.env).map (·.2) := by rfl) (hs2 : (assignEach [b] X.env).map (·.2) = assign b X.env :: (assignEach [] X.env).map (·.2) := by rfl)
    (hn : (assignEach [a, b] X.env).length = 2 := by rfl) (hst : (assignEach [a, b] X.env).findIdx? (·.1) = none := by rfl) : PG X (.Tuple [a, b] k pos) (gTup X.K 2 (gCons (gName i) (gCons (gName j) gNil))) := pg_tup G.calm (L2.pgs_cons h1 (L2.pgs_cons h2 L2.pgs_nil hs2) hs) hn hst
theorem tg3 {k j l : Nat} (G : XG X) (h1 : PG X a (gName i)) (h2 : PG X b (gName j)) (h3 : PG X d (gName l)) (hs : (assignEach [a, b, d] X.env).map (·.2) = assign a X.env :: (assignEach [b, d] X.env).map (·.2) := by rfl) (hs2 : (assignEach [b, d] X.env).map (·.2) = assign b X.env :: (assignEach [d] X.env).map (·.2) := by rfl) (hs3 : (assignEach [d] X.env).map (·.2) = assign d X.env :: (assignEach [] X.env).map (·.2) := by rfl)
    (hn : (assignEach [a, b, d] X.env).length = 3 := by rfl) (hst : (assignEach [a, b, d] X.env).findIdx? (·.1) = none := by rfl) : PG X (.Tuple [a, b, d] k pos) (gTup X.K 3 (gCons (gName i) (gCons (gName j) (gCons (gName l) gNil)))) := pg_tup G.calm (L2.pgs_cons h1 (L2.pgs_cons h2 (L2.pgs_cons h3 L2.pgs_nil hs3) hs2) hs) hn hst
theorem xg_blk {s : Shared} {H : Hp} {sc : Scope} {env : Env} {fp : List Addr} (G : XG X) : XG (X.blk s H sc env fp) := ⟨G.calm, G.nd, G.hu⟩
end
end VI

namespace VK
open VI
def c_law_pile : List Sm := [.asg [2] (.con (.int 0)), .ite (.pr .lt [.var 1, .pr .len [.var 0]]) [.asg [2] (.pr .ix [.var 0, .var 1])] [], .asg [3] (.pr .mod [.pr .int1 [.var 2], .pr .mul [.pr .mul [.pr .pow [.con (.int 10), .con (.int 50)], .pr .pow [.con (.int 10), .con (.int 50)]], .pr .pow [.con (.int 10), .con (.int 50)]]]), .ret (.lst [.pr .mul [.var 3, .pr .int1 [.pr .ge [.pr .abs [.var 2], .pr .pow [.con (.int 10), .con (.int 18)]]]], .pr .mod [.pr .int1 [.var 2], .con (.int 2147483647)], .pr .mul [.con (.int 97), .var 1]])]
def c_law_mixed : List Sm := [.asg [2] (.pr .mod [.pr .add [.pr .add [.pr .mul [.pr .mod [.pr .int1 [.var 0], .con (.int 2147483647)], .con (.int 48271)], .pr .mul [.var 1, .con (.int 69621)]], .con (.int 11)], .con (.int 2147483647)]), .asg [2] (.pr .mod [.pr .mul [.var 2, .var 2], .con (.int 2147483629)]), .ret (.pr .fdiv [.pr .mod [.pr .mul [.var 2, .var 2], .con (.int 2147483587)], .con (.int 64)])]
def c_law_take : List Sm := [.ite (.pr .eq [.pr .ix [.var 0, .con (.int 0)], .con (.int 0)]) [.setS .setl 0 (.con (.int 2)) (.pr .add [.pr .ix [.var 0, .con (.int 2)], .con (.int 1)]), .ret (.pr .mod [.call 2 [.pr .ix [.var 0, .con (.int 1)], .pr .ix [.var 0, .con (.int 2)]], .var 1])] [], .asg [2] (.pr .mod [.pr .int1 [.pr .ix [.var 0, .con (.int 0)]], .var 1]), .setS .setl 0 (.con (.int 0)) (.pr .fdiv [.pr .ix [.var 0, .con (.int 0)], .var 1]), .ret (.mov 2)]
def c_law_names : List Sm := [.asg [2] (.con (.str "abcdefghijklmnopqrstuvwxyz")), .asg [3] (.joi "" (.lc [10] .rng1 [.call 3 [.io 0, .con (.int 12)]] [] (.pr .ix [.var 2, .call 3 [.io 0, .con (.int 26)]]))), .asg [4] (.call 3 [.io 0, .pr .add [.pr .len [.var 3], .con (.int 1)]]), .asg [5] (.call 3 [.io 0, .con (.int 26)]), .asg [6] (.pr .ix [.lst [.con (.int 1), .con (.int 3), .con (.int 5), .con (.int 7), .con (.int 9), .con (.int 11), .con (.int 15), .con (.int 17), .con (.int 19), .con (.int 21), .con (.int 23), .con (.int 25)], .call 3 [.io 0, .con (.int 12)]]), .ite (.and (.pr .eq [.pr .mod [.var 5, .con (.int 4)], .con (.int 3)]) (.pr .lt [.var 1, .con (.int 13)])) [.asg [9] (.lst [.con (.str "a"), .con (.str "b"), .con (.str "ab"), .con (.str "c"), .con (.str "ba"), .con (.str "abc"), .con (.str "aa"), .con (.str "bc"), .con (.str "aab"), .con (.str "ca"), .con (.str "cab"), .con (.str "d"), .con (.str "abd"), .con (.str "bca"), .con (.str "e")]), .ret (.slc (.pr .add [.slc (.var 9) [.pr .add [.pr .fdiv [.var 5, .con (.int 4)], .pr .mod [.var 6, .con (.int 4)]]] [], .var 9]) [] [.frv 1])] [], .asg [7] (.pr .mul [.con (.str "a"), .pr .int1 [.pr .lt [.pr .len [.var 3], .con (.int 11)]]]), .asg [8] (.lc [10] .rng1 [.frv 1] [] (.pr .add [.pr .add [.slc (.var 3) [] [.frv 4], .pr .ix [.var 2, .pr .mod [.pr .add [.var 5, .pr .mul [.var 6, .var 10]], .con (.int 26)]]], .slc (.var 3) [.frv 4] []])), .ret (.lc [10, 11] .enum [.frv 8] [] (.pr .add [.var 11, .pr .mul [.var 7, .pr .mod [.var 10, .con (.int 2)]]]))]
def c_law_order : List Sm := [.asg [2] (.pr .lrng [.var 1]), .asg [3] (.lst []), .whl (.pr .ne [.var 2, .lst []]) [.ex (.mt .app (.var 3) [.mt .popa (.var 2) [.call 3 [.io 0, .pr .len [.var 2]]]])], .ret (.mov 3)]
def c_law_entries : List Sm := [.asg [4] (.call 3 [.io 0, .frv 3]), .asg [5] (.call 5 [.io 0, .pr .len [.var 2]]), .asg [6] (.lst []), .for [7, 8] .enum [.frv 2] [.asg [9] (.lc [12, 11] .enum [.frv 2] [.pr .lt [.pr .ix [.var 5, .var 12], .pr .ix [.var 5, .var 7]]] (.frv 11)), .asg [10] (.lc [11] .val [.pr .add [.var 9, .var 1]] [.pr .eq [.call 3 [.io 0, .pr .add [.con (.int 2), .pr .mul [.con (.int 2), .pr .mod [.var 4, .con (.int 2)]]]], .con (.int 0)]] (.frv 11)), .ite (.pr .eq [.var 4, .con (.int 2)]) [.asg [10] (.lc [12, 11] .enum [.frv 2] [.pr .eq [.pr .add [.pr .ix [.var 5, .var 12], .con (.int 1)], .pr .ix [.var 5, .var 7]]] (.frv 11))] [], .ite (.pr .eq [.var 4, .con (.int 3)]) [.asg [10] (.pr .add [.var 9, .slc (.var 1) [] [.con (.int 1)]])] [], .ite (.pr .gt [.var 4, .con (.int 3)]) [.asg [10] (.lc [11] .val [.pr .add [.var 2, .var 1]] [.pr .eq [.call 3 [.io 0, .pr .sub [.con (.int 6), .pr .fdiv [.var 4, .con (.int 5)]]], .con (.int 0)]] (.frv 11))] [], .ite (.pr .eq [.call 3 [.io 0, .con (.int 2)], .con (.int 1)]) [.ex (.mt .rev (.var 10) [])] [], .ex (.mt .app (.var 6) [.tup [.frv 8, .frv 10]])], .ret (.mov 6)]
def c_law_shape : List Sm := [.asg [3] (.call 3 [.io 0, .con (.int 3)]), .asg [4] (.call 4 [.io 0, .pr .add [.pr .add [.var 3, .con (.int 1)], .call 3 [.io 0, .frv 1]]]), .ret (.tup [.slc (.var 4) [] [.frv 3], .call 6 [.io 0, .slc (.var 4) [] [.frv 3], .slc (.var 4) [.frv 3] [], .frv 2]])]
def c_is_name : List Sm := [.ite (.or (.not (.pr (.isi "str") [.var 0])) (.not (.chn .le .le (.con (.int 1)) (.pr .len [.var 0]) (.con (.int 12))))) [.ret (.con (.bl false))] [], .ret (.pr .all [.lc [1] .strS [.frv 0] [] (.pr .mem [.var 1, .glo "LETTERS"])])]
def c_checked_plain : List Sm := [.ite (.not (.pr (.isi "list") [.var 0])) [.never] [], .asg [1] (.lst []), .for [2] .val [.frv 0] [.ite (.or (.not (.call 8 [.frv 2])) (.pr .mem [.var 2, .var 1])) [.never] [], .ex (.mt .app (.var 1) [.frv 2])], .ret (.mov 1)]
def c_checked_computed : List Sm := [.ite (.not (.pr (.isi "list") [.var 0])) [.never] [], .asg [2] (.pr .list [.var 1]), .asg [3] (.lst []), .for [4] .val [.frv 0] [.ite (.or (.not (.pr (.isi "tuple") [.var 4])) (.pr .ne [.pr .len [.var 4], .con (.int 2)])) [.never] [], .asg [5, 6] (.frv 4), .ite (.or (.not (.call 8 [.frv 5])) (.or (.pr .mem [.var 5, .var 2]) (.not (.pr (.isi "list") [.var 6])))) [.never] [], .ex (.mt .app (.var 2) [.frv 5]), .ex (.mt .app (.var 3) [.tup [.frv 5, .pr .list [.var 6]]])], .ite (.pr .gt [.pr .len [.var 2], .glo "MOST_CELLS"]) [.never] [], .for [5, 6] .val [.frv 3] [.for [7, 8] .enum [.frv 6] [.ite (.or (.not (.call 8 [.frv 8])) (.or (.pr .nmem [.var 8, .var 2]) (.pr .mem [.var 8, .slc (.var 6) [] [.frv 7]]))) [.never] []]], .ret (.mov 3)]
def c_Shape___init__ : List Sm := [.setF "Shape" 0 "plain_cells" (.call 9 [.frv 1]), .asg [3] (.call 10 [.frv 2, .fld "Shape" (.var 0) "plain_cells"]), .setF "Shape" 0 "computed_cells" (.lc [4, 5] .val [.frv 3] [] (.frv 4)), .setF "Shape" 0 "reading" (.dc [4, 5] .val [.frv 3] (.frv 4) (.pr .tuple [.var 5])), .setF "Shape" 0 "all_cells" (.pr .add [.fld "Shape" (.var 0) "plain_cells", .fld "Shape" (.var 0) "computed_cells"])]
def c_law_reads : List Sm := [.asg [2] (.dic0), .for [3] .val [.frv 0] [.setS .setd 2 (.frv 3) (.lst [])], .for [3, 4] .val [.frv 1] [.setS .setd 2 (.frv 3) (.pr .list [.var 4])], .ret (.mov 2)]
def c_law_row : List Sm := [.ret (.lc [3] .rng1 [.call 3 [.io 0, .pr .add [.var 2, .con (.int 1)]]] [] (.pr .ix [.pr .ix [.var 1, .call 3 [.io 0, .pr .len [.var 1]]], .con (.int 0)]))]
def c_law_pair_fits : List Sm := [.ite (.pr .mem [.var 1, .pr .ixd [.var 0, .var 1]]) [.ret (.con (.bl true))] [], .asg [3] (.lc [5] .val [.frv 2] [.pr .mem [.var 5, .pr .ixd [.var 0, .var 1]]] (.frv 5)), .asg [4] (.lc [5] .val [.frv 2] [.pr .mem [.var 1, .pr .ixd [.var 0, .var 5]]] (.frv 5)), .ret (.and (.pr .ne [.var 3, .lst []]) (.pr .ne [.var 4, .lst []]))]
def c_law_tight : List Sm := [.asg [2] (.dic0), .for [3, 4] .enum [.frv 1] [.ite (.and (.pr .memd [.var 4, .var 2]) (.not (.call 14 [.frv 0, .frv 4, .slc (.var 1) [.pr .add [.pr .ixd [.var 2, .var 4], .con (.int 1)]] [.frv 3]]))) [.ret (.con (.bl false))] [], .setS .setd 2 (.frv 4) (.frv 3)], .ret (.con (.bl true))]
def c_law_thinned : List Sm := [.asg [2] (.lst []), .for [3] .val [.frv 1] [.ite (.call 15 [.frv 0, .pr .add [.var 2, .lst [.frv 3]]]) [.ex (.mt .app (.var 2) [.frv 3])] []], .ret (.mov 2)]
def c_next_of : List Sm := [.for [2] .rng2 [.pr .add [.var 1, .con (.int 1)], .pr .len [.var 0]] [.ite (.pr .eq [.pr .ix [.var 0, .var 2], .pr .ix [.var 0, .var 1]]) [.ret (.mov 2)] []], .ret (.con .non)]
def c_shortening : List Sm := [.for [2, 3] .enum [.frv 1] [.asg [4] (.call 17 [.frv 1, .frv 2]), .asg [5] (.pr .ixd [.fld "Shape" (.var 0) "reading", .var 3]), .ite (.and (.pr .notN [.var 4]) (.pr .nmem [.var 3, .var 5])) [.asg [6] (.slc (.var 1) [.pr .add [.var 2, .con (.int 1)]] [.frv 4]), .ite (.not (.pr .any [.lc [7] .val [.frv 6] [] (.pr .mem [.var 7, .var 5])])) [.ret (.tup [.con (.str "idle"), .frv 4])] [], .ite (.not (.pr .any [.lc [7] .val [.frv 6] [] (.pr .mem [.var 3, .pr .ixd [.fld "Shape" (.var 0) "reading", .var 7]])])) [.ret (.tup [.con (.str "lost"), .frv 2])] []] []], .ret (.con .non)]
def c_Shape_computed : List Sm := [.ret (.pr .list [.fld "Shape" (.var 0) "computed_cells"])]
def c_checked_row : List Sm := [.ite (.not (.pr (.isi "list") [.var 1])) [.never] [], .asg [2] (.meth "Shape" "computed" 19 (.var 0) []), .for [3, 4] .enum [.slc (.var 1) [] [.glo "MOST"]] [.ite (.or (.not (.pr (.isi "str") [.var 4])) (.pr .nmem [.var 4, .var 2])) [.never] []], .ite (.pr .gt [.pr .len [.var 1], .glo "MOST"]) [.never] [], .ret (.pr .list [.var 1])]
def c_is_tight : List Sm := [.ret (.pr .isN [.call 18 [.frv 0, .call 20 [.frv 0, .frv 1]]])]
def c_law : List Sm := [.for [1] .rng1 [.con (.int 6)] [.asg [2] (.call 1 [.frv 0, .frv 1]), .asg [10, 11] (.call 7 [.io 2, .con (.int 8), .con (.int 6)]), .asg [3] (.mk "Shape" 11 true [.frv 10, .frv 11]), .asg [4] (.call 12 [.frv 10, .frv 11]), .asg [5] (.call 13 [.io 2, .frv 11, .con (.int 40)]), .asg [6] (.call 16 [.frv 4, .frv 5]), .asg [7] (.call 3 [.io 2, .pr .add [.pr .len [.var 6], .con (.int 1)]]), .asg [8] (.pr .ix [.pr .ix [.var 11, .call 3 [.io 2, .pr .len [.var 11]]], .con (.int 0)]), .for [9] .val [.lst [.frv 5, .frv 6, .pr .add [.pr .add [.slc (.var 6) [] [.frv 7], .lst [.frv 8]], .slc (.var 6) [.frv 7] []], .pr .add [.slc (.var 6) [] [.frv 7], .slc (.var 6) [.pr .add [.var 7, .con (.int 1)]] []], .lst []]] [.asg [12] (.pr .list [.var 9]), .for [13] .rng1 [.con (.int 2)] [.asg [14] (.call 21 [.frv 3, .frv 12]), .ite (.or (.not (.pr (.isi "bool") [.var 14])) (.or (.pr .ne [.var 14, .call 15 [.frv 4, .frv 9]]) (.pr .ne [.var 12, .var 9]))) [.ret (.con (.bl false))] []]]], .ret (.con (.bl true))]
def c_law_idle : List Sm := [.asg [3] (.pr .ix [.var 1, .var 2]), .asg [4] (.lc [5] .rng1 [.frv 2] [.pr .eq [.pr .ix [.var 1, .var 5], .var 3]] (.frv 5)), .ite (.or (.pr .eq [.var 4, .lst []]) (.pr .mem [.var 3, .pr .ixd [.var 0, .var 3]])) [.ret (.con (.bl false))] [], .ret (.pr .eq [.lc [6] .val [.slc (.var 1) [.pr .add [.pr .ix [.var 4, .pr .neg [.con (.int 1)]], .con (.int 1)]] [.frv 2]] [.pr .mem [.var 6, .pr .ixd [.var 0, .var 3]]] (.frv 6), .lst []])]
def c_law_lost : List Sm := [.asg [3] (.pr .ix [.var 1, .var 2]), .asg [4] (.lc [5] .rng2 [.pr .add [.var 2, .con (.int 1)], .pr .len [.var 1]] [.pr .eq [.pr .ix [.var 1, .var 5], .var 3]] (.frv 5)), .ite (.or (.pr .eq [.var 4, .lst []]) (.pr .mem [.var 3, .pr .ixd [.var 0, .var 3]])) [.ret (.con (.bl false))] [], .ret (.pr .eq [.lc [6] .val [.slc (.var 1) [.pr .add [.var 2, .con (.int 1)]] [.pr .ix [.var 4, .con (.int 0)]]] [.pr .mem [.var 3, .pr .ixd [.var 0, .var 6]]] (.frv 6), .lst []])]
def c_law_linked : List Sm := [.ret (.or (.pr .eq [.var 1, .var 2]) (.or (.pr .mem [.var 1, .pr .ixd [.var 0, .var 2]]) (.pr .mem [.var 2, .pr .ixd [.var 0, .var 1]])))]
def c_law_after : List Sm := [.ite (.or (.not (.pr (.isi "tuple") [.var 2])) (.or (.pr .ne [.pr .len [.var 2], .con (.int 2)]) (.or (.pr (.isi "bool") [.pr .ix [.var 2, .con (.int 1)]]) (.not (.pr (.isi "int") [.pr .ix [.var 2, .con (.int 1)]]))))) [.ret (.con .non)] [], .asg [3, 4] (.frv 2), .ite (.or (.pr .lt [.var 4, .con (.int 0)]) (.pr .ge [.var 4, .pr .len [.var 1]])) [.ret (.con .non)] [], .ite (.or (.and (.pr .eq [.var 3, .con (.str "idle")]) (.call 23 [.frv 0, .frv 1, .frv 4])) (.and (.pr .eq [.var 3, .con (.str "lost")]) (.call 24 [.frv 0, .frv 1, .frv 4]))) [.ret (.pr .add [.slc (.var 1) [] [.frv 4], .slc (.var 1) [.pr .add [.var 4, .con (.int 1)]] []])] [], .ite (.and (.pr .eq [.var 3, .con (.str "swap")]) (.and (.pr .lt [.pr .add [.var 4, .con (.int 1)], .pr .len [.var 1]]) (.not (.call 25 [.frv 0, .pr .ix [.var 1, .var 4], .pr .ix [.var 1, .pr .add [.var 4, .con (.int 1)]]])))) [.ret (.pr .add [.pr .add [.slc (.var 1) [] [.frv 4], .lst [.pr .ix [.var 1, .pr .add [.var 4, .con (.int 1)]], .pr .ix [.var 1, .var 4]]], .slc (.var 1) [.pr .add [.var 4, .con (.int 2)]] []])] [], .ret (.con .non)]
def c_law_steps : List Sm := [.asg [3] (.lst []), .asg [4] (.pr .list [.var 2]), .for [5] .rng1 [.call 3 [.io 0, .con (.int 11)]] [.asg [6] (.pr .add [.lc [9] .rng1 [.pr .len [.var 4]] [] (.tup [.con (.str "idle"), .frv 9]), .lc [9] .rng1 [.pr .len [.var 4]] [] (.tup [.con (.str "lost"), .frv 9])]), .asg [6] (.pr .add [.var 6, .lc [9] .rng1 [.pr .len [.var 4]] [] (.tup [.con (.str "swap"), .frv 9])]), .asg [7] (.lc [8] .val [.frv 6] [.pr .notN [.call 26 [.frv 1, .frv 4, .frv 8]]] (.frv 8)), .ite (.pr .ne [.var 7, .lst []]) [.asg [8] (.pr .ix [.var 7, .call 3 [.io 0, .pr .len [.var 7]]]), .ex (.mt .app (.var 3) [.frv 8]), .asg [4] (.call 26 [.frv 1, .frv 4, .frv 8])] []], .ret (.mov 3)]
def c_law_bent : List Sm := [.asg [3] (.call 3 [.io 0, .pr .add [.pr .len [.var 1], .con (.int 1)]]), .asg [4] (.call 3 [.io 0, .pr .add [.var 2, .con (.int 2)]]), .asg [5] (.pr .ix [.lst [.con (.str "idle"), .con (.str "lost"), .con (.str "swap")], .call 3 [.io 0, .con (.int 3)]]), .asg [6] (.lst [.tup [.con (.str "drop"), .frv 4], .tup [.frv 5, .pr .sub [.pr .sub [.con (.int 0), .con (.int 1)], .var 4]], .tup [.frv 5, .frv 2], .tup [.frv 5, .con (.bl true)], .tup [.frv 5], .tup [.frv 5, .frv 4, .frv 4], .lst [.frv 5, .frv 4], .frv 5, .con .non]), .asg [6] (.pr .add [.var 6, .lst [.tup [.frv 5, .con .non], .tup [.con (.str ""), .frv 4], .tup [.frv 4, .frv 5], .tup [.frv 5, .pr .pow [.con (.int 10), .con (.int 20)]], .tup [.frv 5, .frv 4], .tup [.frv 5, .frv 4]]]), .asg [6] (.pr .add [.var 6, .lst [.tup [.lst [.frv 5], .frv 4], .tup [.con .non, .frv 4], .tup [.frv 5, .pr .str1 [.var 4]]]]), .ret (.pr .add [.pr .add [.slc (.var 1) [] [.frv 3], .lst [.pr .ix [.var 6, .call 3 [.io 0, .pr .len [.var 6]]]]], .slc (.var 1) [.frv 3] []])]
def c_step_fits : List Sm := [.ite (.or (.not (.pr (.isi "tuple") [.var 1])) (.or (.pr .ne [.pr .len [.var 1], .con (.int 2)]) (.pr .nmem [.pr .ix [.var 1, .con (.int 0)], .tup [.con (.str "idle"), .con (.str "lost"), .con (.str "swap")]]))) [.ret (.con (.bl false))] [], .asg [2, 3] (.frv 1), .ite (.or (.pr (.isi "bool") [.var 3]) (.not (.pr (.isi "int") [.var 3]))) [.ret (.con (.bl false))] [], .ret (.chn .le .lt (.con (.int 0)) (.frv 3) (.pr .sub [.pr .len [.var 0], .pr .int1 [.pr .eq [.var 2, .con (.str "swap")]]]))]
def c_next_of_2 : List Sm := [.for [2] .rng2 [.pr .add [.var 1, .con (.int 1)], .pr .len [.var 0]] [.ite (.pr .eq [.pr .ix [.var 0, .var 2], .pr .ix [.var 0, .var 1]]) [.ret (.mov 2)] []], .ret (.con .non)]
def c_are_related : List Sm := [.ite (.pr .eq [.var 1, .var 2]) [.ret (.con (.bl true))] [], .ret (.or (.pr .mem [.var 2, .dgt (.fld "Shape" (.var 0) "reading") (.frv 1) (.tup [])]) (.pr .mem [.var 1, .dgt (.fld "Shape" (.var 0) "reading") (.frv 2) (.tup [])]))]
def c_step_allowed : List Sm := [.asg [4] (.pr .ix [.var 1, .var 3]), .asg [5] (.pr .ixd [.fld "Shape" (.var 0) "reading", .var 4]), .ite (.pr .eq [.var 2, .con (.str "swap")]) [.ret (.not (.call 31 [.frv 0, .frv 4, .pr .ix [.var 1, .pr .add [.var 3, .con (.int 1)]]]))] [], .ite (.pr .eq [.var 2, .con (.str "idle")]) [.asg [7] (.lc [8] .rng1 [.frv 3] [.pr .eq [.pr .ix [.var 1, .var 8], .var 4]] (.frv 8)), .ret (.and (.pr .ne [.var 7, .lst []]) (.and (.pr .nmem [.var 4, .var 5]) (.not (.pr .any [.lc [9] .val [.slc (.var 1) [.pr .ix [.var 7, .pr .neg [.con (.int 1)]]] [.frv 3]] [] (.pr .mem [.var 9, .var 5])]))))] [], .asg [6] (.call 30 [.io 1, .frv 3]), .ite (.or (.pr .isN [.var 6]) (.pr .mem [.var 4, .var 5])) [.ret (.con (.bl false))] [], .ret (.not (.pr .any [.lc [9] .val [.slc (.var 1) [.frv 3] [.frv 6]] [] (.pr .mem [.var 4, .pr .ixd [.fld "Shape" (.var 0) "reading", .var 9]])]))]
def c_after_steps : List Sm := [.asg [3] (.call 20 [.frv 0, .frv 1]), .for [4] .val [.frv 2] [.ite (.not (.call 29 [.io 3, .frv 4])) [.ret (.con .non)] [], .asg [6, 7] (.frv 4), .ite (.not (.call 32 [.frv 0, .io 3, .frv 6, .frv 7])) [.ret (.con .non)] [], .asg [5] (.mt .popa (.var 3) [.frv 7]), .ite (.pr .eq [.var 6, .con (.str "swap")]) [.ex (.mt .insr (.var 3) [.pr .add [.var 7, .con (.int 1)], .frv 5])] []], .ret (.mov 3)]
def c_law_2 : List Sm := [.for [1] .rng1 [.con (.int 4)] [.asg [2] (.call 1 [.frv 0, .frv 1]), .asg [11, 12] (.call 7 [.io 2, .con (.int 8), .con (.int 6)]), .asg [3] (.mk "Shape" 11 true [.frv 11, .frv 12]), .asg [4] (.call 12 [.frv 11, .frv 12]), .asg [5] (.call 13 [.io 2, .frv 12, .con (.int 14)]), .asg [6] (.call 27 [.io 2, .frv 4, .frv 5]), .ite (.pr .eq [.call 3 [.io 2, .con (.int 4)], .con (.int 0)]) [.asg [6] (.call 28 [.io 2, .frv 6, .pr .len [.var 5]])] [], .asg [7] (.pr .list [.var 5]), .for [8] .val [.frv 6] [.ite (.pr .notN [.var 7]) [.asg [7] (.call 26 [.frv 4, .frv 7, .frv 8])] []], .asg [9] (.lst [.pr .list [.var 5], .pr .list [.var 6]]), .for [10] .rng1 [.con (.int 2)] [.asg [13] (.call 33 [.frv 3, .pr .ix [.var 9, .con (.int 0)], .pr .ix [.var 9, .con (.int 1)]]), .ite (.or (.pr .ne [.var 13, .var 7]) (.pr .ne [.var 9, .lst [.frv 5, .frv 6]])) [.ret (.con (.bl false))] [], .ite (.pr .notN [.var 13]) [.ex (.mt .app (.var 13) [.con (.str "x")])] []]], .ret (.con (.bl true))]
end VK

namespace VK
open PySem L2 PyProof.Rows VI
def top (i : Nat) : Stmt := PySem.Challenge.pw_recalcrows_k08_steps_taken.main.body.getD i (.Pass ⟨0, 0, 0, 0⟩)
def clsB : Stmt → List Stmt
  | .ClassDef (body := b) .. => b
  | _ => []
def mth (i j : Nat) : Stmt := (clsB (top i)).getD j (.Pass ⟨0, 0, 0, 0⟩)
def T_0 : Tab := ⟨fun x => if x = "LETTERS" then some (.str "abcdefghijklmnopqrstuvwxyz") else if x = "MOST" then some (.int 120) else if x = "MOST_CELLS" then some (.int 12) else none, fun _ _ _ => none, 1000000⟩
/-- _law_pile -/
theorem sc_law_pile : FnScope ["_law_script", "_law_k", "_law_cell", "_law_great"] ["_law_script", "_law_k"] (defScope (top 25)) := ⟨rfl, rfl, rfl, by decide +kernel, rfl, by decide +kernel, by decide +kernel⟩
def F_law_pile : List D → List RO → Option CR := runF T_0 2 4 [] c_law_pile
def T_law_pile : Tab := T_0.ext 1 F_law_pile
theorem ok_law_pile {P : Program} {w : World} {K : PySem.W.Frag} {mg : Str → Option Value} {base : Heap} {ct : Str → Addr} {fa : Addr} {fd : FuncData} (F : FunD K "_law_pile" "_law_pile" (defArgs (top 25)) (defBody (top 25)) (defScope (top 25)) [] [] fa fd) (f_len : mg "len" = none) (f_int : mg "int" = none) (f_abs : mg "abs" = none) :
    Dg P w K mg base ct 1 fa 2 F_law_pile := by
  refine dg_of (N := ["_law_script", "_law_k", "_law_cell", "_law_great"]) (ps := ["_law_script", "_law_k"]) (k := 0) (Pn := []) (T := T_0) (body := c_law_pile) F sc_law_pile rfl rfl (F.bindsN fun _ _ _ _ _ _ us hl => match us, hl with | [_, _], _ => rfl) fun cdv A outer s H E hr => ?_
  have G := xg_of (X := cxOf (L2.CX P w) P w K mg base ["_law_script", "_law_k", "_law_cell", "_law_great"] "_law_pile" (defScope (top 25)) fa cdv A outer s H E) rfl sc_law_pile.nd hr
  have tk := takes_of (X := cxOf (L2.CX P w) P w K mg base ["_law_script", "_law_k", "_law_cell", "_law_great"] "_law_pile" (defScope (top 25)) fa cdv A outer s H E) rfl rfl rfl rfl
  have hp := passes_of (X := cxOf (L2.CX P w) P w K mg base ["_law_script", "_law_k", "_law_cell", "_law_great"] "_law_pile" (defScope (top 25)) fa cdv A outer s H E) rfl
  exact (r_cons (r_set G rfl (.inl rfl) (gq ki))
  (r_cons (r_if (t_of (kv_q (k_cmp o_lt (vq vt) (q_len f_len (vq vt))))) (r_cons (r_set G rfl (.inl rfl) (gq (q_ix (vq vt) (vq vt))))
  r_nil) r_nil)
  (r_cons (r_set G rfl (.inl rfl) (g_bin o_mod (aq (q_int f_int (vq vt))) (ag (g_bin o_mul (ag (g_bin o_mul (aq (q_bin o_pow ki ki)) (aq (q_bin o_pow ki ki)))) (aq (q_bin o_pow ki ki))))))
  (r_cons (r_ret (g_lst (pfs_cons (g_bin o_mul (va vt) (aq (q_int f_int (q_of (k_cmp o_ge (q_abs f_abs (vq vt)) (q_bin o_pow ki ki)))))) (pfs_cons (gq (q_bin o_mod (q_int f_int (vq vt)) ki)) (pfs_cons (g_bin o_mul (aq ki) (va vt)) pfs_nil)))))
  r_nil))))
/-- _law_mixed -/
theorem sc_law_mixed : FnScope ["_law_cell", "_law_k", "_law_number"] ["_law_cell", "_law_k"] (defScope (top 24)) := ⟨rfl, rfl, rfl, by decide +kernel, rfl, by decide +kernel, by decide +kernel⟩
def F_law_mixed : List D → List RO → Option CR := runF T_law_pile 2 3 [] c_law_mixed
def T_law_mixed : Tab := T_law_pile.ext 2 F_law_mixed
theorem ok_law_mixed {P : Program} {w : World} {K : PySem.W.Frag} {mg : Str → Option Value} {base : Heap} {ct : Str → Addr} {fa : Addr} {fd : FuncData} (F : FunD K "_law_mixed" "_law_mixed" (defArgs (top 24)) (defBody (top 24)) (defScope (top 24)) [] [] fa fd) (f_int : mg "int" = none) :
    Dg P w K mg base ct 1 fa 2 F_law_mixed := by
  refine dg_of (N := ["_law_cell", "_law_k", "_law_number"]) (ps := ["_law_cell", "_law_k"]) (k := 0) (Pn := []) (T := T_law_pile) (body := c_law_mixed) F sc_law_mixed rfl rfl (F.bindsN fun _ _ _ _ _ _ us hl => match us, hl with | [_, _], _ => rfl) fun cdv A outer s H E hr => ?_
  have G := xg_of (X := cxOf (L2.CX P w) P w K mg base ["_law_cell", "_law_k", "_law_number"] "_law_mixed" (defScope (top 24)) fa cdv A outer s H E) rfl sc_law_mixed.nd hr
  have tk := takes_of (X := cxOf (L2.CX P w) P w K mg base ["_law_cell", "_law_k", "_law_number"] "_law_mixed" (defScope (top 24)) fa cdv A outer s H E) rfl rfl rfl rfl
  have hp := passes_of (X := cxOf (L2.CX P w) P w K mg base ["_law_cell", "_law_k", "_law_number"] "_law_mixed" (defScope (top 24)) fa cdv A outer s H E) rfl
  exact (r_cons (r_set G rfl (.inl rfl) (g_bin o_mod (ag (g_bin o_add (ag (g_bin o_add (ag (g_bin o_mul (aq (q_bin o_mod (q_int f_int (vq vt)) ki)) (aq ki))) (ag (g_bin o_mul (va vt) (aq ki))))) (aq ki))) (aq ki)))
  (r_cons (r_set G rfl (.inl rfl) (g_bin o_mod (ag (g_bin o_mul (va vt) (va vt))) (aq ki)))
  (r_cons (r_ret (g_bin o_fdiv (ag (g_bin o_mod (ag (g_bin o_mul (va vt) (va vt))) (aq ki))) (aq ki)))
  r_nil)))
/-- _law_take -/
theorem sc_law_take : FnScope ["_law_pile_here", "_law_many", "_law_digit"] ["_law_pile_here", "_law_many"] (defScope (top 26)) := ⟨rfl, rfl, rfl, by decide +kernel, rfl, by decide +kernel, by decide +kernel⟩
def F_law_take : List D → List RO → Option CR := runF T_law_mixed 2 3 [0] c_law_take
def T_law_take : Tab := T_law_mixed.ext 3 F_law_take
theorem ok_law_take {P : Program} {w : World} {K : PySem.W.Frag} {mg : Str → Option Value} {base : Heap} {ct : Str → Addr} {fa a__law_mixed : Addr} {fd : FuncData} (F : FunD K "_law_take" "_law_take" (defArgs (top 26)) (defBody (top 26)) (defScope (top 26)) [] [] fa fd) (d__law_mixed : Dg P w K mg base ct 1 a__law_mixed 2 F_law_mixed) (g__law_mixed : mg "_law_mixed" = some (.ref a__law_mixed)) (f_int : mg "int" = none) :
    Dg P w K mg base ct 2 fa 2 F_law_take := by
  refine dg_of (N := ["_law_pile_here", "_law_many", "_law_digit"]) (ps := ["_law_pile_here", "_law_many"]) (k := 1) (Pn := [0]) (T := T_law_mixed) (body := c_law_take) F sc_law_take rfl rfl (F.bindsN fun _ _ _ _ _ _ us hl => match us, hl with | [_, _], _ => rfl) fun cdv A outer s H E hr => ?_
  have G := xg_of (X := cxOf (L2.CX P w) P w K mg base ["_law_pile_here", "_law_many", "_law_digit"] "_law_take" (defScope (top 26)) fa cdv A outer s H E) rfl sc_law_take.nd hr
  have tk := takes_of (X := cxOf (L2.CX P w) P w K mg base ["_law_pile_here", "_law_many", "_law_digit"] "_law_take" (defScope (top 26)) fa cdv A outer s H E) rfl rfl rfl rfl
  have hp := passes_of (X := cxOf (L2.CX P w) P w K mg base ["_law_pile_here", "_law_many", "_law_digit"] "_law_take" (defScope (top 26)) fa cdv A outer s H E) rfl
  exact (r_cons (r_if (t_of (kv_q (k_cmp (o_eq (G).h64) (q_ix (vq vt) ki) ki))) (r_cons (r_setl vt (gq ki) (g_bin o_add (aq (q_ix (vq vt) ki)) (aq ki)))
  (r_cons (r_ret (g_bin o_mod (ag (g_call (df_of d__law_mixed rfl hr (by decide)) tk rfl g__law_mixed (pgs_cons (gg (gq (q_ix (vq vt) ki))) (pgs_cons (gg (gq (q_ix (vq vt) ki))) pgs_nil)))) (va vt)))
  r_nil)) r_nil)
  (r_cons (r_set G rfl (.inl rfl) (gq (q_bin o_mod (q_int f_int (q_ix (vq vt) ki)) (vq vt))))
  (r_cons (r_setl vt (gq ki) (gq (q_bin o_fdiv (q_ix (vq vt) ki) (vq vt))))
  (r_cons (r_ret (vm vt))
  r_nil))))
/-- _law_names -/
theorem sc_law_names : FnScope ["_law_pile_here", "_law_many", "_law_letters", "_law_stem", "_law_at", "_law_shift", "_law_step", "_law_tail", "_law_some", "_law_plain", "_law_k", "_law_name"] ["_law_pile_here", "_law_many"] (defScope (top 27)) := ⟨rfl, rfl, rfl, by decide +kernel, rfl, by decide +kernel, by decide +kernel⟩
def F_law_names : List D → List RO → Option CR := runF T_law_take 2 12 [0] c_law_names
def T_law_names : Tab := T_law_take.ext 4 F_law_names
theorem ok_law_names {P : Program} {w : World} {K : PySem.W.Frag} {mg : Str → Option Value} {base : Heap} {ct : Str → Addr} {fa a__law_take : Addr} {fd : FuncData} (F : FunD K "_law_names" "_law_names" (defArgs (top 27)) (defBody (top 27)) (defScope (top 27)) [] [] fa fd) (d__law_take : Dg P w K mg base ct 2 a__law_take 2 F_law_take) (g__law_take : mg "_law_take" = some (.ref a__law_take)) (f_range : mg "range" = none) (f_len : mg "len" = none) (f_int : mg "int" = none) (f_enumerate : mg "enumerate" = none) :
    Dg P w K mg base ct 3 fa 2 F_law_names := by
  refine dg_of (N := ["_law_pile_here", "_law_many", "_law_letters", "_law_stem", "_law_at", "_law_shift", "_law_step", "_law_tail", "_law_some", "_law_plain", "_law_k", "_law_name"]) (ps := ["_law_pile_here", "_law_many"]) (k := 2) (Pn := [0]) (T := T_law_take) (body := c_law_names) F sc_law_names rfl rfl (F.bindsN fun _ _ _ _ _ _ us hl => match us, hl with | [_, _], _ => rfl) fun cdv A outer s H E hr => ?_
  have G := xg_of (X := cxOf (L2.CX P w) P w K mg base ["_law_pile_here", "_law_many", "_law_letters", "_law_stem", "_law_at", "_law_shift", "_law_step", "_law_tail", "_law_some", "_law_plain", "_law_k", "_law_name"] "_law_names" (defScope (top 27)) fa cdv A outer s H E) rfl sc_law_names.nd hr
  have tk := takes_of (X := cxOf (L2.CX P w) P w K mg base ["_law_pile_here", "_law_many", "_law_letters", "_law_stem", "_law_at", "_law_shift", "_law_step", "_law_tail", "_law_some", "_law_plain", "_law_k", "_law_name"] "_law_names" (defScope (top 27)) fa cdv A outer s H E) rfl rfl rfl rfl
  have hp := passes_of (X := cxOf (L2.CX P w) P w K mg base ["_law_pile_here", "_law_many", "_law_letters", "_law_stem", "_law_at", "_law_shift", "_law_step", "_law_tail", "_law_some", "_law_plain", "_law_k", "_law_name"] "_law_names" (defScope (top 27)) fa cdv A outer s H E) rfl
  exact (r_cons (r_set G rfl (.inr rfl) (gq ks))
  (r_cons (r_set G rfl (.inr rfl) (g_joi (g_lc (own := [("_law_k", 10)]) G (s_rng1 rfl f_range (g_call (df_of d__law_take rfl hr (by decide)) tk rfl g__law_take (pgs_cons (pg_io vt) (pgs_cons (gg (gq ki)) pgs_nil)))) gb1 rfl (blkOk_by (by kernel_rfl)) (fun _ _ _ _ _ => (tg1 (xg_blk G))) (fun _ _ _ _ _ => pcs_nil) (fun _ _ _ _ _ => (g_ix (va vt) (ag (g_call (df_of d__law_take rfl hr (by decide)) L2.takes0 rfl g__law_take (pgs_cons (pg_io vt) (pgs_cons (gg (gq ki)) pgs_nil)))))))))
  (r_cons (r_set G rfl (.inr rfl) (g_call (df_of d__law_take rfl hr (by decide)) tk rfl g__law_take (pgs_cons (pg_io vt) (pgs_cons (gg (g_bin o_add (aq (q_len f_len (vq vt))) (aq ki))) pgs_nil))))
  (r_cons (r_set G rfl (.inr rfl) (g_call (df_of d__law_take rfl hr (by decide)) tk rfl g__law_take (pgs_cons (pg_io vt) (pgs_cons (gg (gq ki)) pgs_nil))))
  (r_cons (r_set G rfl (.inr rfl) (g_ix (ag (g_lst (pfs_cons (gq ki) (pfs_cons (gq ki) (pfs_cons (gq ki) (pfs_cons (gq ki) (pfs_cons (gq ki) (pfs_cons (gq ki) (pfs_cons (gq ki) (pfs_cons (gq ki) (pfs_cons (gq ki) (pfs_cons (gq ki) (pfs_cons (gq ki) (pfs_cons (gq ki) pfs_nil)))))))))))))) (ag (g_call (df_of d__law_take rfl hr (by decide)) tk rfl g__law_take (pgs_cons (pg_io vt) (pgs_cons (gg (gq ki)) pgs_nil))))))
  (r_cons (r_if (ptc_w (pwc_and (t_of (kv_q (k_cmp (o_eq (G).h64) (q_bin o_mod (vq vt) ki) ki))) (pwc_and1 (t_of (kv_q (k_cmp o_lt (vq vt) ki)))))) (r_cons (r_set G rfl (.inl rfl) (g_lst (pfs_cons (gq ks) (pfs_cons (gq ks) (pfs_cons (gq ks) (pfs_cons (gq ks) (pfs_cons (gq ks) (pfs_cons (gq ks) (pfs_cons (gq ks) (pfs_cons (gq ks) (pfs_cons (gq ks) (pfs_cons (gq ks) (pfs_cons (gq ks) (pfs_cons (gq ks) (pfs_cons (gq ks) (pfs_cons (gq ks) (pfs_cons (gq ks) pfs_nil)))))))))))))))))
  (r_cons (r_ret (sl01 (ag (g_bin o_add (ag (sl10 (va vt) (g_bin o_add (aq (q_bin o_fdiv (vq vt) ki)) (aq (q_bin o_mod (vq vt) ki))))) (va vt))) (vf vt)))
  r_nil)) r_nil)
  (r_cons (r_set G rfl (.inr rfl) (g_bin o_mul (aq ks) (aq (q_int f_int (q_of (k_cmp o_lt (q_len f_len (vq vt)) ki))))))
  (r_cons (r_setLc (own := [("_law_k", 10)]) G rfl rfl (sw_true rfl rfl rfl rfl) (s_rng1 rfl f_range (vf vt)) gb1 rfl (blkOk_by (by kernel_rfl)) (fun _ _ _ _ _ => (tg1 (xg_blk G))) (fun _ _ _ _ _ => pcs_nil) (fun _ _ _ _ _ => (g_bin o_add (ag (g_bin o_add (ag (sl01 (va vt) (vf vt))) (ag (g_ix (va vt) (ag (g_bin o_mod (ag (g_bin o_add (va vt) (ag (g_bin o_mul (va vt) (va vt))))) (aq ki))))))) (ag (sl10 (va vt) (vf vt))))))
  (r_cons (r_ret (g_lc (own := [("_law_k", 10), ("_law_name", 11)]) G (s_enum rfl f_enumerate (vf vt)) gb2 rfl (blkOk_by (by kernel_rfl)) (fun _ _ _ _ _ => (tg2 (xg_blk G) (tg1 (xg_blk G)) (tg1 (xg_blk G)))) (fun _ _ _ _ _ => pcs_nil) (fun _ _ _ _ _ => (g_bin o_add (va vt) (ag (g_bin o_mul (va vt) (aq (q_bin o_mod (vq vt) ki))))))))
  r_nil)))))))))
/-- _law_order -/
theorem sc_law_order : FnScope ["_law_pile_here", "_law_many", "_law_left", "_law_found"] ["_law_pile_here", "_law_many"] (defScope (top 28)) := ⟨rfl, rfl, rfl, by decide +kernel, rfl, by decide +kernel, by decide +kernel⟩
def F_law_order : List D → List RO → Option CR := runF T_law_names 2 4 [0] c_law_order
def T_law_order : Tab := T_law_names.ext 5 F_law_order
theorem ok_law_order {P : Program} {w : World} {K : PySem.W.Frag} {mg : Str → Option Value} {base : Heap} {ct : Str → Addr} {fa a__law_take : Addr} {fd : FuncData} (F : FunD K "_law_order" "_law_order" (defArgs (top 28)) (defBody (top 28)) (defScope (top 28)) [] [] fa fd) (f_list : mg "list" = none) (f_range : mg "range" = none) (f_len : mg "len" = none) (d__law_take : Dg P w K mg base ct 2 a__law_take 2 F_law_take) (g__law_take : mg "_law_take" = some (.ref a__law_take)) :
    Dg P w K mg base ct 3 fa 2 F_law_order := by
  refine dg_of (N := ["_law_pile_here", "_law_many", "_law_left", "_law_found"]) (ps := ["_law_pile_here", "_law_many"]) (k := 2) (Pn := [0]) (T := T_law_names) (body := c_law_order) F sc_law_order rfl rfl (F.bindsN fun _ _ _ _ _ _ us hl => match us, hl with | [_, _], _ => rfl) fun cdv A outer s H E hr => ?_
  have G := xg_of (X := cxOf (L2.CX P w) P w K mg base ["_law_pile_here", "_law_many", "_law_left", "_law_found"] "_law_order" (defScope (top 28)) fa cdv A outer s H E) rfl sc_law_order.nd hr
  have tk := takes_of (X := cxOf (L2.CX P w) P w K mg base ["_law_pile_here", "_law_many", "_law_left", "_law_found"] "_law_order" (defScope (top 28)) fa cdv A outer s H E) rfl rfl rfl rfl
  have hp := passes_of (X := cxOf (L2.CX P w) P w K mg base ["_law_pile_here", "_law_many", "_law_left", "_law_found"] "_law_order" (defScope (top 28)) fa cdv A outer s H E) rfl
  exact (r_cons (r_set G rfl (.inl rfl) (g_lrng G rfl f_list rfl f_range (va vt)))
  (r_cons (r_set G rfl (.inl rfl) (g_lst pfs_nil))
  (r_cons (r_while hp (t_of (kv_cmp (o_ne (G).h64) (va vt) (ag (g_lst pfs_nil)))) (r_cons (r_ex (g_app vt (g_popa vt (g_call (df_of d__law_take rfl hr (by decide)) tk rfl g__law_take (pgs_cons (pg_io vt) (pgs_cons (gg (gq (q_len f_len (vq vt)))) pgs_nil))))))
  r_nil))
  (r_cons (r_ret (vm vt))
  r_nil))))
/-- _law_entries -/
theorem sc_law_entries : FnScope ["_law_pile_here", "_law_plain", "_law_computed", "_law_ways", "_law_way", "_law_order_here", "_law_found", "_law_k", "_law_name", "_law_ahead", "_law_some", "_law_one", "_law_j"] ["_law_pile_here", "_law_plain", "_law_computed", "_law_ways"] (defScope (top 29)) := ⟨rfl, rfl, rfl, by decide +kernel, rfl, by decide +kernel, by decide +kernel⟩
def F_law_entries : List D → List RO → Option CR := runF T_law_order 4 13 [0] c_law_entries
def T_law_entries : Tab := T_law_order.ext 6 F_law_entries
theorem ok_law_entries {P : Program} {w : World} {K : PySem.W.Frag} {mg : Str → Option Value} {base : Heap} {ct : Str → Addr} {fa a__law_order a__law_take : Addr} {fd : FuncData} (F : FunD K "_law_entries" "_law_entries" (defArgs (top 29)) (defBody (top 29)) (defScope (top 29)) [] [] fa fd) (d__law_take : Dg P w K mg base ct 2 a__law_take 2 F_law_take) (g__law_take : mg "_law_take" = some (.ref a__law_take)) (f_len : mg "len" = none) (d__law_order : Dg P w K mg base ct 3 a__law_order 2 F_law_order) (g__law_order : mg "_law_order" = some (.ref a__law_order)) (f_enumerate : mg "enumerate" = none) :
    Dg P w K mg base ct 4 fa 4 F_law_entries := by
  refine dg_of (N := ["_law_pile_here", "_law_plain", "_law_computed", "_law_ways", "_law_way", "_law_order_here", "_law_found", "_law_k", "_law_name", "_law_ahead", "_law_some", "_law_one", "_law_j"]) (ps := ["_law_pile_here", "_law_plain", "_law_computed", "_law_ways"]) (k := 3) (Pn := [0]) (T := T_law_order) (body := c_law_entries) F sc_law_entries rfl rfl (F.bindsN fun _ _ _ _ _ _ us hl => match us, hl with | [_, _, _, _], _ => rfl) fun cdv A outer s H E hr => ?_
  have G := xg_of (X := cxOf (L2.CX P w) P w K mg base ["_law_pile_here", "_law_plain", "_law_computed", "_law_ways", "_law_way", "_law_order_here", "_law_found", "_law_k", "_law_name", "_law_ahead", "_law_some", "_law_one", "_law_j"] "_law_entries" (defScope (top 29)) fa cdv A outer s H E) rfl sc_law_entries.nd hr
  have tk := takes_of (X := cxOf (L2.CX P w) P w K mg base ["_law_pile_here", "_law_plain", "_law_computed", "_law_ways", "_law_way", "_law_order_here", "_law_found", "_law_k", "_law_name", "_law_ahead", "_law_some", "_law_one", "_law_j"] "_law_entries" (defScope (top 29)) fa cdv A outer s H E) rfl rfl rfl rfl
  have hp := passes_of (X := cxOf (L2.CX P w) P w K mg base ["_law_pile_here", "_law_plain", "_law_computed", "_law_ways", "_law_way", "_law_order_here", "_law_found", "_law_k", "_law_name", "_law_ahead", "_law_some", "_law_one", "_law_j"] "_law_entries" (defScope (top 29)) fa cdv A outer s H E) rfl
  exact (r_cons (r_set G rfl (.inr rfl) (g_call (df_of d__law_take rfl hr (by decide)) tk rfl g__law_take (pgs_cons (pg_io vt) (pgs_cons (gg (vf vt)) pgs_nil))))
  (r_cons (r_set G rfl (.inr rfl) (g_call (df_of d__law_order rfl hr (by decide)) tk rfl g__law_order (pgs_cons (pg_io vt) (pgs_cons (gg (gq (q_len f_len (vq vt)))) pgs_nil))))
  (r_cons (r_set G rfl (.inl rfl) (g_lst pfs_nil))
  (r_cons (r_for G hp (s_enum rfl f_enumerate (vf vt)) (tg2 G (tg1 G) (tg1 G)) gb2 (r_cons (r_setLc (own := [("_law_j", 12), ("_law_one", 11)]) G rfl rfl (sw_true rfl rfl rfl rfl) (s_enum rfl f_enumerate (vf vt)) gb2 rfl (blkOk_by (by kernel_rfl)) (fun _ _ _ _ _ => (tg2 (xg_blk G) (tg1 (xg_blk G)) (tg1 (xg_blk G)))) (fun _ _ _ _ _ => (pcs_one (t_of (kv_q (k_cmp o_lt (q_ix (vq vt) (vq vt)) (q_ix (vq vt) (vq vt))))))) (fun _ _ _ _ _ => (vf vt)))
  (r_cons (r_setLc (own := [("_law_one", 11)]) G rfl rfl (sw_true rfl rfl rfl rfl) (s_list (g_bin o_add (va vt) (va vt))) gb1 rfl (blkOk_by (by kernel_rfl)) (fun _ _ _ _ _ => (tg1 (xg_blk G))) (fun _ _ _ _ _ => (pcs_one (t_of (kv_cmp (o_eq ((xg_blk G)).h64) (ag (g_call (df_of d__law_take rfl hr (by decide)) L2.takes0 rfl g__law_take (pgs_cons (pg_io vt) (pgs_cons (gg (g_bin o_add (aq ki) (ag (g_bin o_mul (aq ki) (aq (q_bin o_mod (vq vt) ki)))))) pgs_nil)))) (aq ki))))) (fun _ _ _ _ _ => (vf vt)))
  (r_cons (r_if (t_of (kv_q (k_cmp (o_eq (G).h64) (vq vt) ki))) (r_cons (r_setLc (own := [("_law_j", 12), ("_law_one", 11)]) G rfl rfl (sw_true rfl rfl rfl rfl) (s_enum rfl f_enumerate (vf vt)) gb2 rfl (blkOk_by (by kernel_rfl)) (fun _ _ _ _ _ => (tg2 (xg_blk G) (tg1 (xg_blk G)) (tg1 (xg_blk G)))) (fun _ _ _ _ _ => (pcs_one (t_of (kv_cmp (o_eq ((xg_blk G)).h64) (ag (g_bin o_add (aq (q_ix (vq vt) (vq vt))) (aq ki))) (aq (q_ix (vq vt) (vq vt))))))) (fun _ _ _ _ _ => (vf vt)))
  r_nil) r_nil)
  (r_cons (r_if (t_of (kv_q (k_cmp (o_eq (G).h64) (vq vt) ki))) (r_cons (r_set G rfl (.inl rfl) (g_bin o_add (va vt) (ag (sl01 (va vt) (gq ki)))))
  r_nil) r_nil)
  (r_cons (r_if (t_of (kv_q (k_cmp o_gt (vq vt) ki))) (r_cons (r_setLc (own := [("_law_one", 11)]) G rfl rfl (sw_true rfl rfl rfl rfl) (s_list (g_bin o_add (va vt) (va vt))) gb1 rfl (blkOk_by (by kernel_rfl)) (fun _ _ _ _ _ => (tg1 (xg_blk G))) (fun _ _ _ _ _ => (pcs_one (t_of (kv_cmp (o_eq ((xg_blk G)).h64) (ag (g_call (df_of d__law_take rfl hr (by decide)) L2.takes0 rfl g__law_take (pgs_cons (pg_io vt) (pgs_cons (gg (gq (q_bin o_sub ki (q_bin o_fdiv (vq vt) ki)))) pgs_nil)))) (aq ki))))) (fun _ _ _ _ _ => (vf vt)))
  r_nil) r_nil)
  (r_cons (r_if (t_of (kv_cmp (o_eq (G).h64) (ag (g_call (df_of d__law_take rfl hr (by decide)) tk rfl g__law_take (pgs_cons (pg_io vt) (pgs_cons (gg (gq ki)) pgs_nil)))) (aq ki))) (r_cons (r_ex (g_rev vt))
  r_nil) r_nil)
  (r_cons (r_ex (g_app vt (g_tup (pfs_cons (vf vt) (pfs_cons (vf vt) pfs_nil)))))
  r_nil))))))))
  (r_cons (r_ret (vm vt))
  r_nil)))))
/-- _law_shape -/
theorem sc_law_shape : FnScope ["_law_pile_here", "_law_most", "_law_ways", "_law_many", "_law_names_here"] ["_law_pile_here", "_law_most", "_law_ways"] (defScope (top 30)) := ⟨rfl, rfl, rfl, by decide +kernel, rfl, by decide +kernel, by decide +kernel⟩
def F_law_shape : List D → List RO → Option CR := runF T_law_entries 3 5 [0] c_law_shape
def T_law_shape : Tab := T_law_entries.ext 7 F_law_shape
theorem ok_law_shape {P : Program} {w : World} {K : PySem.W.Frag} {mg : Str → Option Value} {base : Heap} {ct : Str → Addr} {fa a__law_entries a__law_names a__law_take : Addr} {fd : FuncData} (F : FunD K "_law_shape" "_law_shape" (defArgs (top 30)) (defBody (top 30)) (defScope (top 30)) [] [] fa fd) (d__law_take : Dg P w K mg base ct 2 a__law_take 2 F_law_take) (g__law_take : mg "_law_take" = some (.ref a__law_take)) (d__law_names : Dg P w K mg base ct 3 a__law_names 2 F_law_names) (g__law_names : mg "_law_names" = some (.ref a__law_names)) (d__law_entries : Dg P w K mg base ct 4 a__law_entries 4 F_law_entries) (g__law_entries : mg "_law_entries" = some (.ref a__law_entries)) :
    Dg P w K mg base ct 5 fa 3 F_law_shape := by
  refine dg_of (N := ["_law_pile_here", "_law_most", "_law_ways", "_law_many", "_law_names_here"]) (ps := ["_law_pile_here", "_law_most", "_law_ways"]) (k := 4) (Pn := [0]) (T := T_law_entries) (body := c_law_shape) F sc_law_shape rfl rfl (F.bindsN fun _ _ _ _ _ _ us hl => match us, hl with | [_, _, _], _ => rfl) fun cdv A outer s H E hr => ?_
  have G := xg_of (X := cxOf (L2.CX P w) P w K mg base ["_law_pile_here", "_law_most", "_law_ways", "_law_many", "_law_names_here"] "_law_shape" (defScope (top 30)) fa cdv A outer s H E) rfl sc_law_shape.nd hr
  have tk := takes_of (X := cxOf (L2.CX P w) P w K mg base ["_law_pile_here", "_law_most", "_law_ways", "_law_many", "_law_names_here"] "_law_shape" (defScope (top 30)) fa cdv A outer s H E) rfl rfl rfl rfl
  have hp := passes_of (X := cxOf (L2.CX P w) P w K mg base ["_law_pile_here", "_law_most", "_law_ways", "_law_many", "_law_names_here"] "_law_shape" (defScope (top 30)) fa cdv A outer s H E) rfl
  exact (r_cons (r_set G rfl (.inl rfl) (g_call (df_of d__law_take rfl hr (by decide)) tk rfl g__law_take (pgs_cons (pg_io vt) (pgs_cons (gg (gq ki)) pgs_nil))))
  (r_cons (r_set G rfl (.inl rfl) (g_call (df_of d__law_names rfl hr (by decide)) tk rfl g__law_names (pgs_cons (pg_io vt) (pgs_cons (gg (g_bin o_add (ag (g_bin o_add (va vt) (aq ki))) (ag (g_call (df_of d__law_take rfl hr (by decide)) tk rfl g__law_take (pgs_cons (pg_io vt) (pgs_cons (gg (vf vt)) pgs_nil)))))) pgs_nil))))
  (r_cons (r_ret (g_tup (pfs_cons (sl01 (va vt) (vf vt)) (pfs_cons (g_call (df_of d__law_entries rfl hr (by decide)) tk rfl g__law_entries (pgs_cons (pg_io vt) (pgs_cons (gg (sl01 (va vt) (vf vt))) (pgs_cons (gg (sl10 (va vt) (vf vt))) (pgs_cons (gg (vf vt)) pgs_nil))))) pfs_nil))))
  r_nil)))
/-- is_name -/
theorem sc_is_name : FnScope ["thing", "letter"] ["thing"] (defScope (top 12)) := ⟨rfl, rfl, rfl, by decide +kernel, rfl, by decide +kernel, by decide +kernel⟩
def F_is_name : List D → List RO → Option CR := runF T_law_shape 1 2 [] c_is_name
def T_is_name : Tab := T_law_shape.ext 8 F_is_name
theorem ok_is_name {P : Program} {w : World} {K : PySem.W.Frag} {mg : Str → Option Value} {base : Heap} {ct : Str → Addr} {fa : Addr} {fd : FuncData} (F : FunD K "is_name" "is_name" (defArgs (top 12)) (defBody (top 12)) (defScope (top 12)) [] [] fa fd) (f_isinstance : mg "isinstance" = none) (f_str : mg "str" = none) (f_len : mg "len" = none) (f_all : mg "all" = none) (s_LETTERS : ∃ t, mg "LETTERS" = some (.str "abcdefghijklmnopqrstuvwxyz" t)) :
    Dg P w K mg base ct 1 fa 1 F_is_name := by
  refine dg_of (N := ["thing", "letter"]) (ps := ["thing"]) (k := 0) (Pn := []) (T := T_law_shape) (body := c_is_name) F sc_is_name rfl rfl (F.bindsN fun _ _ _ _ _ _ us hl => match us, hl with | [_], _ => rfl) fun cdv A outer s H E hr => ?_
  have G := xg_of (X := cxOf (L2.CX P w) P w K mg base ["thing", "letter"] "is_name" (defScope (top 12)) fa cdv A outer s H E) rfl sc_is_name.nd hr
  have tk := takes_of (X := cxOf (L2.CX P w) P w K mg base ["thing", "letter"] "is_name" (defScope (top 12)) fa cdv A outer s H E) rfl rfl rfl rfl
  have hp := passes_of (X := cxOf (L2.CX P w) P w K mg base ["thing", "letter"] "is_name" (defScope (top 12)) fa cdv A outer s H E) rfl
  exact (r_cons (r_if (ptc_w (pwc_or (ptc_no (ptc_val (gq (q_is f_isinstance f_str bb_str (vq vt))))) (pwc_or1 (ptc_no (t_chn o_le o_le (gq ki) (gq (q_len f_len (vq vt))) (gq ki)))))) (r_cons (r_ret (gq kb))
  r_nil) r_nil)
  (r_cons (r_ret (g_all G f_all (ag (g_lc (own := [("letter", 1)]) G (s_str (vf vt)) gb1 rfl (blkOk_by (by kernel_rfl)) (fun _ _ _ _ _ => (tg1 (xg_blk G))) (fun _ _ _ _ _ => pcs_nil) (fun _ _ _ _ _ => (gq (q_of (k_cmp (o_mem ((xg_blk G)).hu) (vq vt) (kgs s_LETTERS)))))))))
  r_nil))
/-- checked_plain -/
theorem sc_checked_plain : FnScope ["plain", "found", "thing"] ["plain"] (defScope (top 13)) := ⟨rfl, rfl, rfl, by decide +kernel, rfl, by decide +kernel, by decide +kernel⟩
def F_checked_plain : List D → List RO → Option CR := runF T_is_name 1 3 [] c_checked_plain
def T_checked_plain : Tab := T_is_name.ext 9 F_checked_plain
theorem ok_checked_plain {P : Program} {w : World} {K : PySem.W.Frag} {mg : Str → Option Value} {base : Heap} {ct : Str → Addr} {fa a_is_name : Addr} {fd : FuncData} (F : FunD K "checked_plain" "checked_plain" (defArgs (top 13)) (defBody (top 13)) (defScope (top 13)) [] [] fa fd) (f_isinstance : mg "isinstance" = none) (f_list : mg "list" = none) (d_is_name : Dg P w K mg base ct 1 a_is_name 1 F_is_name) (g_is_name : mg "is_name" = some (.ref a_is_name)) :
    Dg P w K mg base ct 2 fa 1 F_checked_plain := by
  refine dg_of (N := ["plain", "found", "thing"]) (ps := ["plain"]) (k := 1) (Pn := []) (T := T_is_name) (body := c_checked_plain) F sc_checked_plain rfl rfl (F.bindsN fun _ _ _ _ _ _ us hl => match us, hl with | [_], _ => rfl) fun cdv A outer s H E hr => ?_
  have G := xg_of (X := cxOf (L2.CX P w) P w K mg base ["plain", "found", "thing"] "checked_plain" (defScope (top 13)) fa cdv A outer s H E) rfl sc_checked_plain.nd hr
  have tk := takes_of (X := cxOf (L2.CX P w) P w K mg base ["plain", "found", "thing"] "checked_plain" (defScope (top 13)) fa cdv A outer s H E) rfl rfl rfl rfl
  have hp := passes_of (X := cxOf (L2.CX P w) P w K mg base ["plain", "found", "thing"] "checked_plain" (defScope (top 13)) fa cdv A outer s H E) rfl
  exact (r_cons (r_if (ptc_no (ptc_val (gq (q_is f_isinstance f_list bb_list (vq vt))))) (r_cons r_never
  r_nil) r_nil)
  (r_cons (r_set G rfl (.inl rfl) (g_lst pfs_nil))
  (r_cons (r_for G hp (s_list (vf vt)) (tg1 G) gb1 (r_cons (r_if (ptc_w (pwc_or (ptc_no (ptc_val (g_call (df_of d_is_name rfl hr (by decide)) tk rfl g_is_name (pgs_cons (gg (vf vt)) pgs_nil)))) (pwc_or1 (t_of (kv_q (k_cmp (o_mem (G).hu) (vq vt) (vq vt))))))) (r_cons r_never
  r_nil) r_nil)
  (r_cons (r_ex (g_app vt (vf vt)))
  r_nil)))
  (r_cons (r_ret (vm vt))
  r_nil))))
/-- checked_computed -/
theorem sc_checked_computed : FnScope ["computed", "plain", "known", "found", "entry", "name", "reads", "place", "thing"] ["computed", "plain"] (defScope (top 14)) := ⟨rfl, rfl, rfl, by decide +kernel, rfl, by decide +kernel, by decide +kernel⟩
def F_checked_computed : List D → List RO → Option CR := runF T_checked_plain 2 9 [] c_checked_computed
def T_checked_computed : Tab := T_checked_plain.ext 10 F_checked_computed
theorem ok_checked_computed {P : Program} {w : World} {K : PySem.W.Frag} {mg : Str → Option Value} {base : Heap} {ct : Str → Addr} {fa a_is_name : Addr} {fd : FuncData} (F : FunD K "checked_computed" "checked_computed" (defArgs (top 14)) (defBody (top 14)) (defScope (top 14)) [] [] fa fd) (f_isinstance : mg "isinstance" = none) (f_list : mg "list" = none) (f_tuple : mg "tuple" = none) (f_len : mg "len" = none) (d_is_name : Dg P w K mg base ct 1 a_is_name 1 F_is_name) (g_is_name : mg "is_name" = some (.ref a_is_name)) (i_MOST_CELLS : ∃ t, mg "MOST_CELLS" = some (.int 12 t)) (f_enumerate : mg "enumerate" = none) :
    Dg P w K mg base ct 2 fa 2 F_checked_computed := by
  refine dg_of (N := ["computed", "plain", "known", "found", "entry", "name", "reads", "place", "thing"]) (ps := ["computed", "plain"]) (k := 1) (Pn := []) (T := T_checked_plain) (body := c_checked_computed) F sc_checked_computed rfl rfl (F.bindsN fun _ _ _ _ _ _ us hl => match us, hl with | [_, _], _ => rfl) fun cdv A outer s H E hr => ?_
  have G := xg_of (X := cxOf (L2.CX P w) P w K mg base ["computed", "plain", "known", "found", "entry", "name", "reads", "place", "thing"] "checked_computed" (defScope (top 14)) fa cdv A outer s H E) rfl sc_checked_computed.nd hr
  have tk := takes_of (X := cxOf (L2.CX P w) P w K mg base ["computed", "plain", "known", "found", "entry", "name", "reads", "place", "thing"] "checked_computed" (defScope (top 14)) fa cdv A outer s H E) rfl rfl rfl rfl
  have hp := passes_of (X := cxOf (L2.CX P w) P w K mg base ["computed", "plain", "known", "found", "entry", "name", "reads", "place", "thing"] "checked_computed" (defScope (top 14)) fa cdv A outer s H E) rfl
  exact (r_cons (r_if (ptc_no (ptc_val (gq (q_is f_isinstance f_list bb_list (vq vt))))) (r_cons r_never
  r_nil) r_nil)
  (r_cons (r_set G rfl (.inl rfl) (g_list f_list (va vt)))
  (r_cons (r_set G rfl (.inl rfl) (g_lst pfs_nil))
  (r_cons (r_for G hp (s_list (vf vt)) (tg1 G) gb1 (r_cons (r_if (ptc_w (pwc_or (ptc_no (ptc_val (gq (q_is f_isinstance f_tuple bb_tuple (vq vt))))) (pwc_or1 (t_of (kv_q (k_cmp (o_ne (G).h64) (q_len f_len (vq vt)) ki)))))) (r_cons r_never
  r_nil) r_nil)
  (r_cons (r_asg (vf vt) (tg2 G (tg1 G) (tg1 G)) gb2)
  (r_cons (r_if (ptc_w (pwc_or (ptc_no (ptc_val (g_call (df_of d_is_name rfl hr (by decide)) tk rfl g_is_name (pgs_cons (gg (vf vt)) pgs_nil)))) (pwc_or (t_of (kv_q (k_cmp (o_mem (G).hu) (vq vt) (vq vt)))) (pwc_or1 (ptc_no (ptc_val (gq (q_is f_isinstance f_list bb_list (vq vt))))))))) (r_cons r_never
  r_nil) r_nil)
  (r_cons (r_ex (g_app vt (vf vt)))
  (r_cons (r_ex (g_app vt (g_tup (pfs_cons (vf vt) (pfs_cons (g_list f_list (va vt)) pfs_nil)))))
  r_nil))))))
  (r_cons (r_if (t_of (kv_q (k_cmp o_gt (q_len f_len (vq vt)) (kgi i_MOST_CELLS)))) (r_cons r_never
  r_nil) r_nil)
  (r_cons (r_for G hp (s_list (vf vt)) (tg2 G (tg1 G) (tg1 G)) gb2 (r_cons (r_for G hp (s_enum rfl f_enumerate (vf vt)) (tg2 G (tg1 G) (tg1 G)) gb2 (r_cons (r_if (ptc_w (pwc_or (ptc_no (ptc_val (g_call (df_of d_is_name rfl hr (by decide)) tk rfl g_is_name (pgs_cons (gg (vf vt)) pgs_nil)))) (pwc_or (t_of (kv_q (k_cmp (o_nmem (G).hu) (vq vt) (vq vt)))) (pwc_or1 (t_of (kv_cmp (o_mem (G).hu) (va vt) (ag (sl01 (va vt) (vf vt))))))))) (r_cons r_never
  r_nil) r_nil)
  r_nil))
  r_nil))
  (r_cons (r_ret (vm vt))
  r_nil)))))))
/-- Shape.__init__ -/
theorem sc_Shape___init__ : FnScope ["self", "plain", "computed", "entries", "name", "reads"] ["self", "plain", "computed"] (defScope (mth 15 0)) := ⟨rfl, rfl, rfl, by decide +kernel, rfl, by decide +kernel, by decide +kernel⟩
def F_Shape___init__ : List D → List RO → Option CR := runF T_checked_computed 3 6 [] c_Shape___init__
def T_Shape___init__ : Tab := T_checked_computed.ext 11 F_Shape___init__
theorem ok_Shape___init__ {P : Program} {w : World} {K : PySem.W.Frag} {mg : Str → Option Value} {base : Heap} {ct : Str → Addr} {fa a_checked_computed a_checked_plain : Addr} {fd : FuncData} (F : FunD K "__init__" "Shape.__init__" (defArgs (mth 15 0)) (defBody (mth 15 0)) (defScope (mth 15 0)) [] [] fa fd) (d_checked_plain : Dg P w K mg base ct 2 a_checked_plain 1 F_checked_plain) (g_checked_plain : mg "checked_plain" = some (.ref a_checked_plain)) (c_Shape : Cls K (ct "Shape")) (n_Shape_plain_cells : NoAttr K (ct "Shape") "plain_cells") (d_checked_computed : Dg P w K mg base ct 2 a_checked_computed 2 F_checked_computed) (g_checked_computed : mg "checked_computed" = some (.ref a_checked_computed)) (n_Shape_computed_cells : NoAttr K (ct "Shape") "computed_cells") (f_tuple : mg "tuple" = none) (n_Shape_reading : NoAttr K (ct "Shape") "reading") (n_Shape_all_cells : NoAttr K (ct "Shape") "all_cells") :
    Dg P w K mg base ct 3 fa 3 F_Shape___init__ := by
  refine dg_of (N := ["self", "plain", "computed", "entries", "name", "reads"]) (ps := ["self", "plain", "computed"]) (k := 2) (Pn := []) (T := T_checked_computed) (body := c_Shape___init__) F sc_Shape___init__ rfl rfl (F.bindsN fun _ _ _ _ _ _ us hl => match us, hl with | [_, _, _], _ => rfl) fun cdv A outer s H E hr => ?_
  have G := xg_of (X := cxOf (L2.CX P w) P w K mg base ["self", "plain", "computed", "entries", "name", "reads"] "Shape.__init__" (defScope (mth 15 0)) fa cdv A outer s H E) rfl sc_Shape___init__.nd hr
  have tk := takes_of (X := cxOf (L2.CX P w) P w K mg base ["self", "plain", "computed", "entries", "name", "reads"] "Shape.__init__" (defScope (mth 15 0)) fa cdv A outer s H E) rfl rfl rfl rfl
  have hp := passes_of (X := cxOf (L2.CX P w) P w K mg base ["self", "plain", "computed", "entries", "name", "reads"] "Shape.__init__" (defScope (mth 15 0)) fa cdv A outer s H E) rfl
  exact (r_cons (r_setF vt (g_call (df_of d_checked_plain rfl hr (by decide)) tk rfl g_checked_plain (pgs_cons (gg (vf vt)) pgs_nil)) c_Shape n_Shape_plain_cells)
  (r_cons (r_set G rfl (.inl rfl) (g_call (df_of d_checked_computed rfl hr (by decide)) tk rfl g_checked_computed (pgs_cons (gg (vf vt)) (pgs_cons (gg (gq (q_fld (vq vt) c_Shape n_Shape_plain_cells))) pgs_nil))))
  (r_cons (r_setF vt (g_lc (own := [("name", 4), ("reads", 5)]) G (s_list (vf vt)) gb2 rfl (blkOk_by (by kernel_rfl)) (fun _ _ _ _ _ => (tg2 (xg_blk G) (tg1 (xg_blk G)) (tg1 (xg_blk G)))) (fun _ _ _ _ _ => pcs_nil) (fun _ _ _ _ _ => (vf vt))) c_Shape n_Shape_computed_cells)
  (r_cons (r_setF vt (g_dc (own := [("name", 4), ("reads", 5)]) G (s_list (vf vt)) gb2 rfl (blkOk_by (by kernel_rfl)) (fun _ _ _ _ _ => (tg2 (xg_blk G) (tg1 (xg_blk G)) (tg1 (xg_blk G)))) (fun _ _ _ _ _ => (vf vt)) (fun _ _ _ _ _ => (g_tuple f_tuple (va vt)))) c_Shape n_Shape_reading)
  (r_cons (r_setF vt (g_bin o_add (aq (q_fld (vq vt) c_Shape n_Shape_plain_cells)) (aq (q_fld (vq vt) c_Shape n_Shape_computed_cells))) c_Shape n_Shape_all_cells)
  r_nil)))))
/-- _law_reads -/
theorem sc_law_reads : FnScope ["_law_plain", "_law_entries_here", "_law_found", "_law_name", "_law_some"] ["_law_plain", "_law_entries_here"] (defScope (top 32)) := ⟨rfl, rfl, rfl, by decide +kernel, rfl, by decide +kernel, by decide +kernel⟩
def F_law_reads : List D → List RO → Option CR := runF T_Shape___init__ 2 5 [] c_law_reads
def T_law_reads : Tab := T_Shape___init__.ext 12 F_law_reads
theorem ok_law_reads {P : Program} {w : World} {K : PySem.W.Frag} {mg : Str → Option Value} {base : Heap} {ct : Str → Addr} {fa : Addr} {fd : FuncData} (F : FunD K "_law_reads" "_law_reads" (defArgs (top 32)) (defBody (top 32)) (defScope (top 32)) [] [] fa fd) (f_list : mg "list" = none) :
    Dg P w K mg base ct 1 fa 2 F_law_reads := by
  refine dg_of (N := ["_law_plain", "_law_entries_here", "_law_found", "_law_name", "_law_some"]) (ps := ["_law_plain", "_law_entries_here"]) (k := 0) (Pn := []) (T := T_Shape___init__) (body := c_law_reads) F sc_law_reads rfl rfl (F.bindsN fun _ _ _ _ _ _ us hl => match us, hl with | [_, _], _ => rfl) fun cdv A outer s H E hr => ?_
  have G := xg_of (X := cxOf (L2.CX P w) P w K mg base ["_law_plain", "_law_entries_here", "_law_found", "_law_name", "_law_some"] "_law_reads" (defScope (top 32)) fa cdv A outer s H E) rfl sc_law_reads.nd hr
  have tk := takes_of (X := cxOf (L2.CX P w) P w K mg base ["_law_plain", "_law_entries_here", "_law_found", "_law_name", "_law_some"] "_law_reads" (defScope (top 32)) fa cdv A outer s H E) rfl rfl rfl rfl
  have hp := passes_of (X := cxOf (L2.CX P w) P w K mg base ["_law_plain", "_law_entries_here", "_law_found", "_law_name", "_law_some"] "_law_reads" (defScope (top 32)) fa cdv A outer s H E) rfl
  exact (r_cons (r_set G rfl (.inl rfl) g_dic0)
  (r_cons (r_for G hp (s_list (vf vt)) (tg1 G) gb1 (r_cons (r_setd G vt (vf vt) (g_lst pfs_nil))
  r_nil))
  (r_cons (r_for G hp (s_list (vf vt)) (tg2 G (tg1 G) (tg1 G)) gb2 (r_cons (r_setd G vt (vf vt) (g_list f_list (va vt)))
  r_nil))
  (r_cons (r_ret (vm vt))
  r_nil))))
/-- _law_row -/
theorem sc_law_row : FnScope ["_law_pile_here", "_law_entries_here", "_law_most", "_law_k"] ["_law_pile_here", "_law_entries_here", "_law_most"] (defScope (top 31)) := ⟨rfl, rfl, rfl, by decide +kernel, rfl, by decide +kernel, by decide +kernel⟩
def F_law_row : List D → List RO → Option CR := runF T_law_reads 3 4 [0] c_law_row
def T_law_row : Tab := T_law_reads.ext 13 F_law_row
theorem ok_law_row {P : Program} {w : World} {K : PySem.W.Frag} {mg : Str → Option Value} {base : Heap} {ct : Str → Addr} {fa a__law_take : Addr} {fd : FuncData} (F : FunD K "_law_row" "_law_row" (defArgs (top 31)) (defBody (top 31)) (defScope (top 31)) [] [] fa fd) (d__law_take : Dg P w K mg base ct 2 a__law_take 2 F_law_take) (g__law_take : mg "_law_take" = some (.ref a__law_take)) (f_range : mg "range" = none) (f_len : mg "len" = none) :
    Dg P w K mg base ct 3 fa 3 F_law_row := by
  refine dg_of (N := ["_law_pile_here", "_law_entries_here", "_law_most", "_law_k"]) (ps := ["_law_pile_here", "_law_entries_here", "_law_most"]) (k := 2) (Pn := [0]) (T := T_law_reads) (body := c_law_row) F sc_law_row rfl rfl (F.bindsN fun _ _ _ _ _ _ us hl => match us, hl with | [_, _, _], _ => rfl) fun cdv A outer s H E hr => ?_
  have G := xg_of (X := cxOf (L2.CX P w) P w K mg base ["_law_pile_here", "_law_entries_here", "_law_most", "_law_k"] "_law_row" (defScope (top 31)) fa cdv A outer s H E) rfl sc_law_row.nd hr
  have tk := takes_of (X := cxOf (L2.CX P w) P w K mg base ["_law_pile_here", "_law_entries_here", "_law_most", "_law_k"] "_law_row" (defScope (top 31)) fa cdv A outer s H E) rfl rfl rfl rfl
  have hp := passes_of (X := cxOf (L2.CX P w) P w K mg base ["_law_pile_here", "_law_entries_here", "_law_most", "_law_k"] "_law_row" (defScope (top 31)) fa cdv A outer s H E) rfl
  exact (r_cons (r_ret (g_lc (own := [("_law_k", 3)]) G (s_rng1 rfl f_range (g_call (df_of d__law_take rfl hr (by decide)) tk rfl g__law_take (pgs_cons (pg_io vt) (pgs_cons (gg (g_bin o_add (va vt) (aq ki))) pgs_nil)))) gb1 rfl (blkOk_by (by kernel_rfl)) (fun _ _ _ _ _ => (tg1 (xg_blk G))) (fun _ _ _ _ _ => pcs_nil) (fun _ _ _ _ _ => (g_ix (ag (g_ix (va vt) (ag (g_call (df_of d__law_take rfl hr (by decide)) L2.takes0 rfl g__law_take (pgs_cons (pg_io vt) (pgs_cons (gg (gq (q_len f_len (vq vt)))) pgs_nil)))))) (aq ki)))))
  r_nil)
/-- _law_idle -/
theorem sc_law_idle : FnScope ["_law_reads_here", "_law_commands", "_law_k", "_law_cell", "_law_ahead", "_law_j", "_law_one"] ["_law_reads_here", "_law_commands", "_law_k"] (defScope (top 34)) := ⟨rfl, rfl, rfl, by decide +kernel, rfl, by decide +kernel, by decide +kernel⟩
def F_law_idle : List D → List RO → Option CR := runF T_law_row 3 7 [] c_law_idle
def T_law_idle : Tab := T_law_row.ext 23 F_law_idle
theorem ok_law_idle {P : Program} {w : World} {K : PySem.W.Frag} {mg : Str → Option Value} {base : Heap} {ct : Str → Addr} {fa : Addr} {fd : FuncData} (F : FunD K "_law_idle" "_law_idle" (defArgs (top 34)) (defBody (top 34)) (defScope (top 34)) [] [] fa fd) (f_range : mg "range" = none) :
    Dg P w K mg base ct 1 fa 3 F_law_idle := by
  refine dg_of (N := ["_law_reads_here", "_law_commands", "_law_k", "_law_cell", "_law_ahead", "_law_j", "_law_one"]) (ps := ["_law_reads_here", "_law_commands", "_law_k"]) (k := 0) (Pn := []) (T := T_law_row) (body := c_law_idle) F sc_law_idle rfl rfl (F.bindsN fun _ _ _ _ _ _ us hl => match us, hl with | [_, _, _], _ => rfl) fun cdv A outer s H E hr => ?_
  have G := xg_of (X := cxOf (L2.CX P w) P w K mg base ["_law_reads_here", "_law_commands", "_law_k", "_law_cell", "_law_ahead", "_law_j", "_law_one"] "_law_idle" (defScope (top 34)) fa cdv A outer s H E) rfl sc_law_idle.nd hr
  have tk := takes_of (X := cxOf (L2.CX P w) P w K mg base ["_law_reads_here", "_law_commands", "_law_k", "_law_cell", "_law_ahead", "_law_j", "_law_one"] "_law_idle" (defScope (top 34)) fa cdv A outer s H E) rfl rfl rfl rfl
  have hp := passes_of (X := cxOf (L2.CX P w) P w K mg base ["_law_reads_here", "_law_commands", "_law_k", "_law_cell", "_law_ahead", "_law_j", "_law_one"] "_law_idle" (defScope (top 34)) fa cdv A outer s H E) rfl
  exact (r_cons (r_set G rfl (.inr rfl) (gq (q_ix (vq vt) (vq vt))))
  (r_cons (r_setLc (own := [("_law_j", 5)]) G rfl rfl (sw_true rfl rfl rfl rfl) (s_rng1 rfl f_range (vf vt)) gb1 rfl (blkOk_by (by kernel_rfl)) (fun _ _ _ _ _ => (tg1 (xg_blk G))) (fun _ _ _ _ _ => (pcs_one (t_of (kv_q (k_cmp (o_eq ((xg_blk G)).h64) (q_ix (vq vt) (vq vt)) (vq vt)))))) (fun _ _ _ _ _ => (vf vt)))
  (r_cons (r_if (ptc_w (pwc_or (t_of (kv_cmp (o_eq (G).h64) (va vt) (ag (g_lst pfs_nil)))) (pwc_or1 (t_of (kv_q (k_cmp (o_mem (G).hu) (vq vt) (q_ixd G (vq vt) (vq vt)))))))) (r_cons (r_ret (gq kb))
  r_nil) r_nil)
  (r_cons (r_ret (g_of (kv_cmp (o_eq (G).h64) (ag (g_lc (own := [("_law_one", 6)]) G (s_list (sl11 (va vt) (g_bin o_add (aq (q_ix (vq vt) (q_neg ki))) (aq ki)) (vf vt))) gb1 rfl (blkOk_by (by kernel_rfl)) (fun _ _ _ _ _ => (tg1 (xg_blk G))) (fun _ _ _ _ _ => (pcs_one (t_of (kv_q (k_cmp (o_mem ((xg_blk G)).hu) (vq vt) (q_ixd (xg_blk G) (vq vt) (vq vt))))))) (fun _ _ _ _ _ => (vf vt)))) (ag (g_lst pfs_nil)))))
  r_nil))))
/-- _law_lost -/
theorem sc_law_lost : FnScope ["_law_reads_here", "_law_commands", "_law_k", "_law_cell", "_law_behind", "_law_j", "_law_one"] ["_law_reads_here", "_law_commands", "_law_k"] (defScope (top 35)) := ⟨rfl, rfl, rfl, by decide +kernel, rfl, by decide +kernel, by decide +kernel⟩
def F_law_lost : List D → List RO → Option CR := runF T_law_idle 3 7 [] c_law_lost
def T_law_lost : Tab := T_law_idle.ext 24 F_law_lost
theorem ok_law_lost {P : Program} {w : World} {K : PySem.W.Frag} {mg : Str → Option Value} {base : Heap} {ct : Str → Addr} {fa : Addr} {fd : FuncData} (F : FunD K "_law_lost" "_law_lost" (defArgs (top 35)) (defBody (top 35)) (defScope (top 35)) [] [] fa fd) (f_len : mg "len" = none) (f_range : mg "range" = none) :
    Dg P w K mg base ct 1 fa 3 F_law_lost := by
  refine dg_of (N := ["_law_reads_here", "_law_commands", "_law_k", "_law_cell", "_law_behind", "_law_j", "_law_one"]) (ps := ["_law_reads_here", "_law_commands", "_law_k"]) (k := 0) (Pn := []) (T := T_law_idle) (body := c_law_lost) F sc_law_lost rfl rfl (F.bindsN fun _ _ _ _ _ _ us hl => match us, hl with | [_, _, _], _ => rfl) fun cdv A outer s H E hr => ?_
  have G := xg_of (X := cxOf (L2.CX P w) P w K mg base ["_law_reads_here", "_law_commands", "_law_k", "_law_cell", "_law_behind", "_law_j", "_law_one"] "_law_lost" (defScope (top 35)) fa cdv A outer s H E) rfl sc_law_lost.nd hr
  have tk := takes_of (X := cxOf (L2.CX P w) P w K mg base ["_law_reads_here", "_law_commands", "_law_k", "_law_cell", "_law_behind", "_law_j", "_law_one"] "_law_lost" (defScope (top 35)) fa cdv A outer s H E) rfl rfl rfl rfl
  have hp := passes_of (X := cxOf (L2.CX P w) P w K mg base ["_law_reads_here", "_law_commands", "_law_k", "_law_cell", "_law_behind", "_law_j", "_law_one"] "_law_lost" (defScope (top 35)) fa cdv A outer s H E) rfl
  exact (r_cons (r_set G rfl (.inr rfl) (gq (q_ix (vq vt) (vq vt))))
  (r_cons (r_setLc (own := [("_law_j", 5)]) G rfl rfl (sw_true rfl rfl rfl rfl) (s_rng2 rfl f_range (g_bin o_add (va vt) (aq ki)) (gq (q_len f_len (vq vt)))) gb1 rfl (blkOk_by (by kernel_rfl)) (fun _ _ _ _ _ => (tg1 (xg_blk G))) (fun _ _ _ _ _ => (pcs_one (t_of (kv_q (k_cmp (o_eq ((xg_blk G)).h64) (q_ix (vq vt) (vq vt)) (vq vt)))))) (fun _ _ _ _ _ => (vf vt)))
  (r_cons (r_if (ptc_w (pwc_or (t_of (kv_cmp (o_eq (G).h64) (va vt) (ag (g_lst pfs_nil)))) (pwc_or1 (t_of (kv_q (k_cmp (o_mem (G).hu) (vq vt) (q_ixd G (vq vt) (vq vt)))))))) (r_cons (r_ret (gq kb))
  r_nil) r_nil)
  (r_cons (r_ret (g_of (kv_cmp (o_eq (G).h64) (ag (g_lc (own := [("_law_one", 6)]) G (s_list (sl11 (va vt) (g_bin o_add (va vt) (aq ki)) (gq (q_ix (vq vt) ki)))) gb1 rfl (blkOk_by (by kernel_rfl)) (fun _ _ _ _ _ => (tg1 (xg_blk G))) (fun _ _ _ _ _ => (pcs_one (t_of (kv_q (k_cmp (o_mem ((xg_blk G)).hu) (vq vt) (q_ixd (xg_blk G) (vq vt) (vq vt))))))) (fun _ _ _ _ _ => (vf vt)))) (ag (g_lst pfs_nil)))))
  r_nil))))
/-- _law_linked -/
theorem sc_law_linked : FnScope ["_law_reads_here", "_law_one", "_law_other"] ["_law_reads_here", "_law_one", "_law_other"] (defScope (top 33)) := ⟨rfl, rfl, rfl, by decide +kernel, rfl, by decide +kernel, by decide +kernel⟩
def F_law_linked : List D → List RO → Option CR := runF T_law_lost 3 3 [] c_law_linked
def T_law_linked : Tab := T_law_lost.ext 25 F_law_linked
theorem ok_law_linked {P : Program} {w : World} {K : PySem.W.Frag} {mg : Str → Option Value} {base : Heap} {ct : Str → Addr} {fa : Addr} {fd : FuncData} (F : FunD K "_law_linked" "_law_linked" (defArgs (top 33)) (defBody (top 33)) (defScope (top 33)) [] [] fa fd)  :
    Dg P w K mg base ct 1 fa 3 F_law_linked := by
  refine dg_of (N := ["_law_reads_here", "_law_one", "_law_other"]) (ps := ["_law_reads_here", "_law_one", "_law_other"]) (k := 0) (Pn := []) (T := T_law_lost) (body := c_law_linked) F sc_law_linked rfl rfl (F.bindsN fun _ _ _ _ _ _ us hl => match us, hl with | [_, _, _], _ => rfl) fun cdv A outer s H E hr => ?_
  have G := xg_of (X := cxOf (L2.CX P w) P w K mg base ["_law_reads_here", "_law_one", "_law_other"] "_law_linked" (defScope (top 33)) fa cdv A outer s H E) rfl sc_law_linked.nd hr
  have tk := takes_of (X := cxOf (L2.CX P w) P w K mg base ["_law_reads_here", "_law_one", "_law_other"] "_law_linked" (defScope (top 33)) fa cdv A outer s H E) rfl rfl rfl rfl
  have hp := passes_of (X := cxOf (L2.CX P w) P w K mg base ["_law_reads_here", "_law_one", "_law_other"] "_law_linked" (defScope (top 33)) fa cdv A outer s H E) rfl
  exact (r_cons (r_ret (g_or (gq (q_of (k_cmp (o_eq (G).h64) (vq vt) (vq vt)))) (g_or (gq (q_of (k_cmp (o_mem (G).hu) (vq vt) (q_ixd G (vq vt) (vq vt))))) (g_and1 (gq (q_of (k_cmp (o_mem (G).hu) (vq vt) (q_ixd G (vq vt) (vq vt)))))))))
  r_nil)
/-- _law_after -/
theorem sc_law_after : FnScope ["_law_reads_here", "_law_commands", "_law_step", "_law_word", "_law_k"] ["_law_reads_here", "_law_commands", "_law_step"] (defScope (top 36)) := ⟨rfl, rfl, rfl, by decide +kernel, rfl, by decide +kernel, by decide +kernel⟩
def F_law_after : List D → List RO → Option CR := runF T_law_linked 3 5 [] c_law_after
def T_law_after : Tab := T_law_linked.ext 26 F_law_after
theorem ok_law_after {P : Program} {w : World} {K : PySem.W.Frag} {mg : Str → Option Value} {base : Heap} {ct : Str → Addr} {fa a__law_idle a__law_linked a__law_lost : Addr} {fd : FuncData} (F : FunD K "_law_after" "_law_after" (defArgs (top 36)) (defBody (top 36)) (defScope (top 36)) [] [] fa fd) (f_isinstance : mg "isinstance" = none) (f_tuple : mg "tuple" = none) (f_len : mg "len" = none) (f_bool : mg "bool" = none) (f_int : mg "int" = none) (d__law_idle : Dg P w K mg base ct 1 a__law_idle 3 F_law_idle) (g__law_idle : mg "_law_idle" = some (.ref a__law_idle)) (d__law_lost : Dg P w K mg base ct 1 a__law_lost 3 F_law_lost) (g__law_lost : mg "_law_lost" = some (.ref a__law_lost)) (d__law_linked : Dg P w K mg base ct 1 a__law_linked 3 F_law_linked) (g__law_linked : mg "_law_linked" = some (.ref a__law_linked)) :
    Dg P w K mg base ct 2 fa 3 F_law_after := by
  refine dg_of (N := ["_law_reads_here", "_law_commands", "_law_step", "_law_word", "_law_k"]) (ps := ["_law_reads_here", "_law_commands", "_law_step"]) (k := 1) (Pn := []) (T := T_law_linked) (body := c_law_after) F sc_law_after rfl rfl (F.bindsN fun _ _ _ _ _ _ us hl => match us, hl with | [_, _, _], _ => rfl) fun cdv A outer s H E hr => ?_
  have G := xg_of (X := cxOf (L2.CX P w) P w K mg base ["_law_reads_here", "_law_commands", "_law_step", "_law_word", "_law_k"] "_law_after" (defScope (top 36)) fa cdv A outer s H E) rfl sc_law_after.nd hr
  have tk := takes_of (X := cxOf (L2.CX P w) P w K mg base ["_law_reads_here", "_law_commands", "_law_step", "_law_word", "_law_k"] "_law_after" (defScope (top 36)) fa cdv A outer s H E) rfl rfl rfl rfl
  have hp := passes_of (X := cxOf (L2.CX P w) P w K mg base ["_law_reads_here", "_law_commands", "_law_step", "_law_word", "_law_k"] "_law_after" (defScope (top 36)) fa cdv A outer s H E) rfl
  exact (r_cons (r_if (ptc_w (pwc_or (ptc_no (ptc_val (gq (q_is f_isinstance f_tuple bb_tuple (vq vt))))) (pwc_or (t_of (kv_q (k_cmp (o_ne (G).h64) (q_len f_len (vq vt)) ki))) (pwc_or (ptc_val (gq (q_is f_isinstance f_bool bb_bool (q_ix (vq vt) ki)))) (pwc_or1 (ptc_no (ptc_val (gq (q_is f_isinstance f_int bb_int (q_ix (vq vt) ki)))))))))) (r_cons (r_ret (gq kn))
  r_nil) r_nil)
  (r_cons (r_asg (vf vt) (tg2 G (tg1 G) (tg1 G)) gb2)
  (r_cons (r_if (ptc_w (pwc_or (t_of (kv_q (k_cmp o_lt (vq vt) ki))) (pwc_or1 (t_of (kv_q (k_cmp o_ge (vq vt) (q_len f_len (vq vt)))))))) (r_cons (r_ret (gq kn))
  r_nil) r_nil)
  (r_cons (r_if (ptc_w (pwc_or (ptc_w (pwc_and (t_of (kv_q (k_cmp (o_eq (G).h64) (vq vt) ks))) (pwc_and1 (ptc_val (g_call (df_of d__law_idle rfl hr (by decide)) tk rfl g__law_idle (pgs_cons (gg (vf vt)) (pgs_cons (gg (vf vt)) (pgs_cons (gg (vf vt)) pgs_nil)))))))) (pwc_or1 (ptc_w (pwc_and (t_of (kv_q (k_cmp (o_eq (G).h64) (vq vt) ks))) (pwc_and1 (ptc_val (g_call (df_of d__law_lost rfl hr (by decide)) tk rfl g__law_lost (pgs_cons (gg (vf vt)) (pgs_cons (gg (vf vt)) (pgs_cons (gg (vf vt)) pgs_nil))))))))))) (r_cons (r_ret (g_bin o_add (ag (sl01 (va vt) (vf vt))) (ag (sl10 (va vt) (g_bin o_add (va vt) (aq ki))))))
  r_nil) r_nil)
  (r_cons (r_if (ptc_w (pwc_and (t_of (kv_q (k_cmp (o_eq (G).h64) (vq vt) ks))) (pwc_and (t_of (kv_cmp o_lt (ag (g_bin o_add (va vt) (aq ki))) (aq (q_len f_len (vq vt))))) (pwc_and1 (ptc_no (ptc_val (g_call (df_of d__law_linked rfl hr (by decide)) tk rfl g__law_linked (pgs_cons (gg (vf vt)) (pgs_cons (gg (gq (q_ix (vq vt) (vq vt)))) (pgs_cons (gg (g_ix (va vt) (ag (g_bin o_add (va vt) (aq ki))))) pgs_nil)))))))))) (r_cons (r_ret (g_bin o_add (ag (g_bin o_add (ag (sl01 (va vt) (vf vt))) (ag (g_lst (pfs_cons (g_ix (va vt) (ag (g_bin o_add (va vt) (aq ki)))) (pfs_cons (gq (q_ix (vq vt) (vq vt))) pfs_nil)))))) (ag (sl10 (va vt) (g_bin o_add (va vt) (aq ki))))))
  r_nil) r_nil)
  (r_cons (r_ret (gq kn))
  r_nil))))))
/-- _law_steps -/
theorem sc_law_steps : FnScope ["_law_pile_here", "_law_reads_here", "_law_commands", "_law_found", "_law_here", "_law_turn", "_law_every", "_law_good", "_law_step", "_law_k"] ["_law_pile_here", "_law_reads_here", "_law_commands"] (defScope (top 37)) := ⟨rfl, rfl, rfl, by decide +kernel, rfl, by decide +kernel, by decide +kernel⟩
def F_law_steps : List D → List RO → Option CR := runF T_law_after 3 10 [0] c_law_steps
def T_law_steps : Tab := T_law_after.ext 27 F_law_steps
theorem ok_law_steps {P : Program} {w : World} {K : PySem.W.Frag} {mg : Str → Option Value} {base : Heap} {ct : Str → Addr} {fa a__law_after a__law_take : Addr} {fd : FuncData} (F : FunD K "_law_steps" "_law_steps" (defArgs (top 37)) (defBody (top 37)) (defScope (top 37)) [] [] fa fd) (f_list : mg "list" = none) (d__law_take : Dg P w K mg base ct 2 a__law_take 2 F_law_take) (g__law_take : mg "_law_take" = some (.ref a__law_take)) (f_range : mg "range" = none) (f_len : mg "len" = none) (d__law_after : Dg P w K mg base ct 2 a__law_after 3 F_law_after) (g__law_after : mg "_law_after" = some (.ref a__law_after)) :
    Dg P w K mg base ct 3 fa 3 F_law_steps := by
  refine dg_of (N := ["_law_pile_here", "_law_reads_here", "_law_commands", "_law_found", "_law_here", "_law_turn", "_law_every", "_law_good", "_law_step", "_law_k"]) (ps := ["_law_pile_here", "_law_reads_here", "_law_commands"]) (k := 2) (Pn := [0]) (T := T_law_after) (body := c_law_steps) F sc_law_steps rfl rfl (F.bindsN fun _ _ _ _ _ _ us hl => match us, hl with | [_, _, _], _ => rfl) fun cdv A outer s H E hr => ?_
  have G := xg_of (X := cxOf (L2.CX P w) P w K mg base ["_law_pile_here", "_law_reads_here", "_law_commands", "_law_found", "_law_here", "_law_turn", "_law_every", "_law_good", "_law_step", "_law_k"] "_law_steps" (defScope (top 37)) fa cdv A outer s H E) rfl sc_law_steps.nd hr
  have tk := takes_of (X := cxOf (L2.CX P w) P w K mg base ["_law_pile_here", "_law_reads_here", "_law_commands", "_law_found", "_law_here", "_law_turn", "_law_every", "_law_good", "_law_step", "_law_k"] "_law_steps" (defScope (top 37)) fa cdv A outer s H E) rfl rfl rfl rfl
  have hp := passes_of (X := cxOf (L2.CX P w) P w K mg base ["_law_pile_here", "_law_reads_here", "_law_commands", "_law_found", "_law_here", "_law_turn", "_law_every", "_law_good", "_law_step", "_law_k"] "_law_steps" (defScope (top 37)) fa cdv A outer s H E) rfl
  exact (r_cons (r_set G rfl (.inl rfl) (g_lst pfs_nil))
  (r_cons (r_set G rfl (.inr rfl) (g_list f_list (va vt)))
  (r_cons (r_for G hp (s_rng1 rfl f_range (g_call (df_of d__law_take rfl hr (by decide)) tk rfl g__law_take (pgs_cons (pg_io vt) (pgs_cons (gg (gq ki)) pgs_nil)))) (tg1 G) gb1 (r_cons (r_set G rfl (.inl rfl) (g_bin o_add (ag (g_lc (own := [("_law_k", 9)]) G (s_rng1 rfl f_range (gq (q_len f_len (vq vt)))) gb1 rfl (blkOk_by (by kernel_rfl)) (fun _ _ _ _ _ => (tg1 (xg_blk G))) (fun _ _ _ _ _ => pcs_nil) (fun _ _ _ _ _ => (g_tup (pfs_cons (gq ks) (pfs_cons (vf vt) pfs_nil)))))) (ag (g_lc (own := [("_law_k", 9)]) G (s_rng1 rfl f_range (gq (q_len f_len (vq vt)))) gb1 rfl (blkOk_by (by kernel_rfl)) (fun _ _ _ _ _ => (tg1 (xg_blk G))) (fun _ _ _ _ _ => pcs_nil) (fun _ _ _ _ _ => (g_tup (pfs_cons (gq ks) (pfs_cons (vf vt) pfs_nil))))))))
  (r_cons (r_set G rfl (.inl rfl) (g_bin o_add (va vt) (ag (g_lc (own := [("_law_k", 9)]) G (s_rng1 rfl f_range (gq (q_len f_len (vq vt)))) gb1 rfl (blkOk_by (by kernel_rfl)) (fun _ _ _ _ _ => (tg1 (xg_blk G))) (fun _ _ _ _ _ => pcs_nil) (fun _ _ _ _ _ => (g_tup (pfs_cons (gq ks) (pfs_cons (vf vt) pfs_nil))))))))
  (r_cons (r_setLc (own := [("_law_step", 8)]) G rfl rfl (sw_true rfl rfl rfl rfl) (s_list (vf vt)) gb1 rfl (blkOk_by (by kernel_rfl)) (fun _ _ _ _ _ => (tg1 (xg_blk G))) (fun _ _ _ _ _ => (pcs_one (t_of (kv_notN (ag (g_call (df_of d__law_after rfl hr (by decide)) L2.takes0 rfl g__law_after (pgs_cons (gg (vf vt)) (pgs_cons (gg (vf vt)) (pgs_cons (gg (vf vt)) pgs_nil))))))))) (fun _ _ _ _ _ => (vf vt)))
  (r_cons (r_if (t_of (kv_cmp (o_ne (G).h64) (va vt) (ag (g_lst pfs_nil)))) (r_cons (r_set G rfl (.inl rfl) (g_ix (va vt) (ag (g_call (df_of d__law_take rfl hr (by decide)) tk rfl g__law_take (pgs_cons (pg_io vt) (pgs_cons (gg (gq (q_len f_len (vq vt)))) pgs_nil))))))
  (r_cons (r_ex (g_app vt (vf vt)))
  (r_cons (r_set G rfl (.inr rfl) (g_call (df_of d__law_after rfl hr (by decide)) tk rfl g__law_after (pgs_cons (gg (vf vt)) (pgs_cons (gg (vf vt)) (pgs_cons (gg (vf vt)) pgs_nil)))))
  r_nil))) r_nil)
  r_nil)))))
  (r_cons (r_ret (vm vt))
  r_nil))))
/-- _law_bent -/
theorem sc_law_bent : FnScope ["_law_pile_here", "_law_steps_here", "_law_many", "_law_at", "_law_k", "_law_word", "_law_some"] ["_law_pile_here", "_law_steps_here", "_law_many"] (defScope (top 38)) := ⟨rfl, rfl, rfl, by decide +kernel, rfl, by decide +kernel, by decide +kernel⟩
def F_law_bent : List D → List RO → Option CR := runF T_law_steps 3 7 [0] c_law_bent
def T_law_bent : Tab := T_law_steps.ext 28 F_law_bent
theorem ok_law_bent {P : Program} {w : World} {K : PySem.W.Frag} {mg : Str → Option Value} {base : Heap} {ct : Str → Addr} {fa a__law_take : Addr} {fd : FuncData} (F : FunD K "_law_bent" "_law_bent" (defArgs (top 38)) (defBody (top 38)) (defScope (top 38)) [] [] fa fd) (f_len : mg "len" = none) (d__law_take : Dg P w K mg base ct 2 a__law_take 2 F_law_take) (g__law_take : mg "_law_take" = some (.ref a__law_take)) (f_str : mg "str" = none) :
    Dg P w K mg base ct 3 fa 3 F_law_bent := by
  refine dg_of (N := ["_law_pile_here", "_law_steps_here", "_law_many", "_law_at", "_law_k", "_law_word", "_law_some"]) (ps := ["_law_pile_here", "_law_steps_here", "_law_many"]) (k := 2) (Pn := [0]) (T := T_law_steps) (body := c_law_bent) F sc_law_bent rfl rfl (F.bindsN fun _ _ _ _ _ _ us hl => match us, hl with | [_, _, _], _ => rfl) fun cdv A outer s H E hr => ?_
  have G := xg_of (X := cxOf (L2.CX P w) P w K mg base ["_law_pile_here", "_law_steps_here", "_law_many", "_law_at", "_law_k", "_law_word", "_law_some"] "_law_bent" (defScope (top 38)) fa cdv A outer s H E) rfl sc_law_bent.nd hr
  have tk := takes_of (X := cxOf (L2.CX P w) P w K mg base ["_law_pile_here", "_law_steps_here", "_law_many", "_law_at", "_law_k", "_law_word", "_law_some"] "_law_bent" (defScope (top 38)) fa cdv A outer s H E) rfl rfl rfl rfl
  have hp := passes_of (X := cxOf (L2.CX P w) P w K mg base ["_law_pile_here", "_law_steps_here", "_law_many", "_law_at", "_law_k", "_law_word", "_law_some"] "_law_bent" (defScope (top 38)) fa cdv A outer s H E) rfl
  exact (r_cons (r_set G rfl (.inl rfl) (g_call (df_of d__law_take rfl hr (by decide)) tk rfl g__law_take (pgs_cons (pg_io vt) (pgs_cons (gg (g_bin o_add (aq (q_len f_len (vq vt))) (aq ki))) pgs_nil))))
  (r_cons (r_set G rfl (.inl rfl) (g_call (df_of d__law_take rfl hr (by decide)) tk rfl g__law_take (pgs_cons (pg_io vt) (pgs_cons (gg (g_bin o_add (va vt) (aq ki))) pgs_nil))))
  (r_cons (r_set G rfl (.inl rfl) (g_ix (ag (g_lst (pfs_cons (gq ks) (pfs_cons (gq ks) (pfs_cons (gq ks) pfs_nil))))) (ag (g_call (df_of d__law_take rfl hr (by decide)) tk rfl g__law_take (pgs_cons (pg_io vt) (pgs_cons (gg (gq ki)) pgs_nil))))))
  (r_cons (r_set G rfl (.inl rfl) (g_lst (pfs_cons (g_tup (pfs_cons (gq ks) (pfs_cons (vf vt) pfs_nil))) (pfs_cons (g_tup (pfs_cons (vf vt) (pfs_cons (gq (q_bin o_sub (q_bin o_sub ki ki) (vq vt))) pfs_nil))) (pfs_cons (g_tup (pfs_cons (vf vt) (pfs_cons (vf vt) pfs_nil))) (pfs_cons (g_tup (pfs_cons (vf vt) (pfs_cons (gq kb) pfs_nil))) (pfs_cons (g_tup (pfs_cons (vf vt) pfs_nil)) (pfs_cons (g_tup (pfs_cons (vf vt) (pfs_cons (vf vt) (pfs_cons (vf vt) pfs_nil)))) (pfs_cons (g_lst (pfs_cons (vf vt) (pfs_cons (vf vt) pfs_nil))) (pfs_cons (vf vt) (pfs_cons (gq kn) pfs_nil)))))))))))
  (r_cons (r_set G rfl (.inl rfl) (g_bin o_add (va vt) (ag (g_lst (pfs_cons (g_tup (pfs_cons (vf vt) (pfs_cons (gq kn) pfs_nil))) (pfs_cons (g_tup (pfs_cons (gq ks) (pfs_cons (vf vt) pfs_nil))) (pfs_cons (g_tup (pfs_cons (vf vt) (pfs_cons (vf vt) pfs_nil))) (pfs_cons (g_tup (pfs_cons (vf vt) (pfs_cons (gq (q_bin o_pow ki ki)) pfs_nil))) (pfs_cons (g_tup (pfs_cons (vf vt) (pfs_cons (vf vt) pfs_nil))) (pfs_cons (g_tup (pfs_cons (vf vt) (pfs_cons (vf vt) pfs_nil))) pfs_nil))))))))))
  (r_cons (r_set G rfl (.inl rfl) (g_bin o_add (va vt) (ag (g_lst (pfs_cons (g_tup (pfs_cons (g_lst (pfs_cons (vf vt) pfs_nil)) (pfs_cons (vf vt) pfs_nil))) (pfs_cons (g_tup (pfs_cons (gq kn) (pfs_cons (vf vt) pfs_nil))) (pfs_cons (g_tup (pfs_cons (vf vt) (pfs_cons (gq (q_str f_str (vq vt))) pfs_nil))) pfs_nil)))))))
  (r_cons (r_ret (g_bin o_add (ag (g_bin o_add (ag (sl01 (va vt) (vf vt))) (ag (g_lst (pfs_cons (g_ix (va vt) (ag (g_call (df_of d__law_take rfl hr (by decide)) tk rfl g__law_take (pgs_cons (pg_io vt) (pgs_cons (gg (gq (q_len f_len (vq vt)))) pgs_nil))))) pfs_nil))))) (ag (sl10 (va vt) (vf vt)))))
  r_nil)))))))
/-- Shape.computed -/
theorem sc_Shape_computed : FnScope ["self"] ["self"] (defScope (mth 15 4)) := ⟨rfl, rfl, rfl, by decide +kernel, rfl, by decide +kernel, by decide +kernel⟩
def F_Shape_computed : List D → List RO → Option CR := runF T_law_bent 1 1 [] c_Shape_computed
def T_Shape_computed : Tab := T_law_bent.ext 19 F_Shape_computed
theorem ok_Shape_computed {P : Program} {w : World} {K : PySem.W.Frag} {mg : Str → Option Value} {base : Heap} {ct : Str → Addr} {fa : Addr} {fd : FuncData} (F : FunD K "computed" "Shape.computed" (defArgs (mth 15 4)) (defBody (mth 15 4)) (defScope (mth 15 4)) [] [] fa fd) (f_list : mg "list" = none) (c_Shape : Cls K (ct "Shape")) (n_Shape_computed_cells : NoAttr K (ct "Shape") "computed_cells") :
    Dg P w K mg base ct 1 fa 1 F_Shape_computed := by
  refine dg_of (N := ["self"]) (ps := ["self"]) (k := 0) (Pn := []) (T := T_law_bent) (body := c_Shape_computed) F sc_Shape_computed rfl rfl (F.bindsN fun _ _ _ _ _ _ us hl => match us, hl with | [_], _ => rfl) fun cdv A outer s H E hr => ?_
  have G := xg_of (X := cxOf (L2.CX P w) P w K mg base ["self"] "Shape.computed" (defScope (mth 15 4)) fa cdv A outer s H E) rfl sc_Shape_computed.nd hr
  have tk := takes_of (X := cxOf (L2.CX P w) P w K mg base ["self"] "Shape.computed" (defScope (mth 15 4)) fa cdv A outer s H E) rfl rfl rfl rfl
  have hp := passes_of (X := cxOf (L2.CX P w) P w K mg base ["self"] "Shape.computed" (defScope (mth 15 4)) fa cdv A outer s H E) rfl
  exact (r_cons (r_ret (g_list f_list (aq (q_fld (vq vt) c_Shape n_Shape_computed_cells))))
  r_nil)
/-- checked_row -/
theorem sc_checked_row : FnScope ["shape", "row", "computed", "index", "thing"] ["shape", "row"] (defScope (top 8)) := ⟨rfl, rfl, rfl, by decide +kernel, rfl, by decide +kernel, by decide +kernel⟩
def F_checked_row : List D → List RO → Option CR := runF T_Shape_computed 2 5 [] c_checked_row
def T_checked_row : Tab := T_Shape_computed.ext 20 F_checked_row
theorem ok_checked_row {P : Program} {w : World} {K : PySem.W.Frag} {mg : Str → Option Value} {base : Heap} {ct : Str → Addr} {fa a_Shape_computed : Addr} {fd : FuncData} (F : FunD K "checked_row" "checked_row" (defArgs (top 8)) (defBody (top 8)) (defScope (top 8)) [] [] fa fd) (f_isinstance : mg "isinstance" = none) (f_list : mg "list" = none) (c_Shape : Cls K (ct "Shape")) (m_Shape_computed : Meth K (ct "Shape") "computed" a_Shape_computed) (d_Shape_computed : Dg P w K mg base ct 1 a_Shape_computed 1 F_Shape_computed) (i_MOST : ∃ t, mg "MOST" = some (.int 120 t)) (f_enumerate : mg "enumerate" = none) (f_str : mg "str" = none) (f_len : mg "len" = none) :
    Dg P w K mg base ct 2 fa 2 F_checked_row := by
  refine dg_of (N := ["shape", "row", "computed", "index", "thing"]) (ps := ["shape", "row"]) (k := 1) (Pn := []) (T := T_Shape_computed) (body := c_checked_row) F sc_checked_row rfl rfl (F.bindsN fun _ _ _ _ _ _ us hl => match us, hl with | [_, _], _ => rfl) fun cdv A outer s H E hr => ?_
  have G := xg_of (X := cxOf (L2.CX P w) P w K mg base ["shape", "row", "computed", "index", "thing"] "checked_row" (defScope (top 8)) fa cdv A outer s H E) rfl sc_checked_row.nd hr
  have tk := takes_of (X := cxOf (L2.CX P w) P w K mg base ["shape", "row", "computed", "index", "thing"] "checked_row" (defScope (top 8)) fa cdv A outer s H E) rfl rfl rfl rfl
  have hp := passes_of (X := cxOf (L2.CX P w) P w K mg base ["shape", "row", "computed", "index", "thing"] "checked_row" (defScope (top 8)) fa cdv A outer s H E) rfl
  exact (r_cons (r_if (ptc_no (ptc_val (gq (q_is f_isinstance f_list bb_list (vq vt))))) (r_cons r_never
  r_nil) r_nil)
  (r_cons (r_set G rfl (.inl rfl) (g_meth0 (vq vt) (dm_of c_Shape m_Shape_computed (df_of d_Shape_computed rfl hr (by decide))) tk))
  (r_cons (r_for G hp (s_enum rfl f_enumerate (sl01 (va vt) (gq (kgi i_MOST)))) (tg2 G (tg1 G) (tg1 G)) gb2 (r_cons (r_if (ptc_w (pwc_or (ptc_no (ptc_val (gq (q_is f_isinstance f_str bb_str (vq vt))))) (pwc_or1 (t_of (kv_q (k_cmp (o_nmem (G).hu) (vq vt) (vq vt))))))) (r_cons r_never
  r_nil) r_nil)
  r_nil))
  (r_cons (r_if (t_of (kv_q (k_cmp o_gt (q_len f_len (vq vt)) (kgi i_MOST)))) (r_cons r_never
  r_nil) r_nil)
  (r_cons (r_ret (g_list f_list (va vt)))
  r_nil)))))
/-- step_fits -/
theorem sc_step_fits : FnScope ["row", "step", "word", "index"] ["row", "step"] (defScope (top 20)) := ⟨rfl, rfl, rfl, by decide +kernel, rfl, by decide +kernel, by decide +kernel⟩
def F_step_fits : List D → List RO → Option CR := runF T_checked_row 2 4 [0] c_step_fits
def T_step_fits : Tab := T_checked_row.ext 29 F_step_fits
theorem ok_step_fits {P : Program} {w : World} {K : PySem.W.Frag} {mg : Str → Option Value} {base : Heap} {ct : Str → Addr} {fa : Addr} {fd : FuncData} (F : FunD K "step_fits" "step_fits" (defArgs (top 20)) (defBody (top 20)) (defScope (top 20)) [] [] fa fd) (f_isinstance : mg "isinstance" = none) (f_tuple : mg "tuple" = none) (f_len : mg "len" = none) (f_bool : mg "bool" = none) (f_int : mg "int" = none) :
    Dg P w K mg base ct 1 fa 2 F_step_fits := by
  refine dg_of (N := ["row", "step", "word", "index"]) (ps := ["row", "step"]) (k := 0) (Pn := [0]) (T := T_checked_row) (body := c_step_fits) F sc_step_fits rfl rfl (F.bindsN fun _ _ _ _ _ _ us hl => match us, hl with | [_, _], _ => rfl) fun cdv A outer s H E hr => ?_
  have G := xg_of (X := cxOf (L2.CX P w) P w K mg base ["row", "step", "word", "index"] "step_fits" (defScope (top 20)) fa cdv A outer s H E) rfl sc_step_fits.nd hr
  have tk := takes_of (X := cxOf (L2.CX P w) P w K mg base ["row", "step", "word", "index"] "step_fits" (defScope (top 20)) fa cdv A outer s H E) rfl rfl rfl rfl
  have hp := passes_of (X := cxOf (L2.CX P w) P w K mg base ["row", "step", "word", "index"] "step_fits" (defScope (top 20)) fa cdv A outer s H E) rfl
  exact (r_cons (r_if (ptc_w (pwc_or (ptc_no (ptc_val (gq (q_is f_isinstance f_tuple bb_tuple (vq vt))))) (pwc_or (t_of (kv_q (k_cmp (o_ne (G).h64) (q_len f_len (vq vt)) ki))) (pwc_or1 (t_of (kv_cmp (o_nmem (G).hu) (aq (q_ix (vq vt) ki)) (ag (g_tup (pfs_cons (gq ks) (pfs_cons (gq ks) (pfs_cons (gq ks) pfs_nil))))))))))) (r_cons (r_ret (gq kb))
  r_nil) r_nil)
  (r_cons (r_asg (vf vt) (tg2 G (tg1 G) (tg1 G)) gb2)
  (r_cons (r_if (ptc_w (pwc_or (ptc_val (gq (q_is f_isinstance f_bool bb_bool (vq vt)))) (pwc_or1 (ptc_no (ptc_val (gq (q_is f_isinstance f_int bb_int (vq vt)))))))) (r_cons (r_ret (gq kb))
  r_nil) r_nil)
  (r_cons (r_ret (g_chn o_le o_lt (gq ki) (vf vt) (gq (q_bin o_sub (q_len f_len (vq vt)) (q_int f_int (q_of (k_cmp (o_eq (G).h64) (vq vt) ks)))))))
  r_nil))))
/-- next_of -/
theorem sc_next_of_2 : FnScope ["row", "place", "later"] ["row", "place"] (defScope (top 19)) := ⟨rfl, rfl, rfl, by decide +kernel, rfl, by decide +kernel, by decide +kernel⟩
def F_next_of_2 : List D → List RO → Option CR := runF T_step_fits 2 3 [0] c_next_of_2
def T_next_of_2 : Tab := T_step_fits.ext 30 F_next_of_2
theorem ok_next_of_2 {P : Program} {w : World} {K : PySem.W.Frag} {mg : Str → Option Value} {base : Heap} {ct : Str → Addr} {fa : Addr} {fd : FuncData} (F : FunD K "next_of" "next_of" (defArgs (top 19)) (defBody (top 19)) (defScope (top 19)) [] [] fa fd) (f_len : mg "len" = none) (f_range : mg "range" = none) :
    Dg P w K mg base ct 1 fa 2 F_next_of_2 := by
  refine dg_of (N := ["row", "place", "later"]) (ps := ["row", "place"]) (k := 0) (Pn := [0]) (T := T_step_fits) (body := c_next_of_2) F sc_next_of_2 rfl rfl (F.bindsN fun _ _ _ _ _ _ us hl => match us, hl with | [_, _], _ => rfl) fun cdv A outer s H E hr => ?_
  have G := xg_of (X := cxOf (L2.CX P w) P w K mg base ["row", "place", "later"] "next_of" (defScope (top 19)) fa cdv A outer s H E) rfl sc_next_of_2.nd hr
  have tk := takes_of (X := cxOf (L2.CX P w) P w K mg base ["row", "place", "later"] "next_of" (defScope (top 19)) fa cdv A outer s H E) rfl rfl rfl rfl
  have hp := passes_of (X := cxOf (L2.CX P w) P w K mg base ["row", "place", "later"] "next_of" (defScope (top 19)) fa cdv A outer s H E) rfl
  exact (r_cons (r_for G hp (s_rng2 rfl f_range (g_bin o_add (va vt) (aq ki)) (gq (q_len f_len (vq vt)))) (tg1 G) gb1 (r_cons (r_if (t_of (kv_q (k_cmp (o_eq (G).h64) (q_ix (vq vt) (vq vt)) (q_ix (vq vt) (vq vt))))) (r_cons (r_ret (vm vt))
  r_nil) r_nil)
  r_nil))
  (r_cons (r_ret (gq kn))
  r_nil))
/-- are_related -/
theorem sc_are_related : FnScope ["shape", "cell", "other"] ["shape", "cell", "other"] (defScope (top 16)) := ⟨rfl, rfl, rfl, by decide +kernel, rfl, by decide +kernel, by decide +kernel⟩
def F_are_related : List D → List RO → Option CR := runF T_next_of_2 3 3 [] c_are_related
def T_are_related : Tab := T_next_of_2.ext 31 F_are_related
theorem ok_are_related {P : Program} {w : World} {K : PySem.W.Frag} {mg : Str → Option Value} {base : Heap} {ct : Str → Addr} {fa : Addr} {fd : FuncData} (F : FunD K "are_related" "are_related" (defArgs (top 16)) (defBody (top 16)) (defScope (top 16)) [] [] fa fd) (c_Shape : Cls K (ct "Shape")) (n_Shape_reading : NoAttr K (ct "Shape") "reading") :
    Dg P w K mg base ct 1 fa 3 F_are_related := by
  refine dg_of (N := ["shape", "cell", "other"]) (ps := ["shape", "cell", "other"]) (k := 0) (Pn := []) (T := T_next_of_2) (body := c_are_related) F sc_are_related rfl rfl (F.bindsN fun _ _ _ _ _ _ us hl => match us, hl with | [_, _, _], _ => rfl) fun cdv A outer s H E hr => ?_
  have G := xg_of (X := cxOf (L2.CX P w) P w K mg base ["shape", "cell", "other"] "are_related" (defScope (top 16)) fa cdv A outer s H E) rfl sc_are_related.nd hr
  have tk := takes_of (X := cxOf (L2.CX P w) P w K mg base ["shape", "cell", "other"] "are_related" (defScope (top 16)) fa cdv A outer s H E) rfl rfl rfl rfl
  have hp := passes_of (X := cxOf (L2.CX P w) P w K mg base ["shape", "cell", "other"] "are_related" (defScope (top 16)) fa cdv A outer s H E) rfl
  exact (r_cons (r_if (t_of (kv_q (k_cmp (o_eq (G).h64) (vq vt) (vq vt)))) (r_cons (r_ret (gq kb))
  r_nil) r_nil)
  (r_cons (r_ret (g_or (g_of (kv_cmp (o_mem (G).hu) (va vt) (ag (g_dgt G (gq (q_fld (vq vt) c_Shape n_Shape_reading)) (vf vt) (g_tup pfs_nil) ⟨by rfl, by rfl, by rfl, by rfl⟩)))) (g_and1 (g_of (kv_cmp (o_mem (G).hu) (va vt) (ag (g_dgt G (gq (q_fld (vq vt) c_Shape n_Shape_reading)) (vf vt) (g_tup pfs_nil) ⟨by rfl, by rfl, by rfl, by rfl⟩)))))))
  r_nil))
/-- step_allowed -/
theorem sc_step_allowed : FnScope ["shape", "row", "word", "index", "cell", "reads", "later", "ahead", "place", "one"] ["shape", "row", "word", "index"] (defScope (top 21)) := ⟨rfl, rfl, rfl, by decide +kernel, rfl, by decide +kernel, by decide +kernel⟩
def F_step_allowed : List D → List RO → Option CR := runF T_are_related 4 10 [1] c_step_allowed
def T_step_allowed : Tab := T_are_related.ext 32 F_step_allowed
theorem ok_step_allowed {P : Program} {w : World} {K : PySem.W.Frag} {mg : Str → Option Value} {base : Heap} {ct : Str → Addr} {fa a_are_related a_next_of : Addr} {fd : FuncData} (F : FunD K "step_allowed" "step_allowed" (defArgs (top 21)) (defBody (top 21)) (defScope (top 21)) [] [] fa fd) (c_Shape : Cls K (ct "Shape")) (n_Shape_reading : NoAttr K (ct "Shape") "reading") (d_are_related : Dg P w K mg base ct 1 a_are_related 3 F_are_related) (g_are_related : mg "are_related" = some (.ref a_are_related)) (f_range : mg "range" = none) (f_any : mg "any" = none) (d_next_of : Dg P w K mg base ct 1 a_next_of 2 F_next_of_2) (g_next_of : mg "next_of" = some (.ref a_next_of)) :
    Dg P w K mg base ct 2 fa 4 F_step_allowed := by
  refine dg_of (N := ["shape", "row", "word", "index", "cell", "reads", "later", "ahead", "place", "one"]) (ps := ["shape", "row", "word", "index"]) (k := 1) (Pn := [1]) (T := T_are_related) (body := c_step_allowed) F sc_step_allowed rfl rfl (F.bindsN fun _ _ _ _ _ _ us hl => match us, hl with | [_, _, _, _], _ => rfl) fun cdv A outer s H E hr => ?_
  have G := xg_of (X := cxOf (L2.CX P w) P w K mg base ["shape", "row", "word", "index", "cell", "reads", "later", "ahead", "place", "one"] "step_allowed" (defScope (top 21)) fa cdv A outer s H E) rfl sc_step_allowed.nd hr
  have tk := takes_of (X := cxOf (L2.CX P w) P w K mg base ["shape", "row", "word", "index", "cell", "reads", "later", "ahead", "place", "one"] "step_allowed" (defScope (top 21)) fa cdv A outer s H E) rfl rfl rfl rfl
  have hp := passes_of (X := cxOf (L2.CX P w) P w K mg base ["shape", "row", "word", "index", "cell", "reads", "later", "ahead", "place", "one"] "step_allowed" (defScope (top 21)) fa cdv A outer s H E) rfl
  exact (r_cons (r_set G rfl (.inr rfl) (gq (q_ix (vq vt) (vq vt))))
  (r_cons (r_set G rfl (.inr rfl) (gq (q_ixd G (q_fld (vq vt) c_Shape n_Shape_reading) (vq vt))))
  (r_cons (r_if (t_of (kv_q (k_cmp (o_eq (G).h64) (vq vt) ks))) (r_cons (r_ret (g_not (g_call (df_of d_are_related rfl hr (by decide)) tk rfl g_are_related (pgs_cons (gg (vf vt)) (pgs_cons (gg (vf vt)) (pgs_cons (gg (g_ix (va vt) (ag (g_bin o_add (va vt) (aq ki))))) pgs_nil))))))
  r_nil) r_nil)
  (r_cons (r_if (t_of (kv_q (k_cmp (o_eq (G).h64) (vq vt) ks))) (r_cons (r_setLc (own := [("place", 8)]) G rfl rfl (sw_true rfl rfl rfl rfl) (s_rng1 rfl f_range (vf vt)) gb1 rfl (blkOk_by (by kernel_rfl)) (fun _ _ _ _ _ => (tg1 (xg_blk G))) (fun _ _ _ _ _ => (pcs_one (t_of (kv_q (k_cmp (o_eq ((xg_blk G)).h64) (q_ix (vq vt) (vq vt)) (vq vt)))))) (fun _ _ _ _ _ => (vf vt)))
  (r_cons (r_ret (g_and (g_of (kv_cmp (o_ne (G).h64) (va vt) (ag (g_lst pfs_nil)))) (g_and (gq (q_of (k_cmp (o_nmem (G).hu) (vq vt) (vq vt)))) (g_and1 (g_not (g_any G f_any (ag (g_lc (own := [("one", 9)]) G (s_list (sl11 (va vt) (gq (q_ix (vq vt) (q_neg ki))) (vf vt))) gb1 rfl (blkOk_by (by kernel_rfl)) (fun _ _ _ _ _ => (tg1 (xg_blk G))) (fun _ _ _ _ _ => pcs_nil) (fun _ _ _ _ _ => (gq (q_of (k_cmp (o_mem ((xg_blk G)).hu) (vq vt) (vq vt)))))))))))))
  r_nil)) r_nil)
  (r_cons (r_set G rfl (.inl rfl) (g_call (df_of d_next_of rfl hr (by decide)) tk rfl g_next_of (pgs_cons (pg_io vt) (pgs_cons (gg (vf vt)) pgs_nil))))
  (r_cons (r_if (ptc_w (pwc_or (t_of (kv_q (k_isN (vq vt)))) (pwc_or1 (t_of (kv_q (k_cmp (o_mem (G).hu) (vq vt) (vq vt))))))) (r_cons (r_ret (gq kb))
  r_nil) r_nil)
  (r_cons (r_ret (g_not (g_any G f_any (ag (g_lc (own := [("one", 9)]) G (s_list (sl11 (va vt) (vf vt) (vf vt))) gb1 rfl (blkOk_by (by kernel_rfl)) (fun _ _ _ _ _ => (tg1 (xg_blk G))) (fun _ _ _ _ _ => pcs_nil) (fun _ _ _ _ _ => (gq (q_of (k_cmp (o_mem ((xg_blk G)).hu) (vq vt) (q_ixd (xg_blk G) (q_fld (vq vt) c_Shape n_Shape_reading) (vq vt)))))))))))
  r_nil)))))))
/-- after_steps -/
theorem sc_after_steps : FnScope ["shape", "row", "steps", "found", "step", "command", "word", "index"] ["shape", "row", "steps"] (defScope (top 22)) := ⟨rfl, rfl, rfl, by decide +kernel, rfl, by decide +kernel, by decide +kernel⟩
def F_after_steps : List D → List RO → Option CR := runF T_step_allowed 3 8 [] c_after_steps
def T_after_steps : Tab := T_step_allowed.ext 33 F_after_steps
theorem ok_after_steps {P : Program} {w : World} {K : PySem.W.Frag} {mg : Str → Option Value} {base : Heap} {ct : Str → Addr} {fa a_checked_row a_step_allowed a_step_fits : Addr} {fd : FuncData} (F : FunD K "after_steps" "after_steps" (defArgs (top 22)) (defBody (top 22)) (defScope (top 22)) [] [] fa fd) (d_checked_row : Dg P w K mg base ct 2 a_checked_row 2 F_checked_row) (g_checked_row : mg "checked_row" = some (.ref a_checked_row)) (d_step_fits : Dg P w K mg base ct 1 a_step_fits 2 F_step_fits) (g_step_fits : mg "step_fits" = some (.ref a_step_fits)) (d_step_allowed : Dg P w K mg base ct 2 a_step_allowed 4 F_step_allowed) (g_step_allowed : mg "step_allowed" = some (.ref a_step_allowed)) :
    Dg P w K mg base ct 3 fa 3 F_after_steps := by
  refine dg_of (N := ["shape", "row", "steps", "found", "step", "command", "word", "index"]) (ps := ["shape", "row", "steps"]) (k := 2) (Pn := []) (T := T_step_allowed) (body := c_after_steps) F sc_after_steps rfl rfl (F.bindsN fun _ _ _ _ _ _ us hl => match us, hl with | [_, _, _], _ => rfl) fun cdv A outer s H E hr => ?_
  have G := xg_of (X := cxOf (L2.CX P w) P w K mg base ["shape", "row", "steps", "found", "step", "command", "word", "index"] "after_steps" (defScope (top 22)) fa cdv A outer s H E) rfl sc_after_steps.nd hr
  have tk := takes_of (X := cxOf (L2.CX P w) P w K mg base ["shape", "row", "steps", "found", "step", "command", "word", "index"] "after_steps" (defScope (top 22)) fa cdv A outer s H E) rfl rfl rfl rfl
  have hp := passes_of (X := cxOf (L2.CX P w) P w K mg base ["shape", "row", "steps", "found", "step", "command", "word", "index"] "after_steps" (defScope (top 22)) fa cdv A outer s H E) rfl
  exact (r_cons (r_set G rfl (.inl rfl) (g_call (df_of d_checked_row rfl hr (by decide)) tk rfl g_checked_row (pgs_cons (gg (vf vt)) (pgs_cons (gg (vf vt)) pgs_nil))))
  (r_cons (r_for G hp (s_list (vf vt)) (tg1 G) gb1 (r_cons (r_if (ptc_no (ptc_val (g_call (df_of d_step_fits rfl hr (by decide)) tk rfl g_step_fits (pgs_cons (pg_io vt) (pgs_cons (gg (vf vt)) pgs_nil))))) (r_cons (r_ret (gq kn))
  r_nil) r_nil)
  (r_cons (r_asg (vf vt) (tg2 G (tg1 G) (tg1 G)) gb2)
  (r_cons (r_if (ptc_no (ptc_val (g_call (df_of d_step_allowed rfl hr (by decide)) tk rfl g_step_allowed (pgs_cons (gg (vf vt)) (pgs_cons (pg_io vt) (pgs_cons (gg (vf vt)) (pgs_cons (gg (vf vt)) pgs_nil))))))) (r_cons (r_ret (gq kn))
  r_nil) r_nil)
  (r_cons (r_set G rfl (.inl rfl) (g_popa vt (vf vt)))
  (r_cons (r_if (t_of (kv_q (k_cmp (o_eq (G).h64) (vq vt) ks))) (r_cons (r_ex (g_insr vt (g_bin o_add (va vt) (aq ki)) (vf vt)))
  r_nil) r_nil)
  r_nil))))))
  (r_cons (r_ret (vm vt))
  r_nil)))
/-- law -/
theorem sc_law_2 : FnScope ["_law_script", "_law_at", "_law_pile_here", "_law_shape_here", "_law_reads_here", "_law_commands", "_law_steps_here", "_law_due", "_law_step", "_law_handed", "_law_turn", "_law_plain", "_law_entries_here", "_law_found"] ["_law_script"] (defScope (top 39)) := ⟨rfl, rfl, rfl, by decide +kernel, rfl, by decide +kernel, by decide +kernel⟩
theorem ok_law_2 {P : Program} {w : World} {K : PySem.W.Frag} {mg : Str → Option Value} {base : Heap} {ct : Str → Addr} {fa a_Shape___init__ a__law_after a__law_bent a__law_pile a__law_reads a__law_row a__law_shape a__law_steps a__law_take a_after_steps : Addr} {fd : FuncData} (F : FunD K "law" "law" (defArgs (top 39)) (defBody (top 39)) (defScope (top 39)) [] [] fa fd) (f_range : mg "range" = none) (d__law_pile : Dg P w K mg base ct 1 a__law_pile 2 F_law_pile) (g__law_pile : mg "_law_pile" = some (.ref a__law_pile)) (d__law_shape : Dg P w K mg base ct 5 a__law_shape 3 F_law_shape) (g__law_shape : mg "_law_shape" = some (.ref a__law_shape)) (d_Shape___init__ : Dg P w K mg base ct 3 a_Shape___init__ 3 F_Shape___init__) (g_Shape : mg "Shape" = some (.ref (ct "Shape"))) (k_Shape : Mk K (ct "Shape") a_Shape___init__) (d__law_reads : Dg P w K mg base ct 1 a__law_reads 2 F_law_reads) (g__law_reads : mg "_law_reads" = some (.ref a__law_reads)) (d__law_row : Dg P w K mg base ct 3 a__law_row 3 F_law_row) (g__law_row : mg "_law_row" = some (.ref a__law_row)) (d__law_steps : Dg P w K mg base ct 3 a__law_steps 3 F_law_steps) (g__law_steps : mg "_law_steps" = some (.ref a__law_steps)) (d__law_take : Dg P w K mg base ct 2 a__law_take 2 F_law_take) (g__law_take : mg "_law_take" = some (.ref a__law_take)) (f_len : mg "len" = none) (d__law_bent : Dg P w K mg base ct 3 a__law_bent 3 F_law_bent) (g__law_bent : mg "_law_bent" = some (.ref a__law_bent)) (f_list : mg "list" = none) (d__law_after : Dg P w K mg base ct 2 a__law_after 3 F_law_after) (g__law_after : mg "_law_after" = some (.ref a__law_after)) (d_after_steps : Dg P w K mg base ct 3 a_after_steps 3 F_after_steps) (g_after_steps : mg "after_steps" = some (.ref a_after_steps))
    (plain : ∀ ns : List Int, ns.length ≤ 63 → ∃ s, execs T_after_steps [] c_law_2 ⟨some (.scr ns) :: List.replicate (14 - 1) none, []⟩ = some (.ok (.rt (.bl true)) s)) :
    FnOk P w K mg base CX0 6 fa fd ["_law_script"] (spL K 63) := by
  refine law_okV (N := ["_law_script", "_law_at", "_law_pile_here", "_law_shape_here", "_law_reads_here", "_law_commands", "_law_steps_here", "_law_due", "_law_step", "_law_handed", "_law_turn", "_law_plain", "_law_entries_here", "_law_found"]) (k := 5) (ct := ct) (T := T_after_steps) (body := c_law_2) F sc_law_2 rfl (fun cdv A outer s H E hr => ?_) plain
  have G := xg_of (X := cxOf CX0 P w K mg base ["_law_script", "_law_at", "_law_pile_here", "_law_shape_here", "_law_reads_here", "_law_commands", "_law_steps_here", "_law_due", "_law_step", "_law_handed", "_law_turn", "_law_plain", "_law_entries_here", "_law_found"] "law" (defScope (top 39)) fa cdv A outer s H E) rfl sc_law_2.nd hr
  have tk : Takes (cxOf CX0 P w K mg base ["_law_script", "_law_at", "_law_pile_here", "_law_shape_here", "_law_reads_here", "_law_commands", "_law_steps_here", "_law_due", "_law_step", "_law_handed", "_law_turn", "_law_plain", "_law_entries_here", "_law_found"] "law" (defScope (top 39)) fa cdv A outer s H E) (fun _ _ _ _ => False) := L2.takes0
  have hp := passes_of (X := cxOf CX0 P w K mg base ["_law_script", "_law_at", "_law_pile_here", "_law_shape_here", "_law_reads_here", "_law_commands", "_law_steps_here", "_law_due", "_law_step", "_law_handed", "_law_turn", "_law_plain", "_law_entries_here", "_law_found"] "law" (defScope (top 39)) fa cdv A outer s H E) rfl
  exact (r_cons (r_for G hp (s_rng1 rfl f_range (gq ki)) (tg1 G) gb1 (r_cons (r_set G rfl (.inl rfl) (g_call (df_of d__law_pile rfl hr (by decide)) tk rfl g__law_pile (pgs_cons (gg (vf vt)) (pgs_cons (gg (vf vt)) pgs_nil))))
  (r_cons (r_asg (g_call (df_of d__law_shape rfl hr (by decide)) tk rfl g__law_shape (pgs_cons (pg_io vt) (pgs_cons (gg (gq ki)) (pgs_cons (gg (gq ki)) pgs_nil)))) (tg2 G (tg1 G) (tg1 G)) gb2)
  (r_cons (r_set G rfl (.inl rfl) (g_mk (dk_ofG k_Shape d_Shape___init__ rfl hr (by decide)) tk rfl g_Shape (pgs_cons (gg (vf vt)) (pgs_cons (gg (vf vt)) pgs_nil))))
  (r_cons (r_set G rfl (.inl rfl) (g_call (df_of d__law_reads rfl hr (by decide)) tk rfl g__law_reads (pgs_cons (gg (vf vt)) (pgs_cons (gg (vf vt)) pgs_nil))))
  (r_cons (r_set G rfl (.inl rfl) (g_call (df_of d__law_row rfl hr (by decide)) tk rfl g__law_row (pgs_cons (pg_io vt) (pgs_cons (gg (vf vt)) (pgs_cons (gg (gq ki)) pgs_nil)))))
  (r_cons (r_set G rfl (.inl rfl) (g_call (df_of d__law_steps rfl hr (by decide)) tk rfl g__law_steps (pgs_cons (pg_io vt) (pgs_cons (gg (vf vt)) (pgs_cons (gg (vf vt)) pgs_nil)))))
  (r_cons (r_if (t_of (kv_cmp (o_eq (G).h64) (ag (g_call (df_of d__law_take rfl hr (by decide)) tk rfl g__law_take (pgs_cons (pg_io vt) (pgs_cons (gg (gq ki)) pgs_nil)))) (aq ki))) (r_cons (r_set G rfl (.inl rfl) (g_call (df_of d__law_bent rfl hr (by decide)) tk rfl g__law_bent (pgs_cons (pg_io vt) (pgs_cons (gg (vf vt)) (pgs_cons (gg (gq (q_len f_len (vq vt)))) pgs_nil)))))
  r_nil) r_nil)
  (r_cons (r_set G rfl (.inl rfl) (g_list f_list (va vt)))
  (r_cons (r_for G hp (s_list (vf vt)) (tg1 G) gb1 (r_cons (r_if (t_of (kv_q (k_notN (vq vt)))) (r_cons (r_set G rfl (.inl rfl) (g_call (df_of d__law_after rfl hr (by decide)) tk rfl g__law_after (pgs_cons (gg (vf vt)) (pgs_cons (gg (vf vt)) (pgs_cons (gg (vf vt)) pgs_nil)))))
  r_nil) r_nil)
  r_nil))
  (r_cons (r_set G rfl (.inl rfl) (g_lst (pfs_cons (g_list f_list (va vt)) (pfs_cons (g_list f_list (va vt)) pfs_nil))))
  (r_cons (r_for G hp (s_rng1 rfl f_range (gq ki)) (tg1 G) gb1 (r_cons (r_set G rfl (.inl rfl) (g_call (df_of d_after_steps rfl hr (by decide)) tk rfl g_after_steps (pgs_cons (gg (vf vt)) (pgs_cons (gg (gq (q_ix (vq vt) ki))) (pgs_cons (gg (gq (q_ix (vq vt) ki))) pgs_nil)))))
  (r_cons (r_if (ptc_w (pwc_or (t_of (kv_q (k_cmp (o_ne (G).h64) (vq vt) (vq vt)))) (pwc_or1 (t_of (kv_cmp (o_ne (G).h64) (va vt) (ag (g_lst (pfs_cons (vf vt) (pfs_cons (vf vt) pfs_nil))))))))) (r_cons (r_ret (gq kb))
  r_nil) r_nil)
  (r_cons (r_if (t_of (kv_q (k_notN (vq vt)))) (r_cons (r_ex (g_app vt (gq ks)))
  r_nil) r_nil)
  r_nil))))
  r_nil))))))))))))
  (r_cons (r_ret (gq kb))
  r_nil))
end VK

namespace VK
open VI
open PySem (PyData Str)
section
variable {α β : Type} {T : Tab} {Pn : List Nat}
def bR (r : Option (Res α)) (f : α → M β) : Option (Res β) := match r with
  | some (.ok a s) => f a s
  | some (.ex x s) => some (.ex x s)
  | none => none
theorem b_app (m : M α) (f : α → M β) (s : VS) : M.bnd m f s = bR (m s) f := rfl
theorem b_ok (a : α) (s : VS) (f : α → M β) : bR (some (.ok a s)) f = f a s := rfl
theorem ret_app (a : α) (s : VS) : M.ret a s = some (.ok a s) := rfl
theorem opt_some (a : α) (s : VS) : M.opt (some a) s = some (.ok a s) := rfl
def okF (d : D) (s : VS) : Option (Res D) := if allF d then some (.ok d s) else none
def qR (o : Option D) (s : VS) : Option (Res D) := match o with
  | some d => okF d s
  | none => none
theorem qR_some (d : D) (s : VS) : qR (some d) s = okF d s := rfl
theorem ev_con (d : D) (s : VS) : ev T (.con d) s = okF d s := rfl
theorem ev_glo (x : Str) (s : VS) : ev T (.glo x) s = qR (T.glo x) s := by simp only [ev]; rfl
theorem ev_fld (C f : Str) (q : Ex) (s : VS) : ev T (.fld C q f) s = qR (evq T s (.fld C q f)) s := by simp only [ev]; rfl
theorem ev_prq (p : Pr) (as : List Ex) (s : VS) (h : (p.quiet && isQs as) = true) : ev T (.pr p as) s = qR ((evqs T s as).bind p.fn) s := by
  rw [ev, if_pos h]
  simp only [evq]
  rfl
def gR (p : Pr) (o : Option (List D)) (s : VS) : Option (Res D) := match o with
  | some ds => (p.fn ds).map fun d => .ok d s
  | none => none
theorem gR_some (p : Pr) (ds : List D) (s : VS) : gR p (some ds) s = (p.fn ds).map fun d => .ok d s := rfl
theorem ev_prg (p : Pr) (as : List Ex) (s : VS) (h : (p.quiet && isQs as) = false) : ev T (.pr p as) s = bR (evA T as s) fun vs s => gR p (AV.gets s vs) s := by
  rw [ev, if_neg (by rw [h]; decide)]
  rfl
def sR (o : Option (Option D)) (f : D → Option (Res α)) : Option (Res α) := match o with
  | some (some d) => f d
  | _ => none
theorem sR_some (d : D) (f : D → Option (Res α)) : sR (some (some d)) f = f d := rfl
theorem ev_var (i : Nat) (s : VS) : ev T (.var i) s = sR s.ρ[i]? fun d => okF d s := by simp only [ev]; rfl
theorem ev_frv (i : Nat) (s : VS) : ev T (.frv i) s = sR s.ρ[i]? fun d => some (.ok (frz d) ⟨s.ρ.set i (some (frz d)), s.μ⟩) := by simp only [ev]; rfl
theorem ev_mov (i : Nat) (s : VS) : ev T (.mov i) s = sR s.ρ[i]? fun d => some (.ok d ⟨s.ρ.set i none, s.μ⟩) := by simp only [ev]; rfl
theorem slot_app (i : Nat) (s : VS) : slotM i s = sR s.ρ[i]? fun _ => some (.ok (.sl i) s) := by
  unfold slotM sR
  cases s.ρ[i]? with
  | none => rfl
  | some o => cases o <;> rfl
theorem evs_nil (s : VS) : evs T [] s = some (.ok [] s) := by simp only [evs]; rfl
theorem evs_cons (a : Ex) (as : List Ex) (s : VS) : evs T (a :: as) s = bR (ev T a s) fun d s => bR (evs T as s) fun ds s => some (.ok (frz d :: ds) s) := by simp only [evs]; rfl
theorem evA_nil (s : VS) : evA T [] s = some (.ok [] s) := by simp only [evA]; rfl
theorem evA_var (i : Nat) (as : List Ex) (s : VS) : evA T (.var i :: as) s = sR s.ρ[i]? fun _ => bR (evA T as s) fun ds s => some (.ok (.sl i :: ds) s) := by
  simp only [evA, b_app, slot_app]
  unfold sR
  split <;> rfl
theorem evA_cons (a : Ex) (as : List Ex) (s : VS) (h : ∀ i, a ≠ .var i) : evA T (a :: as) s = bR (ev T a s) fun d s => bR (evA T as s) fun ds s => some (.ok (.val (frz d) :: ds) s) := by
  cases a <;> first | exact absurd rfl (h _) | (simp only [evA]; rfl)
theorem evG_nil (s : VS) : evG T [] s = some (.ok [] s) := by simp only [evG]; rfl
theorem evG_io (i : Nat) (as : List Ex) (s : VS) : evG T (.io i :: as) s = sR s.ρ[i]? fun _ => bR (evG T as s) fun ds s => some (.ok (.sl i :: ds) s) := by
  simp only [evG, b_app, slot_app]
  unfold sR
  split <;> rfl
theorem evG_cons (a : Ex) (as : List Ex) (s : VS) (h : ∀ i, a ≠ .io i) : evG T (a :: as) s = bR (ev T a s) fun d s => bR (evG T as s) fun ds s => some (.ok (.val (frz d) :: ds) s) := by
  cases a <;> first | exact absurd rfl (h _) | (simp only [evG]; rfl)
theorem ev_lst (as : List Ex) (s : VS) : ev T (.lst as) s = bR (evs T as s) fun ds s => if ds.length ≤ lim then some (.ok (.lst true ds) s) else none := by
  simp only [ev, b_app]
  congr
  funext ds s
  split <;> rfl
theorem ev_tup (as : List Ex) (s : VS) : ev T (.tup as) s = bR (evs T as s) fun ds s => if ds.length ≤ lim then some (.ok (.tup ds) s) else none := by
  simp only [ev, b_app]
  congr
  funext ds s
  split <;> rfl
theorem ev_dic0 (s : VS) : ev T .dic0 s = some (.ok (.dic true [] []) s) := by simp only [ev]; rfl
def tR (d : D) (f : Bool → M α) : M α := match d with
  | .bl b => f b
  | _ => M.fail
theorem tR_bl (b : Bool) (f : Bool → M α) : tR (.bl b) f = f b := rfl
theorem ev_not (a : Ex) (s : VS) : ev T (.not a) s = bR (ev T a s) fun d => tR d fun b => M.ret (.bl (!b)) := by simp only [ev, b_app]; rfl
theorem ev_and (a b : Ex) (s : VS) : ev T (.and a b) s = bR (ev T a s) fun d => tR d fun k => if k then ev T b else M.ret (.bl false) := by
  simp only [ev, b_app]
  congr
  funext d
  cases d <;> first | rfl | (rename_i k; cases k <;> rfl)
theorem ev_or (a b : Ex) (s : VS) : ev T (.or a b) s = bR (ev T a s) fun d => tR d fun k => if k then M.ret (.bl true) else ev T b := by
  simp only [ev, b_app]
  congr
  funext d
  cases d <;> first | rfl | (rename_i k; cases k <;> rfl)
theorem ev_ife (c a b : Ex) (s : VS) : ev T (.ife c a b) s = bR (ev T c s) fun d => tR d fun k => if k then ev T a else ev T b := by
  simp only [ev, b_app]
  congr
  funext d
  cases d <;> first | rfl | (rename_i k; cases k <;> rfl)
theorem ev_call (f : Nat) (as : List Ex) (s : VS) : ev T (.call f as) s = bR (evG T as s) (callM T f) := by simp only [ev]; rfl
/-! statements -/
theorem xs_nil (s : VS) : VI.execs T Pn [] s = some (.ok .nx s) := by simp only [VI.execs]; rfl
theorem xs_cons (c : Sm) (cs : List Sm) (s : VS) : VI.execs T Pn (c :: cs) s = bR (VI.exec T Pn c s) (seqF (VI.execs T Pn cs)) := by simp only [VI.execs]; rfl
theorem seq_nx (m : M Fl) : seqF m .nx = m := rfl
theorem seq_rt (m : M Fl) (d : D) : seqF m (.rt d) = M.ret (.rt d) := rfl
theorem seq_bk (m : M Fl) : seqF m .bk = M.ret .bk := rfl
theorem seq_ct (m : M Fl) : seqF m .ct = M.ret .ct := rfl
theorem x_asg (tg : List Nat) (e : Ex) (s : VS) : VI.exec T Pn (.asg tg e) s = bR (ev T e s) fun d => bndT Pn tg d (M.ret .nx) := by simp only [VI.exec]; rfl
theorem x_ex (e : Ex) (s : VS) : VI.exec T Pn (.ex e) s = bR (ev T e s) fun _ => M.ret .nx := by simp only [VI.exec]; rfl
theorem x_ret (e : Ex) (s : VS) : VI.exec T Pn (.ret e) s = bR (ev T e s) fun d => M.ret (.rt d) := by simp only [VI.exec]; rfl
theorem x_retN (s : VS) : VI.exec T Pn .retN s = some (.ok (.rt .non) s) := by simp only [VI.exec]; rfl
theorem x_pass (s : VS) : VI.exec T Pn .pass s = some (.ok .nx s) := by simp only [VI.exec]; rfl
theorem x_ite (e : Ex) (a b : List Sm) (s : VS) : VI.exec T Pn (.ite e a b) s = bR (ev T e s) fun d => tR d fun k => if k then VI.execs T Pn a else VI.execs T Pn b := by
  simp only [VI.exec, b_app]
  congr
theorem x_set (m : Mp) (i : Nat) (k e : Ex) (s : VS) : VI.exec T Pn (.setS m i k e) s = bR (ev T (.mt m (.var i) [e, k]) s) fun _ => M.ret .nx := by simp only [VI.exec]; rfl
def mR (m : Mp) (i : Nat) (s : VS) (o : Option (D × D)) : Option (Res D) := match o with
  | some (o', d) => some (.ok d ⟨s.ρ.set i (some o'), s.μ⟩)
  | none => none
theorem mR_some (m : Mp) (i : Nat) (s : VS) (o' d : D) : mR m i s (some (o', d)) = some (.ok d ⟨s.ρ.set i (some o'), s.μ⟩) := rfl
theorem ev_mt (m : Mp) (i : Nat) (as : List Ex) (s : VS) : ev T (.mt m (.var i) as) s = sR s.ρ[i]? fun o => if m.kind o then bR (evs T as s) fun ds s => sR s.ρ[i]? fun o => mR m i s (m.fn o ds) else none := by
  simp only [ev]
  unfold sR
  cases hq : s.ρ[i]? with
  | none => rfl
  | some oo => cases oo with
    | none => rfl
    | some o =>
      simp only
      by_cases hk : m.kind o = true
      · rw [if_pos hk, if_pos hk, b_app]
        congr
        funext ds s
        cases h2 : s.ρ[i]? with
        | none => rfl
        | some o2 => cases o2 with
          | none => rfl
          | some o3 =>
            simp only
            cases m.fn o3 ds with
            | none => rfl
            | some p => rfl
      · rw [if_neg hk, if_neg hk]
theorem bnd_asg1 (d : D) (i : Nat) (m : M Fl) (s : VS) (h : free Pn [i] = true) : bndT Pn [i] d m s = m ⟨s.ρ.set i (some d), s.μ⟩ := by
  unfold bndT
  rw [if_pos h]
  rfl
theorem addD_ii (i j : Int) : addD (.int i) (.int j) = some (.int (i + j)) := rfl
theorem subD_ii (i j : Int) : subD (.int i) (.int j) = some (.int (i - j)) := rfl
theorem log2_small {n : Nat} (h : n < 2 ^ 250) : n.log2 < 250 := by
  by_cases z : n = 0
  · subst z; decide
  · exact (Nat.log2_lt z).mpr h
theorem mulD_ii (i j : Int) (hi : i.natAbs < 2 ^ 250) (hj : j.natAbs < 2 ^ 250) : mulD (.int i) (.int j) = some (.int (i * j)) := by
  have h1 := log2_small hi
  have h2 := log2_small hj
  unfold mulD
  exact if_pos (by omega)
theorem modD_ii (i j : Int) (h : 0 < j) : modD (.int i) (.int j) = some (.int (i % j)) := if_pos h
theorem fdivD_ii (i j : Int) (h : 0 < j) (hj : j.natAbs < 2 ^ 250) : fdivD (.int i) (.int j) = some (.int (i / j)) := by
  have h2 := log2_small hj
  exact if_pos ⟨h, by omega⟩
theorem int1D_i (i : Int) : int1D (.int i) = some (.int i) := rfl
theorem runR_rt (n : Nat) (d : D) (s : VS) : runR n Pn (some (.ok (.rt d) s)) = some (.ok d (outs n Pn s.ρ) s.μ) := rfl
theorem runR_nx (n : Nat) (s : VS) : runR n Pn (some (.ok .nx s)) = some (.ok .non (outs n Pn s.ρ) s.μ) := rfl
theorem runF_eq (n nN : Nat) (body : List Sm) (ds : List D) (μ : List RO) (h : ds.length = n) : runF T n nN Pn body ds μ = runR n Pn (VI.execs T Pn body ⟨ds.map some ++ List.replicate (nN - n) none, μ⟩) := if_pos h
theorem bR_ex (x : EXC) (s : VS) (f : α → M β) : bR (some (.ex x s)) f = some (.ex x s) := rfl
end
end VK

namespace VK
open VI
open PySem (PyData Str)
theorem eqD_int (i j : Int) : eqD (.int i) (.int j) = some (decide (i = j)) := by
  have h : ∀ i : Int, PySem.SeqAt.shaped (.int i) = true := fun i => rfl
  simp only [eqD, toPy, h, Bool.and_self, if_true]
  rfl
theorem backs_v : ∀ (ds : List D) (ps ρ : List (Option D)), ps.length = ds.length → backs (ds.map .val) ps ρ = some ρ
  | [], [], ρ, _ => rfl
  | [], _ :: _, ρ, h => by simp at h
  | _ :: _, [], ρ, h => by simp at h
  | d :: ds, p :: ps, ρ, h => backs_v ds ps ρ (by simpa using h)
theorem hands_v : ∀ (ds : List D) (ρ : List (Option D)), hands (ds.map .val) ρ = some (ds, ρ)
  | [], ρ => rfl
  | d :: ds, ρ => by simp only [List.map_cons, hands, hands_v ds ρ, Option.map_some]
theorem callM_v (T : Tab) (f : Nat) (ds : List D) (s : VS) (d : D) (ps : List (Option D)) (hn : noRefs ds = true) (h : T.call f ds [] = some (.ok d ps [])) (hl : ps.length = ds.length) : callM T f (ds.map .val) s = some (.ok d s) := by
  unfold callM
  rw [hands_v]
  simp only [hn, if_true, h, backs_v ds ps s.ρ hl, Option.map_some]
theorem callM_io (T : Tab) (f i : Nat) (d0 : D) (ds : List D) (s : VS) (d d' : D) (ps : List (Option D)) (hs : s.ρ[i]? = some (some d0)) (hn : noRefs (d0 :: ds) = true) (h : T.call f (d0 :: ds) [] = some (.ok d (some d' :: ps) [])) (hl : ps.length = ds.length) :
    callM T f (.sl i :: ds.map .val) s = some (.ok d ⟨s.ρ.set i (some d'), s.μ⟩) := by
  have il : i < s.ρ.length := (List.getElem?_eq_some_iff.mp hs).1
  unfold callM
  simp only [hands, hs, hands_v, Option.map_some, hn, if_true, h, backs]
  rw [show (s.ρ.set i none)[i]? = some none by simp [il]]
  simp only [backs_v ds ps _ hl, Option.map_some, List.set_set]
/-- a pile, its counter at most B -/
def PileOk (d : D) (B : Nat) : Prop := ∃ g s k : Int, d = .lst true [.int g, .int s, .int k] ∧ 0 ≤ g ∧ 0 ≤ k ∧ k ≤ B
def MixedS (m : List D → List RO → Option CR) : Prop := ∀ a k : Int, k.natAbs < 2 ^ 200 → ∃ r : Int, 0 ≤ r ∧ m [.int a, .int k] [] = some (.ok (.int r) [none, none] [])
def TakeS (m : List D → List RO → Option CR) : Prop := ∀ (d : D) (B : Nat) (n : Int), PileOk d B → B < 2 ^ 100 → 0 < n → n < 2 ^ 200 → ∃ (r : Int) (d' : D), 0 ≤ r ∧ r < n ∧ PileOk d' (B + 1) ∧ m [d, .int n] [] = some (.ok (.int r) [some d', none] [])
theorem ix_l (o : Bool) (ds : List D) (i : Int) : ixD (.lst o ds) (.int i) = (L2.atI ds i).bind okA := rfl
theorem at30 (a b c : D) : L2.atI [a, b, c] 0 = some a := rfl
theorem at31 (a b c : D) : L2.atI [a, b, c] 1 = some b := rfl
theorem at32 (a b c : D) : L2.atI [a, b, c] 2 = some c := rfl
theorem okA_i (i : Int) : okA (.int i) = some (.int i) := rfl
theorem set30 (a b c d : D) : Mp.fn .setl (.lst true [a, b, c]) [d, .int 0] = some (.lst true [d, b, c], .non) := rfl
theorem set32 (a b c d : D) : Mp.fn .setl (.lst true [a, b, c]) [d, .int 2] = some (.lst true [a, b, d], .non) := rfl
theorem kind_l (m : Mp) (o : Bool) (ds : List D) (h : m ≠ .setd) : m.kind (.lst o ds) = true := by cases m <;> first | rfl | exact absurd rfl h
theorem mixed_ok (T : Tab) (a k : Int) (h3 : k.natAbs < 2 ^ 200) : ∃ r : Int, 0 ≤ r ∧ runF T 2 3 [] c_law_mixed [.int a, .int k] [] = some (.ok (.int r) [none, none] []) := by
  unfold c_law_mixed
  simp (disch := first | decide | with_unfolding_all rfl | (with_unfolding_all (intro _ h; cases h; done)) | omega) only [List.map_cons, List.map_nil, List.length_cons, List.length_nil, List.cons_append, List.nil_append, List.replicate_succ, List.replicate_zero, Nat.reduceAdd, Nat.reduceSub, if_true, xs_nil, xs_cons, seq_nx, seq_rt, x_asg, x_ex, x_ret, x_retN, x_pass, x_ite, x_set, b_app, b_ok, ret_app, ev_con, ev_var, ev_frv, ev_mov, ev_lst, ev_tup, ev_dic0, ev_not, ev_and, ev_or, ev_ife, ev_call, evs_nil, evs_cons, evA_nil, evA_var, evG_nil, evG_io, ev_mt, mR_some, tR_bl, qR_some, sR_some, gR_some, evq, evqs, okF, allF, allFs, frz, frzs, AV.gets, AV.get, Pr.fn, fn1, fn2, fn3, Option.bind_some, Option.map_some, List.getElem?_cons_zero, List.getElem?_cons_succ, List.set_cons_zero, List.set_cons_succ, ite_true, reduceIte, Mp.kind, ev_prq, ev_prg, evA_cons, evG_cons, bnd_asg1, Bool.and_self, Bool.false_eq_true, if_false, Int.reduceLT, Int.reduceLE, addD_ii, subD_ii, mulD_ii, modD_ii, fdivD_ii, int1D_i, runR_rt, runR_nx, runF_eq, bR_ex, ix_l, okA_i, kind_l, eqD_int]
  refine ⟨_, ?_, rfl⟩
  omega
theorem take_ok (T : Tab) (hm : MixedS (T.call 2)) : TakeS (runF T 2 3 [0] c_law_take) := by
  rintro d B n ⟨g, s, k, rfl, hg, hk, hB⟩ hB2 hn hn2
  unfold c_law_take
  by_cases h0 : g = 0
  · obtain ⟨r, hr, hc⟩ := hm s (k + 1) (by omega)
    have hc2 := fun st => callM_v T 2 [.int s, .int (k + 1)] st _ _ rfl hc rfl
    simp only [List.map_cons, List.map_nil] at hc2
    simp (disch := first | decide | with_unfolding_all rfl | (with_unfolding_all (intro _ h; cases h; done)) | omega) only [List.map_cons, List.map_nil, List.length_cons, List.length_nil, List.cons_append, List.nil_append, List.replicate_succ, List.replicate_zero, Nat.reduceAdd, Nat.reduceSub, if_true, xs_nil, xs_cons, seq_nx, seq_rt, x_asg, x_ex, x_ret, x_retN, x_pass, x_ite, x_set, b_app, b_ok, ret_app, ev_con, ev_var, ev_frv, ev_mov, ev_lst, ev_tup, ev_dic0, ev_not, ev_and, ev_or, ev_ife, ev_call, evs_nil, evs_cons, evA_nil, evA_var, evG_nil, evG_io, ev_mt, mR_some, tR_bl, qR_some, sR_some, gR_some, evq, evqs, okF, allF, allFs, frz, frzs, AV.gets, AV.get, Pr.fn, fn1, fn2, fn3, Option.bind_some, Option.map_some, List.getElem?_cons_zero, List.getElem?_cons_succ, List.set_cons_zero, List.set_cons_succ, ite_true, reduceIte, Mp.kind, ev_prq, ev_prg, evA_cons, evG_cons, bnd_asg1, Bool.and_self, Bool.false_eq_true, if_false, Int.reduceLT, Int.reduceLE, addD_ii, subD_ii, mulD_ii, modD_ii, fdivD_ii, int1D_i, runR_rt, runR_nx, runF_eq, bR_ex, ix_l, okA_i, kind_l, eqD_int, at30, at31, at32, set30, set32, h0, hc2, decide_true]
    refine ⟨r % n, _, Int.emod_nonneg _ (by omega), Int.emod_lt_of_pos _ hn, ⟨0, s, k + 1, rfl, by omega, by omega, by omega⟩, rfl⟩
  · simp (disch := first | decide | with_unfolding_all rfl | (with_unfolding_all (intro _ h; cases h; done)) | omega) only [List.map_cons, List.map_nil, List.length_cons, List.length_nil, List.cons_append, List.nil_append, List.replicate_succ, List.replicate_zero, Nat.reduceAdd, Nat.reduceSub, if_true, xs_nil, xs_cons, seq_nx, seq_rt, x_asg, x_ex, x_ret, x_retN, x_pass, x_ite, x_set, b_app, b_ok, ret_app, ev_con, ev_var, ev_frv, ev_mov, ev_lst, ev_tup, ev_dic0, ev_not, ev_and, ev_or, ev_ife, ev_call, evs_nil, evs_cons, evA_nil, evA_var, evG_nil, evG_io, ev_mt, mR_some, tR_bl, qR_some, sR_some, gR_some, evq, evqs, okF, allF, allFs, frz, frzs, AV.gets, AV.get, Pr.fn, fn1, fn2, fn3, Option.bind_some, Option.map_some, List.getElem?_cons_zero, List.getElem?_cons_succ, List.set_cons_zero, List.set_cons_succ, ite_true, reduceIte, Mp.kind, ev_prq, ev_prg, evA_cons, evG_cons, bnd_asg1, Bool.and_self, Bool.false_eq_true, if_false, Int.reduceLT, Int.reduceLE, addD_ii, subD_ii, mulD_ii, modD_ii, fdivD_ii, int1D_i, runR_rt, runR_nx, runF_eq, bR_ex, ix_l, okA_i, kind_l, eqD_int, at30, at31, at32, set30, set32, h0, decide_false]
    refine ⟨g % n, _, Int.emod_nonneg _ (by omega), Int.emod_lt_of_pos _ hn, ⟨g / n, s, k, rfl, Int.ediv_nonneg hg (by omega), hk, by omega⟩, rfl⟩
theorem len_s (ns : List Int) : lenD (.scr ns) = some (ns.length : Int) := rfl
theorem powD_ii (i j : Int) (h : 0 ≤ j ∧ j ≤ 1000000 ∧ i.natAbs < 2 ^ 64) : powD (.int i) (.int j) = some (.int (i ^ j.toNat)) := if_pos h
theorem mulD_b (i j : Int) (h0 : 0 ≤ i) (h : i < 10 ^ 150) (hj : j = 0 ∨ j = 1) : mulD (.int i) (.int j) = some (.int (i * j)) := by
  have h1 : i.natAbs.log2 < 500 := by
    by_cases z : i.natAbs = 0
    · rw [z]; decide
    · refine (Nat.log2_lt z).mpr ?_
      have : (10 ^ 150 : Nat) ≤ 2 ^ 500 := by decide
      have h2 : i.natAbs < 10 ^ 150 := by
        have : ((10 : Int) ^ 150) = ((10 ^ 150 : Nat) : Int) := by decide
        omega
      omega
  have h2 : j.natAbs.log2 < 500 := by rcases hj with rfl | rfl <;> decide
  exact if_pos (by omega)
def PileS (m : List D → List RO → Option CR) : Prop := ∀ (ns : List Int) (k : Nat), k < 100 → ∃ d, PileOk d (97 * k) ∧ m [.scr ns, .int k] [] = some (.ok d [none, none] [])
theorem cmpD_ii (f : Int → Int → Bool) (i j : Int) : cmpD f (.int i) (.int j) = some (.bl (f i j)) := rfl
theorem int1D_b (k : Bool) : int1D (.bl k) = some (.int (if k then 1 else 0)) := rfl
theorem absD_i (i : Int) : absD (.int i) = some (.int (if i < 0 then -i else i)) := rfl
theorem ix_s (ns : List Int) (k : Nat) (h : k < ns.length) : ixD (.scr ns) (.int k) = some (.int ns[k]) := by
  show (L2.atI ns k).map D.int = _
  unfold L2.atI L2.ixN
  rw [if_pos (by omega), if_pos (by omega)]
  simp [h]
theorem bit01 (b : Bool) : (if b = true then (1 : Int) else 0) = 0 ∨ (if b = true then (1 : Int) else 0) = 1 := by cases b <;> simp
theorem bit0 (b : Bool) : 0 ≤ (if b = true then (1 : Int) else 0) := by cases b <;> simp
theorem big1 : mulD (.int (10 ^ Int.toNat 50 * 10 ^ Int.toNat 50)) (.int (10 ^ Int.toNat 50)) = some (.int (10 ^ 150)) := rfl
theorem xs_step {T : Tab} {Pn : List Nat} {c : Sm} {cs : List Sm} {s s1 : VS} (h : VI.exec T Pn c s = some (.ok .nx s1)) : VI.execs T Pn (c :: cs) s = VI.execs T Pn cs s1 := by
  rw [xs_cons, h]
  rfl
theorem pile_ok (T : Tab) : PileS (runF T 2 4 [] c_law_pile) := by
  intro ns k hk
  have key : ∀ c : Int, ∃ d, PileOk d (97 * k) ∧ VI.execs T [] [.asg [3] (.pr .mod [.pr .int1 [.var 2], .pr .mul [.pr .mul [.pr .pow [.con (.int 10), .con (.int 50)], .pr .pow [.con (.int 10), .con (.int 50)]], .pr .pow [.con (.int 10), .con (.int 50)]]]), .ret (.lst [.pr .mul [.var 3, .pr .int1 [.pr .ge [.pr .abs [.var 2], .pr .pow [.con (.int 10), .con (.int 18)]]]], .pr .mod [.pr .int1 [.var 2], .con (.int 2147483647)], .pr .mul [.con (.int 97), .var 1]])] ⟨[some (.scr ns), some (.int k), some (.int c), none], []⟩ =
      some (.ok (.rt d) ⟨[some (.scr ns), some (.int k), some (.int c), some (.int (c % 10 ^ 150))], []⟩) := by
    intro c
    have hb : ∀ q : Bool, mulD (.int (c % 10 ^ 150)) (.int (if q = true then 1 else 0)) = some (.int (c % 10 ^ 150 * (if q = true then 1 else 0))) := fun q =>
      mulD_b _ _ (Int.emod_nonneg _ (by decide)) (Int.emod_lt_of_pos _ (by decide)) (bit01 q)
    refine ⟨.lst true [.int (c % 10 ^ 150 * (if decide ((10 : Int) ^ Int.toNat 18 ≤ (if c < 0 then -c else c)) then 1 else 0)), .int (c % 2147483647), .int (97 * k)], ⟨_, _, _, rfl, Int.mul_nonneg (Int.emod_nonneg _ (by decide)) (bit0 _), by omega, by omega⟩, ?_⟩
    simp (disch := first | decide | with_unfolding_all rfl | (with_unfolding_all (intro _ h; cases h; done)) | omega) only [List.map_cons, List.map_nil, List.length_cons, List.length_nil, List.cons_append, List.nil_append, List.replicate_succ, List.replicate_zero, Nat.reduceAdd, Nat.reduceSub, if_true, xs_nil, xs_cons, seq_nx, seq_rt, x_asg, x_ex, x_ret, x_retN, x_pass, x_ite, x_set, b_app, b_ok, ret_app, ev_con, ev_var, ev_frv, ev_mov, ev_lst, ev_tup, ev_dic0, ev_not, ev_and, ev_or, ev_ife, ev_call, evs_nil, evs_cons, evA_nil, evA_var, evG_nil, evG_io, ev_mt, mR_some, tR_bl, qR_some, sR_some, gR_some, evq, evqs, okF, allF, allFs, frz, frzs, AV.gets, AV.get, Pr.fn, fn1, fn2, fn3, Option.bind_some, Option.map_some, List.getElem?_cons_zero, List.getElem?_cons_succ, List.set_cons_zero, List.set_cons_succ, ite_true, reduceIte, Mp.kind, ev_prq, ev_prg, evA_cons, evG_cons, bnd_asg1, Bool.and_self, Bool.false_eq_true, if_false, Int.reduceLT, Int.reduceLE, addD_ii, subD_ii, mulD_ii, modD_ii, fdivD_ii, int1D_i, runR_rt, runR_nx, runF_eq, bR_ex, ix_l, okA_i, kind_l, eqD_int, big1, int1D_b, absD_i, powD_ii, cmpD_ii, hb]
    rfl
  have fin : ∀ c : Int, VI.exec T [] (.ite (.pr .lt [.var 1, .pr .len [.var 0]]) [.asg [2] (.pr .ix [.var 0, .var 1])] []) ⟨[some (.scr ns), some (.int k), some (.int 0), none], []⟩ = some (.ok .nx ⟨[some (.scr ns), some (.int k), some (.int c), none], []⟩) → ∃ d, PileOk d (97 * k) ∧ runF T 2 4 [] c_law_pile [.scr ns, .int k] [] = some (.ok d [none, none] []) := fun c h => by
    obtain ⟨d, hd, e⟩ := key c
    refine ⟨d, hd, ?_⟩
    unfold c_law_pile
    rw [runF_eq 2 4 _ [.scr ns, .int k] [] rfl]
    refine (congrArg (runR 2 []) ((xs_step (s1 := ⟨[some (.scr ns), some (.int k), some (.int 0), none], []⟩) rfl).trans ((xs_step h).trans e))).trans rfl
  by_cases h : (k : Int) < ns.length
  · refine fin ns[k] ?_
    simp (disch := first | decide | with_unfolding_all rfl | (with_unfolding_all (intro _ h; cases h; done)) | omega) only [List.map_cons, List.map_nil, List.length_cons, List.length_nil, List.cons_append, List.nil_append, List.replicate_succ, List.replicate_zero, Nat.reduceAdd, Nat.reduceSub, if_true, xs_nil, xs_cons, seq_nx, seq_rt, x_asg, x_ex, x_ret, x_retN, x_pass, x_ite, x_set, b_app, b_ok, ret_app, ev_con, ev_var, ev_frv, ev_mov, ev_lst, ev_tup, ev_dic0, ev_not, ev_and, ev_or, ev_ife, ev_call, evs_nil, evs_cons, evA_nil, evA_var, evG_nil, evG_io, ev_mt, mR_some, tR_bl, qR_some, sR_some, gR_some, evq, evqs, okF, allF, allFs, frz, frzs, AV.gets, AV.get, Pr.fn, fn1, fn2, fn3, Option.bind_some, Option.map_some, List.getElem?_cons_zero, List.getElem?_cons_succ, List.set_cons_zero, List.set_cons_succ, ite_true, reduceIte, Mp.kind, ev_prq, ev_prg, evA_cons, evG_cons, bnd_asg1, Bool.and_self, Bool.false_eq_true, if_false, Int.reduceLT, Int.reduceLE, addD_ii, subD_ii, mulD_ii, modD_ii, fdivD_ii, int1D_i, runR_rt, runR_nx, runF_eq, bR_ex, ix_l, okA_i, kind_l, eqD_int, len_s, cmpD_ii, h, decide_true, ix_s]
  · refine fin 0 ?_
    simp (disch := first | decide | with_unfolding_all rfl | (with_unfolding_all (intro _ h; cases h; done)) | omega) only [List.map_cons, List.map_nil, List.length_cons, List.length_nil, List.cons_append, List.nil_append, List.replicate_succ, List.replicate_zero, Nat.reduceAdd, Nat.reduceSub, if_true, xs_nil, xs_cons, seq_nx, seq_rt, x_asg, x_ex, x_ret, x_retN, x_pass, x_ite, x_set, b_app, b_ok, ret_app, ev_con, ev_var, ev_frv, ev_mov, ev_lst, ev_tup, ev_dic0, ev_not, ev_and, ev_or, ev_ife, ev_call, evs_nil, evs_cons, evA_nil, evA_var, evG_nil, evG_io, ev_mt, mR_some, tR_bl, qR_some, sR_some, gR_some, evq, evqs, okF, allF, allFs, frz, frzs, AV.gets, AV.get, Pr.fn, fn1, fn2, fn3, Option.bind_some, Option.map_some, List.getElem?_cons_zero, List.getElem?_cons_succ, List.set_cons_zero, List.set_cons_succ, ite_true, reduceIte, Mp.kind, ev_prq, ev_prg, evA_cons, evG_cons, bnd_asg1, Bool.and_self, Bool.false_eq_true, if_false, Int.reduceLT, Int.reduceLE, addD_ii, subD_ii, mulD_ii, modD_ii, fdivD_ii, int1D_i, runR_rt, runR_nx, runF_eq, bR_ex, ix_l, okA_i, kind_l, eqD_int, len_s, cmpD_ii, h, decide_false]
end VK

namespace VK
open VI
open PySem (PyData Str)
section
variable {T : Tab} {Pn : List Nat}
theorem loopC_inv {f : D → M (Option D)} : ∀ (items : List D) (I : Nat → List D → VS → Prop) (acc : List D) (s : VS), I 0 acc s →
    (∀ (i : Nat) (acc : List D) (s : VS) (d : D), items[i]? = some d → I i acc s → ∃ r s', f d s = some (.ok r s') ∧ match r with
      | some y => acc.length < lim ∧ I (i + 1) (acc ++ [y]) s'
      | none => I (i + 1) acc s') → ∃ ds s', loopC f items acc s = some (.ok ds s') ∧ I items.length ds s'
  | [], I, acc, s, h, _ => ⟨acc, s, rfl, h⟩
  | d :: items, I, acc, s, h, st => by
    obtain ⟨r, s1, e, z⟩ := st 0 acc s d rfl h
    unfold loopC
    rw [b_app, e, b_ok]
    cases r with
    | some y =>
      obtain ⟨hl, z⟩ := z
      simp only [hl, if_true]
      exact loopC_inv items (fun i => I (i + 1)) _ s1 z fun i acc s d hd => st (i + 1) acc s d (by simpa using hd)
    | none => exact loopC_inv items (fun i => I (i + 1)) _ s1 z fun i acc s d hd => st (i + 1) acc s d (by simpa using hd)
theorem forM_inv {b : M Fl} {tg : List Nat} : ∀ (items : List D) (I : Nat → VS → Prop) (s : VS), I 0 s →
    (∀ (i : Nat) (s : VS) (d : D), items[i]? = some d → I i s → free Pn tg = true ∧ ∃ ρ, bindT tg d s.ρ = some ρ ∧ ∃ fl s', b ⟨ρ, s.μ⟩ = some (.ok fl s') ∧ (fl = .nx ∨ fl = .ct) ∧ I (i + 1) s') → ∃ s', forM Pn tg b items s = some (.ok .nx s') ∧ I items.length s'
  | [], I, s, h, _ => ⟨s, rfl, h⟩
  | d :: items, I, s, h, st => by
    obtain ⟨hf, ρ, hb, fl, s1, e, hfl, z⟩ := st 0 s d rfl h
    have key : forM Pn tg b (d :: items) s = forM Pn tg b items s1 := by
      show bndT Pn tg d (b.bnd (loopF (forM Pn tg b items))) s = _
      unfold bndT
      rw [if_pos hf, hb]
      show M.bnd _ _ _ = _
      rw [b_app, e, b_ok]
      rcases hfl with rfl | rfl <;> rfl
    rw [key]
    exact forM_inv items (fun i => I (i + 1)) s1 z fun i s d hd => st (i + 1) s d (by simpa using hd)
theorem evc_nil (s : VS) : evc T [] s = some (.ok true s) := by simp only [evc]; rfl
theorem evc_one (c : Ex) (s : VS) : evc T [c] s = bR (ev T c s) fun d => tR d fun k => M.ret k := by
  simp only [evc, b_app]
  congr
  funext d
  cases d <;> first | rfl | (rename_i k; cases k <;> rfl)
theorem lcBody_1 (cs : List Ex) (me : M D) (i : Nat) (d : D) (s : VS) : lcBody [i] (evc T cs) me d s = bR (evc T cs ⟨s.ρ.set i (some d), s.μ⟩) fun b s => if b then bR (me s) fun y s => some (.ok (some (frz y)) s) else some (.ok none s) := by
  show M.bnd _ _ _ = _
  simp only [wipeR, List.set_set, b_app]
  congr
  funext b s
  cases b <;> rfl
theorem lcBody_2 (cs : List Ex) (me : M D) (i j : Nat) (hij : i ≠ j) (x y : D) (s : VS) : lcBody [i, j] (evc T cs) me (.tup [x, y]) s = bR (evc T cs ⟨(s.ρ.set i (some x)).set j (some y), s.μ⟩) fun b s => if b then bR (me s) fun y s => some (.ok (some (frz y)) s) else some (.ok none s) := by
  have e : ((wipeR s.ρ [i, j]).set i (some x)).set j (some y) = (s.ρ.set i (some x)).set j (some y) := by
    simp only [wipeR, List.set_set]
    rw [List.set_comm _ _ (Ne.symm hij), List.set_set]
  show M.bnd _ _ _ = _
  simp only [e, b_app]
  congr
  funext b s
  cases b <;> rfl
theorem ev_lc (tg : List Nat) (sk : Sk) (src cs : List Ex) (e : Ex) (s : VS) : ev T (.lc tg sk src cs e) s = bR (srcM T sk src s) (lcM tg (evc T cs) (ev T e)) := by simp only [ev]; rfl
def oR (o : Option (List D)) (s : VS) : Option (Res (List D)) := match o with
  | some x => some (.ok x s)
  | none => none
theorem oR_some (x : List D) (s : VS) : oR (some x) s = some (.ok x s) := rfl
theorem src_app (sk : Sk) (src : List Ex) (s : VS) : srcM T sk src s = bR (evs T src s) fun ds s => oR (srcD sk ds) s := by
  unfold srcM
  rw [b_app]
  congr
  funext ds s
  cases h : srcD sk ds <;> rfl
theorem lcM_ok {tg : List Nat} {mc : M Bool} {me : M D} {items ds : List D} {s s' : VS} (h : loopC (lcBody tg mc me) items [] ⟨wipeR s.ρ tg, s.μ⟩ = some (.ok ds s')) : lcM tg mc me items s = some (.ok (.lst true ds) ⟨wipeR s'.ρ tg, s'.μ⟩) := by
  unfold lcM
  rw [h]
  rfl
theorem x_for (tg : List Nat) (sk : Sk) (src : List Ex) (b : List Sm) (s : VS) : VI.exec T Pn (.for tg sk src b) s = bR (srcM T sk src s) (forM Pn tg (VI.execs T Pn b)) := by simp only [VI.exec]; rfl
/-- take, called with the pile in slot 0 -/
theorem take_call (hT : TakeS (T.call 3)) {e : Ex} {s : VS} {d : D} {ρ : List (Option D)} {B : Nat} {n : Int} (hs : s.ρ = some d :: ρ) (hp : PileOk d B) (hB : B < 2 ^ 100) (hn : 0 < n) (hn2 : n < 2 ^ 200) (hne : ∀ i, e ≠ .io i) (he : ev T e s = some (.ok (.int n) s)) :
    ∃ (r : Int) (d' : D), 0 ≤ r ∧ r < n ∧ PileOk d' (B + 1) ∧ ev T (.call 3 [.io 0, e]) s = some (.ok (.int r) ⟨some d' :: ρ, s.μ⟩) := by
  obtain ⟨r, d', h0, h1, h2, h3⟩ := hT d B n hp hB hn hn2
  refine ⟨r, d', h0, h1, h2, ?_⟩
  have hno : noRefs (d :: [.int n]) = true := by
    obtain ⟨g, s, k, rfl, _⟩ := hp
    rfl
  have := callM_io T 3 0 d [.int n] s (.int r) d' [none] (by rw [hs]; rfl) hno h3 rfl
  rw [hs] at this
  simp only [List.map_cons, List.map_nil, List.set_cons_zero] at this
  rw [ev_call, evG_io, hs]
  simp only [List.getElem?_cons_zero, sR_some]
  rw [evG_cons e [] s hne, he]
  simp only [b_ok, evG_nil, frz]
  exact this
end
end VK

namespace VK
open VI
open PySem (PyData)
abbrev Str := PySem.Str
def S (l : List Nat) : Str := ⟨l.toArray⟩
theorem S_len (l : List Nat) : (S l).length = l.length := by simp [S, PySem.Str.length]
theorem S_list (l : List Nat) : (S l).cps.toList = l := by simp [S]
theorem S_app (a b : List Nat) : S a ++ S b = S (a ++ b) := by
  show PySem.Str.mk _ = _
  simp [S]
def dS (l : List Nat) : D := .str (S l)
def low (l : List Nat) : Prop := ∀ c ∈ l, 97 ≤ c ∧ c ≤ 122
theorem letter (i : Int) (h0 : 0 ≤ i) (h : i < 26) : ∃ c : Nat, (c : Int) = 97 + i ∧ ixD (.str "abcdefghijklmnopqrstuvwxyz") (.int i) = some (dS [c]) := by
  have : i = 0 ∨ i = 1 ∨ i = 2 ∨ i = 3 ∨ i = 4 ∨ i = 5 ∨ i = 6 ∨ i = 7 ∨ i = 8 ∨ i = 9 ∨ i = 10 ∨ i = 11 ∨ i = 12 ∨ i = 13 ∨ i = 14 ∨ i = 15 ∨ i = 16 ∨ i = 17 ∨ i = 18 ∨ i = 19 ∨ i = 20 ∨ i = 21 ∨ i = 22 ∨ i = 23 ∨ i = 24 ∨ i = 25 := by omega
  rcases this with rfl | rfl | rfl | rfl | rfl | rfl | rfl | rfl | rfl | rfl | rfl | rfl | rfl | rfl | rfl | rfl | rfl | rfl | rfl | rfl | rfl | rfl | rfl | rfl | rfl | rfl
  all_goals first
    | exact ⟨97, rfl, rfl⟩ | exact ⟨98, rfl, rfl⟩ | exact ⟨99, rfl, rfl⟩ | exact ⟨100, rfl, rfl⟩ | exact ⟨101, rfl, rfl⟩ | exact ⟨102, rfl, rfl⟩ | exact ⟨103, rfl, rfl⟩ | exact ⟨104, rfl, rfl⟩ | exact ⟨105, rfl, rfl⟩ | exact ⟨106, rfl, rfl⟩
    | exact ⟨107, rfl, rfl⟩ | exact ⟨108, rfl, rfl⟩ | exact ⟨109, rfl, rfl⟩ | exact ⟨110, rfl, rfl⟩ | exact ⟨111, rfl, rfl⟩ | exact ⟨112, rfl, rfl⟩ | exact ⟨113, rfl, rfl⟩ | exact ⟨114, rfl, rfl⟩ | exact ⟨115, rfl, rfl⟩ | exact ⟨116, rfl, rfl⟩
    | exact ⟨117, rfl, rfl⟩ | exact ⟨118, rfl, rfl⟩ | exact ⟨119, rfl, rfl⟩ | exact ⟨120, rfl, rfl⟩ | exact ⟨121, rfl, rfl⟩ | exact ⟨122, rfl, rfl⟩
theorem strsD_S : ∀ ls : List (List Nat), strsD (ls.map dS) = some (ls.map S)
  | [] => rfl
  | l :: ls => by
    simp only [List.map_cons, dS, strsD]
    rw [show ls.map dS = ls.map dS from rfl, strsD_S ls]
    rfl
theorem join_S : ∀ ls : List Nat, PySem.Str.join "" ((ls.map fun c => [c]).map S) = S ls
  | [] => rfl
  | [c] => rfl
  | c :: c' :: ls => by
    have ih := join_S (c' :: ls)
    simp only [List.map_cons] at ih ⊢
    unfold PySem.Str.join
    rw [ih]
    show S [c] ++ S [] ++ S (c' :: ls) = _
    rw [S_app, S_app]
    rfl
theorem joinD_S (o : Bool) (ls : List Nat) (h : ls.length ≤ 100) : joinD (.str "") (.lst o ((ls.map fun c => [c]).map dS)) = some (dS ls) := by
  have e0 : ((ls.map fun c => [c]).map S).map (·.length) = ls.map fun _ => 1 := by simp [S_len]
  have e1 : ((ls.map fun _ => 1) : List Nat).sum = ls.length := by
    clear h e0
    induction ls with
    | nil => rfl
    | cons a l ih => simp only [List.map_cons, List.sum_cons, ih, List.length_cons]; omega
  show ((strsD ((ls.map fun c => [c]).map dS)).bind fun ys => _) = _
  rw [strsD_S]
  simp only [Option.bind_some]
  rw [if_pos]
  · have : PySem.Txt.join "" ((ls.map fun c => [c]).map S) = S ls := (PySem.StrLaws.glued_eq_join _ _).trans (join_S ls)
    rw [this]
    rfl
  · have e2 : (("" : String) : PySem.Str).length = 0 := rfl
    rw [e0, e1, e2]
    have : lim = 1000000 := rfl
    omega
theorem addD_S (a b : List Nat) (h : a.length + b.length ≤ 1000) : addD (dS a) (dS b) = some (dS (a ++ b)) := by
  show (if (S a).length + (S b).length ≤ lim then some (D.str (S a ++ S b)) else none) = _
  have : lim = 1000000 := rfl
  rw [S_len, S_len, if_pos (by omega), S_app]
  rfl
theorem lenD_S (l : List Nat) (h : l.length ≤ 1000) : lenD (dS l) = some (l.length : Int) := by
  have : lim = 1000000 := rfl
  show (if (S l).length ≤ lim then some ((S l).length : Int) else none) = _
  rw [S_len, if_pos (by omega)]
theorem slD_to (l : List Nat) (k : Nat) (h : l.length ≤ 1000) : slD (dS l) none (some (k : Int)) = some (dS (l.take k)) := by
  have : lim = 1000000 := rfl
  show (if (S l).length ≤ lim then some (D.str (L2.cutS (S l) none (some (k : Int)))) else none) = _
  rw [S_len, if_pos (by omega)]
  unfold L2.cutS
  rw [S_list, HT.sIx_none, HT.sIx_nat, S_len, Nat.sub_zero, List.drop_zero]
  show some (dS (l.take (min k l.length))) = _
  rw [← List.take_take, List.take_length]
theorem slD_from (l : List Nat) (k : Nat) (h : l.length ≤ 1000) : slD (dS l) (some (k : Int)) none = some (dS (l.drop k)) := by
  have : lim = 1000000 := rfl
  show (if (S l).length ≤ lim then some (D.str (L2.cutS (S l) (some (k : Int)) none)) else none) = _
  rw [S_len, if_pos (by omega)]
  unfold L2.cutS
  rw [S_list, HT.sIx_none, HT.sIx_nat, S_len]
  show some (dS ((l.drop (min k l.length)).take (l.length - min k l.length))) = _
  congr 2
  by_cases hk : k ≤ l.length
  · rw [Nat.min_eq_left hk, List.take_of_length_le (by simp)]
  · rw [Nat.min_eq_right (by omega), List.drop_of_length_le (Nat.le_refl _), List.drop_of_length_le (by omega)]
    simp
theorem mulD_01 (l : List Nat) (b : Bool) (h : l.length ≤ 1000) : mulD (dS l) (.int (if b = true then 1 else 0)) = some (dS (if b = true then l else [])) := by
  cases b with
  | false =>
    show (if (S l).length ≤ 4000 ∧ _ then _ else _) = _
    rw [S_len, if_pos ⟨by omega, by decide, by decide⟩]
    rfl
  | true =>
    show (if (S l).length ≤ 4000 ∧ _ then _ else _) = _
    rw [S_len, if_pos ⟨by omega, by decide, by decide⟩]
    rfl
end VK

namespace VK
open VI
open PySem (PyData)
theorem ev_joi {T : Tab} (z : Str) (a : Ex) (s : VS) : ev T (.joi z a) s = bR (ev T a s) fun d => M.opt (joinD (.str z) d) := by simp only [ev]; rfl
theorem rng_get {n i : Nat} {d : D} (h : ((List.range n).map fun i : Nat => D.int (i : Int))[i]? = some d) : i < n ∧ d = .int (i : Int) := by
  rw [List.getElem?_map] at h
  by_cases hi : i < n
  · rw [List.getElem?_range hi] at h
    cases h
    exact ⟨hi, rfl⟩
  · rw [List.getElem?_eq_none (by simpa using hi)] at h
    cases h
theorem low_one {c : Nat} {i : Int} (e : (c : Int) = 97 + i) (h0 : 0 ≤ i) (h : i < 26) : low [c] := fun x hx => by
  simp at hx
  omega
theorem low_app {a b : List Nat} (ha : low a) (hb : low b) : low (a ++ b) := fun c h => by
  rcases List.mem_append.mp h with h | h
  · exact ha c h
  · exact hb c h
theorem frz_dS (l : List Nat) : frz (dS l) = dS l := rfl
theorem srcD_r1 (n : Nat) (h : n ≤ 1000) : srcD .rng1 [.int (n : Int)] = some ((List.range n).map fun i : Nat => D.int (i : Int)) := by
  have : (lim : Int) = 1000000 := rfl
  show (if -1000000 ≤ (n : Int) ∧ (n : Int) ≤ lim then _ else _) = _
  rw [if_pos (by omega)]
  rfl
/-- the stem: r letters drawn -/
theorem stem_ok (T : Tab) (hT : TakeS (T.call 3)) (d : D) (B : Nat) (n : D) (a : Option D) (hp : PileOk d B) (hB : B < 2 ^ 99) : ∃ (l : List Nat) (d' : D), l.length ≤ 11 ∧ low l ∧ PileOk d' (B + 12) ∧
    ev T (.joi "" (.lc [10] .rng1 [.call 3 [.io 0, .con (.int 12)]] [] (.pr .ix [.var 2, .call 3 [.io 0, .con (.int 26)]]))) ⟨[some d, some n, some (.str "abcdefghijklmnopqrstuvwxyz"), none, none, none, none, none, none, none, a, none], []⟩ =
      some (.ok (dS l) ⟨[some d', some n, some (.str "abcdefghijklmnopqrstuvwxyz"), none, none, none, none, none, none, none, none, none], []⟩) := by
  obtain ⟨r, d1, h0, h1, hp1, e1⟩ := take_call hT (T := T) (e := .con (.int 12)) (s := ⟨[some d, some n, some (.str "abcdefghijklmnopqrstuvwxyz"), none, none, none, none, none, none, none, a, none], []⟩) (n := 12) rfl hp (by omega) (by decide) (by decide) (fun _ h => nomatch h) rfl
  obtain ⟨k, rfl⟩ := Int.eq_ofNat_of_zero_le h0
  have hk : k < 12 := by omega
  obtain ⟨ds, s', el, l, d2, x, rfl, hl, hlow, hp2, rfl⟩ := loopC_inv (f := lcBody [10] (evc T []) (ev T (.pr .ix [.var 2, .call 3 [.io 0, .con (.int 26)]]))) ((List.range k).map fun i : Nat => D.int (i : Int))
    (fun i acc s => ∃ (l : List Nat) (d' : D) (x : Option D), acc = (l.map fun c => [c]).map dS ∧ l.length = i ∧ low l ∧ PileOk d' (B + 1 + i) ∧ s = ⟨[some d', some n, some (.str "abcdefghijklmnopqrstuvwxyz"), none, none, none, none, none, none, none, x, none], []⟩) []
    ⟨[some d1, some n, some (.str "abcdefghijklmnopqrstuvwxyz"), none, none, none, none, none, none, none, none, none], []⟩ ⟨[], d1, none, rfl, rfl, (fun _ h => nomatch h), hp1, rfl⟩ (by
      rintro i acc s dd hd ⟨l, d', x, rfl, hl, hlow, hp', rfl⟩
      obtain ⟨hi, rfl⟩ := rng_get hd
      obtain ⟨r, d3, g0, g1, hp3, e3⟩ := take_call hT (T := T) (e := .con (.int 26)) (s := ⟨[some d', some n, some (.str "abcdefghijklmnopqrstuvwxyz"), none, none, none, none, none, none, none, some (.int (i : Int)), none], []⟩) (n := 26) rfl hp' (by omega) (by decide) (by decide) (fun _ h => nomatch h) rfl
      obtain ⟨c, ec, e4⟩ := letter r g0 g1
      refine ⟨some (dS [c]), ⟨[some d3, some n, some (.str "abcdefghijklmnopqrstuvwxyz"), none, none, none, none, none, none, none, some (.int (i : Int)), none], []⟩, ?_, ?_, l ++ [c], d3, some (.int (i : Int)), by simp, by simp [hl], low_app hlow (low_one ec g0 g1), hp3, rfl⟩
      · rw [lcBody_1, evc_nil, b_ok]
        simp only [if_true]
        rw [ev_prg _ _ _ (by decide), evA_var, evA_cons (.call 3 [.io 0, .con (.int 26)]) [] _ (fun _ h => nomatch h)]
        simp only [List.set_cons_succ, List.set_cons_zero, List.getElem?_cons_succ, List.getElem?_cons_zero, sR_some, e3, b_ok, evA_nil, frz, AV.gets, AV.get, gR_some, Pr.fn, fn2, e4, Option.map_some, frz_dS]
      · simp only [List.length_map, hl]
        have : lim = 1000000 := rfl
        omega)
  refine ⟨l, d2, ?_, hlow, ?_, ?_⟩
  · rw [hl]; simp; omega
  · obtain ⟨g, s, q, rfl, a1, a2, a3⟩ := hp2
    simp only [List.length_map, List.length_range] at a3
    exact ⟨g, s, q, rfl, a1, a2, by omega⟩
  · have hlen : l.length ≤ 100 := by rw [hl]; simp; omega
    rw [ev_joi, ev_lc, src_app, evs_cons, e1, b_ok, evs_nil, b_ok, b_ok]
    simp only [frz]
    rw [srcD_r1 k (by omega), oR_some, b_ok, lcM_ok (s' := ⟨[some d2, some n, some (.str "abcdefghijklmnopqrstuvwxyz"), none, none, none, none, none, none, none, x, none], []⟩) el, b_ok, joinD_S true l hlen]
    rfl
end VK

namespace VK
open VI
open PySem (PyData)
section
variable {T : Tab}
def slR (o : Option D) (l h : Option Int) (s : VS) : Option (Res D) := match o with
  | some d => (slD d l h).map fun d => .ok d s
  | none => none
theorem slR_some (d : D) (l h : Option Int) (s : VS) : slR (some d) l h s = (slD d l h).map fun d => .ok d s := rfl
theorem ev_slcv (i : Nat) (lo hi : List Ex) (s : VS) : ev T (.slc (.var i) lo hi) s = sR s.ρ[i]? fun _ => bR (evP T lo s) fun l s => bR (evP T hi s) fun h s => slR (AV.get s (.sl i)) l h s := by
  simp only [ev, b_app, slot_app]
  unfold sR
  split
  · simp only [b_ok]
    congr
    funext l s
    congr
    funext h s
    cases AV.get s (.sl i) <;> rfl
  · rfl
theorem ev_slce (a : Ex) (lo hi : List Ex) (s : VS) (ha : ∀ i, a ≠ .var i) : ev T (.slc a lo hi) s = bR (ev T a s) fun d s => bR (evP T lo s) fun l s => bR (evP T hi s) fun h s => (slD (frz d) l h).map fun d => .ok d s := by
  have e : ev T (.slc a lo hi) s = M.bnd ((ev T a).bnd fun d => M.ret (AV.val (frz d))) (fun v => (evP T lo).bnd fun l => (evP T hi).bnd fun h s => ((v.get s).bind fun d => slD d l h).map fun d => .ok d s) s := by
    cases a <;> first | exact absurd rfl (ha _) | (simp only [ev])
  rw [e]
  simp only [b_app]
  cases ev T a s with
  | none => rfl
  | some r => cases r <;> rfl
def iR (d : D) (s : VS) : Option (Res (Option Int)) := match d with
  | .int i => some (.ok (some i) s)
  | _ => none
theorem iR_i (i : Int) (s : VS) : iR (.int i) s = some (.ok (some i) s) := rfl
theorem evP_nil (s : VS) : evP T [] s = some (.ok none s) := by simp only [evP]; rfl
theorem evP_one (a : Ex) (s : VS) : evP T [a] s = bR (ev T a s) iR := by
  simp only [evP, b_app]
  congr
  funext d
  cases d <;> rfl
end
def steps : List Int := [1, 3, 5, 7, 9, 11, 15, 17, 19, 21, 23, 25]
theorem step_at (i : Int) (h0 : 0 ≤ i) (h : i < 12) : ∃ t ∈ steps, ixD (.lst false [.int 1, .int 3, .int 5, .int 7, .int 9, .int 11, .int 15, .int 17, .int 19, .int 21, .int 23, .int 25]) (.int i) = some (.int t) := by
  have : i = 0 ∨ i = 1 ∨ i = 2 ∨ i = 3 ∨ i = 4 ∨ i = 5 ∨ i = 6 ∨ i = 7 ∨ i = 8 ∨ i = 9 ∨ i = 10 ∨ i = 11 := by omega
  rcases this with rfl | rfl | rfl | rfl | rfl | rfl | rfl | rfl | rfl | rfl | rfl | rfl
  all_goals first
    | exact ⟨1, by decide, rfl⟩ | exact ⟨3, by decide, rfl⟩ | exact ⟨5, by decide, rfl⟩ | exact ⟨7, by decide, rfl⟩ | exact ⟨9, by decide, rfl⟩ | exact ⟨11, by decide, rfl⟩ | exact ⟨15, by decide, rfl⟩ | exact ⟨17, by decide, rfl⟩
    | exact ⟨19, by decide, rfl⟩ | exact ⟨21, by decide, rfl⟩ | exact ⟨23, by decide, rfl⟩ | exact ⟨25, by decide, rfl⟩
theorem allFs_S : ∀ ls : List (List Nat), allFs (ls.map dS) = true
  | [] => rfl
  | l :: ls => by
    show (allF (dS l) && allFs (ls.map dS)) = true
    rw [allFs_S ls]
    rfl
theorem frzs_S : ∀ ls : List (List Nat), frzs (ls.map dS) = ls.map dS
  | [] => rfl
  | l :: ls => by
    show frz (dS l) :: frzs (ls.map dS) = _
    rw [frzs_S ls]
    rfl
theorem slD_lto (o : Bool) (ds : List D) (k : Nat) (ha : allFs ds = true) : slD (.lst o ds) none (some (k : Int)) = some (.lst true (ds.take k)) := by
  show (if allFs ds then some (D.lst true (cutD ds none (some (k : Int)))) else none) = _
  rw [if_pos ha]
  unfold cutD
  rw [HT.sIx_none, HT.sIx_nat, Nat.sub_zero, List.drop_zero, ← List.take_take, List.take_length]
theorem slD_lfrom (o : Bool) (ds : List D) (k : Nat) (ha : allFs ds = true) : slD (.lst o ds) (some (k : Int)) none = some (.lst true (ds.drop k)) := by
  show (if allFs ds then some (D.lst true (cutD ds (some (k : Int)) none)) else none) = _
  rw [if_pos ha]
  unfold cutD
  rw [HT.sIx_none, HT.sIx_nat]
  congr 2
  by_cases hk : k ≤ ds.length
  · rw [Nat.min_eq_left hk, List.take_of_length_le (by simp)]
  · rw [Nat.min_eq_right (by omega), List.drop_of_length_le (Nat.le_refl _), List.drop_of_length_le (by omega)]
    simp
theorem addD_l (o o' : Bool) (a b : List D) (ha : allFs a = true) (hb : allFs b = true) (h : a.length + b.length ≤ lim) : addD (.lst o a) (.lst o' b) = some (.lst true (a ++ b)) := by
  show (if allFs a && allFs b && decide (a.length + b.length ≤ lim) then _ else _) = _
  rw [if_pos (by simp [ha, hb, h])]
/-- the plain names -/
def PL : List (List Nat) := [[97], [98], [97, 98], [99], [98, 97], [97, 98, 99], [97, 97], [98, 99], [97, 97, 98], [99, 97], [99, 97, 98], [100], [97, 98, 100], [98, 99, 97], [101]]
instance (l : List Nat) : Decidable (low l) := by unfold low; exact inferInstance
def good (l : List Nat) : Prop := 1 ≤ l.length ∧ l.length ≤ 12 ∧ low l
instance (l : List Nat) : Decidable (good l) := by unfold good; exact inferInstance
theorem PL_good : ∀ st, st < 9 → ∀ n, n < 13 → ((PL.drop st ++ PL).take n).length = n ∧ ((PL.drop st ++ PL).take n).Nodup ∧ ∀ l ∈ (PL.drop st ++ PL).take n, good l := by decide +kernel
end VK

namespace VK
open VI
open PySem (PyData)
def NamesS (m : List D → List RO → Option CR) : Prop := ∀ (d : D) (B n : Nat), PileOk d B → B < 2 ^ 98 → 1 ≤ n → n ≤ 12 → ∃ (ls : List (List Nat)) (d' : D), ls.length = n ∧ ls.Nodup ∧ (∀ l ∈ ls, good l) ∧ PileOk d' (B + 40) ∧ m [d, .int (n : Int)] [] = some (.ok (.lst true (ls.map dS)) [some d', none] [])
theorem PileOk.le {d : D} {B C : Nat} (h : PileOk d B) (hl : B ≤ C) : PileOk d C := by
  obtain ⟨g, s, k, rfl, a, b, c⟩ := h
  exact ⟨g, s, k, rfl, a, b, by omega⟩
abbrev AZ : D := .str "abcdefghijklmnopqrstuvwxyz"
/-- a letter's place tells the turn -/
theorem ch_inj {sh t : Int} {k j : Nat} (ht : t ∈ steps) (hk : k < 12) (hj : j < 12) (e : (sh + t * k) % 26 = (sh + t * j) % 26) : k = j := by
  simp only [steps, List.mem_cons, List.not_mem_nil, or_false] at ht
  rcases ht with rfl | rfl | rfl | rfl | rfl | rfl | rfl | rfl | rfl | rfl | rfl | rfl <;> omega
/-- the names drawn by turns -/
def nm (stem : List Nat) (a : Nat) (sh t : Int) (tail : List Nat) (k : Nat) : List Nat := stem.take a ++ [(97 + (sh + t * k) % 26).toNat] ++ stem.drop a ++ (if k % 2 = 1 then tail else [])
theorem nm_good {stem tail : List Nat} {a k : Nat} {sh t : Int} (hl : stem.length ≤ 11) (hs : low stem) (ht : tail = [] ∨ (tail = [97] ∧ stem.length < 11)) : good (nm stem a sh t tail k) := by
  unfold nm
  have e : (stem.take a).length + (stem.drop a).length = stem.length := by simp; omega
  have htl : (if k % 2 = 1 then tail else []).length ≤ 1 ∧ ((if k % 2 = 1 then tail else []).length = 1 → stem.length < 11) := by
    rcases ht with rfl | ⟨rfl, h⟩ <;> split <;> simp [*]
  refine ⟨by simp only [List.length_append, List.length_cons, List.length_nil]; omega, ?_, ?_⟩
  · simp only [List.length_append, List.length_cons, List.length_nil]
    omega
  · have l1 : low (stem.take a) := fun c h => hs c (List.mem_of_mem_take h)
    have l2 : low (stem.drop a) := fun c h => hs c (List.mem_of_mem_drop h)
    have l3 : low [(97 + (sh + t * k) % 26).toNat] := fun c h => by simp at h; omega
    have l4 : low (if k % 2 = 1 then tail else []) := by
      rcases ht with rfl | ⟨rfl, h⟩
      · split <;> exact fun c h => nomatch h
      · split
        · exact fun c h => by simp at h; omega
        · exact fun c h => nomatch h
    exact low_app (low_app (low_app l1 l3) l2) l4
theorem nm_inj {stem tail : List Nat} {a k j : Nat} {sh t : Int} (ha : a ≤ stem.length) (ht : t ∈ steps) (hk : k < 12) (hj : j < 12) (e : nm stem a sh t tail k = nm stem a sh t tail j) : k = j := by
  refine ch_inj (sh := sh) ht hk hj ?_
  have e2 := congrArg (fun l => l[a]?) e
  have la : (stem.take a).length = a := by simp [ha]
  have g : ∀ q, (nm stem a sh t tail q)[a]? = some (97 + (sh + t * q) % 26).toNat := fun q => by
    unfold nm
    rw [List.append_assoc, List.append_assoc, List.getElem?_append_right (by omega), la]
    simp
  simp only [g, Option.some.injEq] at e2
  omega
theorem nodup_map {f : Nat → List Nat} {n : Nat} (h : ∀ k j, k < n → j < n → f k = f j → k = j) : ((List.range n).map f).Nodup := by
  unfold List.Nodup
  rw [List.pairwise_map]
  refine List.Pairwise.imp_of_mem (R := fun a b => a < b) ?_ List.pairwise_lt_range
  intro a b ha hb hab e
  have := h a b (List.mem_range.mp ha) (List.mem_range.mp hb) e
  omega
theorem allF_dS (l : List Nat) : allF (dS l) = true := rfl
def nm1 (stem : List Nat) (a : Nat) (sh t : Int) (k : Nat) : List Nat := stem.take a ++ [(97 + (sh + t * k) % 26).toNat] ++ stem.drop a
theorem range_snoc {α : Type} (f : Nat → α) (i : Nat) : (List.range i).map f ++ [f i] = (List.range (i + 1)).map f := by
  rw [List.range_succ, List.map_append]
  rfl
abbrev sB (d n : D) (stem : List Nat) (a : Nat) (sh t : Int) (u v x y : Option D) : VS := ⟨[some d, some n, some AZ, some (dS stem), some (.int a), some (.int sh), some (.int t), u, v, none, x, y], []⟩
abbrev b8 : Ex := .pr .add [.pr .add [.slc (.var 3) [] [.frv 4], .pr .ix [.var 2, .pr .mod [.pr .add [.var 5, .pr .mul [.var 6, .var 10]], .con (.int 26)]]], .slc (.var 3) [.frv 4] []]
theorem b8_ok (T : Tab) (d n : D) (stem : List Nat) (a k : Nat) (sh t : Int) (u v y : Option D) (hl : stem.length ≤ 11) (ht : t.natAbs < 100) (hk : k < 100) :
    ev T b8 (sB d n stem a sh t u v (some (.int k)) y) = some (.ok (dS (nm1 stem a sh t k)) (sB d n stem a sh t u v (some (.int k)) y)) := by
  obtain ⟨c, hc, e⟩ := letter ((sh + t * k) % 26) (Int.emod_nonneg _ (by decide)) (Int.emod_lt_of_pos _ (by decide))
  have hcn : (97 + (sh + t * k) % 26).toNat = c := by omega
  have e1 : ev T (.slc (.var 3) [] [.frv 4]) (sB d n stem a sh t u v (some (.int k)) y) = some (.ok (dS (stem.take a)) (sB d n stem a sh t u v (some (.int k)) y)) := by
    rw [ev_slcv]
    simp only [List.getElem?_cons_succ, List.getElem?_cons_zero, sR_some, evP_nil, b_ok, evP_one, ev_frv, List.set_cons_succ, List.set_cons_zero, frz, iR_i, AV.get, slR_some, slD_to stem a (by omega), Option.map_some]
  have e2 : ev T (.slc (.var 3) [.frv 4] []) (sB d n stem a sh t u v (some (.int k)) y) = some (.ok (dS (stem.drop a)) (sB d n stem a sh t u v (some (.int k)) y)) := by
    rw [ev_slcv]
    simp only [List.getElem?_cons_succ, List.getElem?_cons_zero, sR_some, evP_nil, b_ok, evP_one, ev_frv, List.set_cons_succ, List.set_cons_zero, frz, iR_i, AV.get, slR_some, slD_from stem a (by omega), Option.map_some]
  have e3 : ev T (.pr .ix [.var 2, .pr .mod [.pr .add [.var 5, .pr .mul [.var 6, .var 10]], .con (.int 26)]]) (sB d n stem a sh t u v (some (.int k)) y) = some (.ok (dS [c]) (sB d n stem a sh t u v (some (.int k)) y)) := by
    have hm : mulD (.int t) (.int k) = some (.int (t * k)) := mulD_ii _ _ (by omega) (by omega)
    simp (disch := first | decide | with_unfolding_all rfl | (with_unfolding_all (intro _ h; cases h; done)) | omega) only [List.map_cons, List.map_nil, List.length_cons, List.length_nil, List.cons_append, List.nil_append, List.replicate_succ, List.replicate_zero, Nat.reduceAdd, Nat.reduceSub, if_true, xs_nil, xs_cons, seq_nx, seq_rt, x_asg, x_ex, x_ret, x_retN, x_pass, x_ite, x_set, b_app, b_ok, ret_app, ev_con, ev_var, ev_frv, ev_mov, ev_lst, ev_tup, ev_dic0, ev_not, ev_and, ev_or, ev_ife, ev_call, evs_nil, evs_cons, evA_nil, evA_var, evG_nil, evG_io, ev_mt, mR_some, tR_bl, qR_some, sR_some, gR_some, evq, evqs, okF, allF, allFs, frz, frzs, AV.gets, AV.get, Pr.fn, fn1, fn2, fn3, Option.bind_some, Option.map_some, List.getElem?_cons_zero, List.getElem?_cons_succ, List.set_cons_zero, List.set_cons_succ, ite_true, reduceIte, Mp.kind, ev_prq, ev_prg, evA_cons, evG_cons, bnd_asg1, Bool.and_self, Bool.false_eq_true, if_false, Int.reduceLT, Int.reduceLE, addD_ii, subD_ii, mulD_ii, modD_ii, fdivD_ii, int1D_i, runR_rt, runR_nx, runF_eq, bR_ex, ix_l, okA_i, kind_l, eqD_int, hm, e, frz_dS]
  have l1 : (stem.take a).length ≤ 11 := by simp; omega
  have l2 : (stem.drop a).length ≤ 11 := by simp; omega
  rw [ev_prg _ _ _ (by decide), evA_cons (.pr .add _) _ _ (fun _ h => nomatch h), ev_prg _ _ _ (by decide), evA_cons (.slc _ _ _) _ _ (fun _ h => nomatch h), e1, b_ok, evA_cons (.pr .ix _) _ _ (fun _ h => nomatch h), e3, b_ok, evA_nil, b_ok, b_ok, b_ok]
  simp only [AV.gets, AV.get, gR_some, Pr.fn, fn2, frz_dS]
  rw [addD_S _ _ (by simp only [List.length_cons, List.length_nil]; omega), Option.map_some, b_ok, evA_cons (.slc _ _ _) _ _ (fun _ h => nomatch h), e2, b_ok, evA_nil, b_ok, b_ok, b_ok]
  simp only [AV.gets, AV.get, gR_some, Pr.fn, fn2, frz_dS]
  rw [addD_S _ _ (by simp only [List.length_append, List.length_cons, List.length_nil]; omega), Option.map_some]
  unfold nm1
  rw [hcn]
theorem loop8 (T : Tab) (d : D) (n : Nat) (stem : List Nat) (a : Nat) (sh t : Int) (u : Option D) (hl : stem.length ≤ 11) (ht : t.natAbs < 100) (hn : n ≤ 100) :
    ev T (.lc [10] .rng1 [.frv 1] [] b8) (sB d (.int n) stem a sh t u none none none) = some (.ok (.lst true ((List.range n).map fun k => dS (nm1 stem a sh t k))) (sB d (.int n) stem a sh t u none none none)) := by
  have hlim : lim = 1000000 := rfl
  obtain ⟨ds, s', el, hd, x, rfl⟩ := loopC_inv (f := lcBody [10] (evc T []) (ev T b8)) ((List.range n).map fun i : Nat => D.int (i : Int))
    (fun i acc s => acc = (List.range i).map (fun k => dS (nm1 stem a sh t k)) ∧ ∃ x, s = sB d (.int n) stem a sh t u none x none) [] (sB d (.int n) stem a sh t u none none none) ⟨rfl, none, rfl⟩ (by
      rintro i acc s dd hd ⟨rfl, x, rfl⟩
      obtain ⟨hi, rfl⟩ := rng_get hd
      refine ⟨some (dS (nm1 stem a sh t i)), sB d (.int n) stem a sh t u none (some (.int i)) none, ?_, by simp; omega, range_snoc (fun k => dS (nm1 stem a sh t k)) i, _, rfl⟩
      rw [lcBody_1, evc_nil, b_ok]
      simp only [if_true]
      have e := b8_ok T d (.int n) stem a i sh t u none none hl ht (by omega)
      simp only [List.set_cons_succ, List.set_cons_zero]
      rw [e, b_ok, frz_dS])
  rw [ev_lc, src_app, evs_cons, ev_frv]
  simp only [List.getElem?_cons_succ, List.getElem?_cons_zero, sR_some, b_ok, evs_nil, List.set_cons_succ, List.set_cons_zero, frz]
  rw [srcD_r1 n (by omega), oR_some, b_ok, lcM_ok el]
  simp only [List.length_map, List.length_range] at hd
  rw [hd]
  rfl
abbrev b9 : Ex := .pr .add [.var 11, .pr .mul [.var 7, .pr .mod [.var 10, .con (.int 2)]]]
theorem enum_get {n i : Nat} {f : Nat → D} {d : D} (h : ((List.range ((List.range n).map f).length).zipWith (fun (i : Nat) d => D.tup [.int (i : Int), d]) ((List.range n).map f))[i]? = some d) : i < n ∧ d = .tup [.int (i : Int), f i] := by
  rw [List.getElem?_zipWith] at h
  simp only [List.length_map, List.length_range] at h
  by_cases hi : i < n
  · rw [List.getElem?_map, List.getElem?_range hi] at h
    cases h
    exact ⟨hi, rfl⟩
  · rw [List.getElem?_eq_none (l := List.range n) (by simpa using hi)] at h
    cases h
theorem loop9 (T : Tab) (d n : D) (m : Nat) (stem tail : List Nat) (a : Nat) (sh t : Int) (hl : stem.length ≤ 11) (htl : tail.length ≤ 1) (hm : m ≤ 100) :
    ev T (.lc [10, 11] .enum [.frv 8] [] b9) (sB d n stem a sh t (some (dS tail)) (some (.lst true ((List.range m).map fun k => dS (nm1 stem a sh t k)))) none none) =
      some (.ok (.lst true ((List.range m).map fun k => dS (nm stem a sh t tail k))) (sB d n stem a sh t (some (dS tail)) (some (.lst false ((List.range m).map fun k => dS (nm1 stem a sh t k)))) none none)) := by
  have hlim : lim = 1000000 := rfl
  have hfr : frzs ((List.range m).map fun k => dS (nm1 stem a sh t k)) = (List.range m).map fun k => dS (nm1 stem a sh t k) := by
    rw [show (List.range m).map (fun k => dS (nm1 stem a sh t k)) = ((List.range m).map fun k => nm1 stem a sh t k).map dS by rw [List.map_map]; rfl, frzs_S]
  obtain ⟨ds, s', el, hd, x, y, rfl⟩ := loopC_inv (f := lcBody [10, 11] (evc T []) (ev T b9)) ((List.range ((List.range m).map fun k => dS (nm1 stem a sh t k)).length).zipWith (fun (i : Nat) d => D.tup [.int (i : Int), d]) ((List.range m).map fun k => dS (nm1 stem a sh t k)))
    (fun i acc s => acc = (List.range i).map (fun k => dS (nm stem a sh t tail k)) ∧ ∃ x y, s = sB d n stem a sh t (some (dS tail)) (some (.lst false ((List.range m).map fun k => dS (nm1 stem a sh t k)))) x y) [] (sB d n stem a sh t (some (dS tail)) (some (.lst false ((List.range m).map fun k => dS (nm1 stem a sh t k)))) none none) ⟨rfl, none, none, rfl⟩ (by
      rintro i acc s dd hd ⟨rfl, x, y, rfl⟩
      obtain ⟨hi, rfl⟩ := enum_get hd
      refine ⟨some (dS (nm stem a sh t tail i)), sB d n stem a sh t (some (dS tail)) (some (.lst false ((List.range m).map fun k => dS (nm1 stem a sh t k)))) (some (.int i)) (some (dS (nm1 stem a sh t i))), ?_, by simp; omega, range_snoc (fun k => dS (nm stem a sh t tail k)) i, _, _, rfl⟩
      rw [lcBody_2 _ _ 10 11 (by decide), evc_nil, b_ok]
      simp only [if_true, List.set_cons_succ, List.set_cons_zero]
      have hb : (i : Int) % 2 = if decide (i % 2 = 1) = true then 1 else 0 := by
        by_cases h : i % 2 = 1
        · rw [if_pos (by simpa using h)]; omega
        · rw [if_neg (by simpa using h)]; omega
      have hm : mulD (dS tail) (.int ((i : Int) % 2)) = some (dS (if i % 2 = 1 then tail else [])) := by
        rw [hb, mulD_01 tail _ (by omega)]
        simp
      have hlen : (nm1 stem a sh t i).length ≤ 12 := by
        unfold nm1
        simp only [List.length_append, List.length_take, List.length_drop, List.length_cons, List.length_nil]
        omega
      have hl2 : (if i % 2 = 1 then tail else []).length ≤ 1 := by split <;> simp [htl]
      have ha := addD_S (nm1 stem a sh t i) (if i % 2 = 1 then tail else []) (by omega)
      simp (disch := first | decide | with_unfolding_all rfl | (with_unfolding_all (intro _ h; cases h; done)) | omega) only [List.map_cons, List.map_nil, List.length_cons, List.length_nil, List.cons_append, List.nil_append, List.replicate_succ, List.replicate_zero, Nat.reduceAdd, Nat.reduceSub, if_true, xs_nil, xs_cons, seq_nx, seq_rt, x_asg, x_ex, x_ret, x_retN, x_pass, x_ite, x_set, b_app, b_ok, ret_app, ev_con, ev_var, ev_frv, ev_mov, ev_lst, ev_tup, ev_dic0, ev_not, ev_and, ev_or, ev_ife, ev_call, evs_nil, evs_cons, evA_nil, evA_var, evG_nil, evG_io, ev_mt, mR_some, tR_bl, qR_some, sR_some, gR_some, evq, evqs, okF, allF, allFs, frz, frzs, AV.gets, AV.get, Pr.fn, fn1, fn2, fn3, Option.bind_some, Option.map_some, List.getElem?_cons_zero, List.getElem?_cons_succ, List.set_cons_zero, List.set_cons_succ, ite_true, reduceIte, Mp.kind, ev_prq, ev_prg, evA_cons, evG_cons, bnd_asg1, Bool.and_self, Bool.false_eq_true, if_false, Int.reduceLT, Int.reduceLE, addD_ii, subD_ii, mulD_ii, modD_ii, fdivD_ii, int1D_i, runR_rt, runR_nx, runF_eq, bR_ex, ix_l, okA_i, kind_l, eqD_int, hm, ha, frz_dS]
      rfl)
  rw [ev_lc, src_app, evs_cons, ev_frv]
  simp only [List.getElem?_cons_succ, List.getElem?_cons_zero, sR_some, b_ok, evs_nil, List.set_cons_succ, List.set_cons_zero, frz, hfr]
  rw [show srcD .enum [.lst false ((List.range m).map fun k => dS (nm1 stem a sh t k))] = some _ from rfl, oR_some, b_ok, lcM_ok el]
  simp only [List.length_zipWith, List.length_map, List.length_range, Nat.min_self] at hd
  rw [hd]
  rfl
theorem names_ok (T : Tab) (hT : TakeS (T.call 3)) : NamesS (runF T 2 12 [0] c_law_names) := by
  intro d B n hp hB hn1 hn2
  have hlim : lim = 1000000 := rfl
  -- the stem
  obtain ⟨stem, d1, hsl, hsw, hp1, e1⟩ := stem_ok T hT d B (.int n) none hp (by omega)
  -- at
  have el : ∀ s : VS, s.ρ[3]? = some (some (dS stem)) → ev T (.pr .add [.pr .len [.var 3], .con (.int 1)]) s = some (.ok (.int (stem.length + 1)) s) := fun s h => by
    rw [ev_prg _ _ _ (by decide), evA_cons (.pr .len [.var 3]) _ _ (fun _ h => nomatch h), ev_prq _ _ _ (by decide)]
    simp only [evqs, evq, h, Option.bind_some, Pr.fn, fn1, lenD_S stem (by omega), Option.map_some, qR_some, okF, allF, if_true, b_ok]
    rw [evA_cons (.con (.int 1)) [] s (fun _ h => nomatch h)]
    rfl
  obtain ⟨a, d2, ha0, ha1, hp2, e2⟩ := take_call hT (T := T) (e := .pr .add [.pr .len [.var 3], .con (.int 1)]) (s := ⟨[some d1, some (.int n), some AZ, some (dS stem), none, none, none, none, none, none, none, none], []⟩) (n := stem.length + 1) rfl hp1 (by omega) (by omega) (by omega) (fun _ h => nomatch h) (el _ rfl)
  obtain ⟨a, rfl⟩ := Int.eq_ofNat_of_zero_le ha0
  have ha : a ≤ stem.length := by omega
  obtain ⟨sh, d3, hs0, hs1, hp3, e3⟩ := take_call hT (T := T) (e := .con (.int 26)) (s := ⟨[some d2, some (.int n), some AZ, some (dS stem), some (.int a), none, none, none, none, none, none, none], []⟩) (n := 26) rfl hp2 (by omega) (by decide) (by decide) (fun _ h => nomatch h) rfl
  obtain ⟨si, d4, hi0, hi1, hp4, e4⟩ := take_call hT (T := T) (e := .con (.int 12)) (s := ⟨[some d3, some (.int n), some AZ, some (dS stem), some (.int a), some (.int sh), none, none, none, none, none, none], []⟩) (n := 12) rfl hp3 (by omega) (by decide) (by decide) (fun _ h => nomatch h) rfl
  obtain ⟨t, ht, e5⟩ := step_at si hi0 hi1
  have hp5 : PileOk d4 (B + 40) := hp4.le (by omega)
  -- the statements up to the choice
  have go : ∀ rest : List Sm, VI.execs T [0] (.asg [2] (.con AZ) :: .asg [3] (.joi "" (.lc [10] .rng1 [.call 3 [.io 0, .con (.int 12)]] [] (.pr .ix [.var 2, .call 3 [.io 0, .con (.int 26)]]))) :: .asg [4] (.call 3 [.io 0, .pr .add [.pr .len [.var 3], .con (.int 1)]]) :: .asg [5] (.call 3 [.io 0, .con (.int 26)]) :: .asg [6] (.pr .ix [.lst [.con (.int 1), .con (.int 3), .con (.int 5), .con (.int 7), .con (.int 9), .con (.int 11), .con (.int 15), .con (.int 17), .con (.int 19), .con (.int 21), .con (.int 23), .con (.int 25)], .call 3 [.io 0, .con (.int 12)]]) :: rest) ⟨[some d, some (.int n), none, none, none, none, none, none, none, none, none, none], []⟩ =
      VI.execs T [0] rest ⟨[some d4, some (.int n), some AZ, some (dS stem), some (.int a), some (.int sh), some (.int t), none, none, none, none, none], []⟩ := fun rest => by
    rw [xs_step (s1 := ⟨[some d, some (.int n), some AZ, none, none, none, none, none, none, none, none, none], []⟩) rfl]
    rw [xs_step (s1 := ⟨[some d1, some (.int n), some AZ, some (dS stem), none, none, none, none, none, none, none, none], []⟩) (by rw [x_asg, e1, b_ok, bnd_asg1 _ _ _ _ (by decide)]; rfl)]
    rw [xs_step (s1 := ⟨[some d2, some (.int n), some AZ, some (dS stem), some (.int a), none, none, none, none, none, none, none], []⟩) (by rw [x_asg, e2, b_ok, bnd_asg1 _ _ _ _ (by decide)]; rfl)]
    rw [xs_step (s1 := ⟨[some d3, some (.int n), some AZ, some (dS stem), some (.int a), some (.int sh), none, none, none, none, none, none], []⟩) (by rw [x_asg, e3, b_ok, bnd_asg1 _ _ _ _ (by decide)]; rfl)]
    rw [xs_step (s1 := ⟨[some d4, some (.int n), some AZ, some (dS stem), some (.int a), some (.int sh), some (.int t), none, none, none, none, none], []⟩) (by
      rw [x_asg, ev_prg _ _ _ (by decide), evA_cons (.lst _) _ _ (fun _ h => nomatch h)]
      rw [show ev T (.lst [.con (.int 1), .con (.int 3), .con (.int 5), .con (.int 7), .con (.int 9), .con (.int 11), .con (.int 15), .con (.int 17), .con (.int 19), .con (.int 21), .con (.int 23), .con (.int 25)]) ⟨[some d3, some (.int n), some AZ, some (dS stem), some (.int a), some (.int sh), none, none, none, none, none, none], []⟩ = some (.ok (.lst true [.int 1, .int 3, .int 5, .int 7, .int 9, .int 11, .int 15, .int 17, .int 19, .int 21, .int 23, .int 25]) ⟨[some d3, some (.int n), some AZ, some (dS stem), some (.int a), some (.int sh), none, none, none, none, none, none], []⟩) from rfl, b_ok]
      rw [evA_cons (.call 3 [.io 0, .con (.int 12)]) [] _ (fun _ h => nomatch h), e4, b_ok, evA_nil, b_ok, b_ok, b_ok]
      simp only [AV.gets, AV.get, gR_some, Pr.fn, fn2, frz, frzs, e5, Option.map_some, b_ok]
      rw [bnd_asg1 _ _ _ _ (by decide)]
      rfl)]
  unfold c_law_names
  rw [runF_eq 2 12 _ [d, .int n] [] rfl]
  show ∃ ls d', _ ∧ _ ∧ _ ∧ _ ∧ runR 2 [0] (VI.execs T [0] _ ⟨[some d, some (.int n), none, none, none, none, none, none, none, none, none, none], []⟩) = _
  rw [go]
  by_cases hc : sh % 4 = 3
  · -- the plain names
    obtain ⟨st, hst⟩ := Int.eq_ofNat_of_zero_le (a := sh / 4 + t % 4) (by
      have : 0 ≤ t % 4 := Int.emod_nonneg _ (by decide)
      omega)
    have hst9 : st < 9 := by omega
    obtain ⟨g1, g2, g3⟩ := PL_good st hst9 n (by omega)
    refine ⟨_, d4, g1, g2, g3, hp5, ?_⟩
    have eE : ev T (.pr .add [.pr .fdiv [.var 5, .con (.int 4)], .pr .mod [.var 6, .con (.int 4)]]) ⟨[some d4, some (.int n), some AZ, some (dS stem), some (.int a), some (.int sh), some (.int t), none, none, some (.lst true (PL.map dS)), none, none], []⟩ = some (.ok (.int st) ⟨[some d4, some (.int n), some AZ, some (dS stem), some (.int a), some (.int sh), some (.int t), none, none, some (.lst true (PL.map dS)), none, none], []⟩) := by
      rw [← hst]
      simp (disch := first | decide | with_unfolding_all rfl | (with_unfolding_all (intro _ h; cases h; done)) | omega) only [List.map_cons, List.map_nil, List.length_cons, List.length_nil, List.cons_append, List.nil_append, List.replicate_succ, List.replicate_zero, Nat.reduceAdd, Nat.reduceSub, if_true, xs_nil, xs_cons, seq_nx, seq_rt, x_asg, x_ex, x_ret, x_retN, x_pass, x_ite, x_set, b_app, b_ok, ret_app, ev_con, ev_var, ev_frv, ev_mov, ev_lst, ev_tup, ev_dic0, ev_not, ev_and, ev_or, ev_ife, ev_call, evs_nil, evs_cons, evA_nil, evA_var, evG_nil, evG_io, ev_mt, mR_some, tR_bl, qR_some, sR_some, gR_some, evq, evqs, okF, allF, allFs, frz, frzs, AV.gets, AV.get, Pr.fn, fn1, fn2, fn3, Option.bind_some, Option.map_some, List.getElem?_cons_zero, List.getElem?_cons_succ, List.set_cons_zero, List.set_cons_succ, ite_true, reduceIte, Mp.kind, ev_prq, ev_prg, evA_cons, evG_cons, bnd_asg1, Bool.and_self, Bool.false_eq_true, if_false, Int.reduceLT, Int.reduceLE, addD_ii, subD_ii, mulD_ii, modD_ii, fdivD_ii, int1D_i, runR_rt, runR_nx, runF_eq, bR_ex, ix_l, okA_i, kind_l, eqD_int]
    have e9 : ev T (.slc (.var 9) [.pr .add [.pr .fdiv [.var 5, .con (.int 4)], .pr .mod [.var 6, .con (.int 4)]]] []) ⟨[some d4, some (.int n), some AZ, some (dS stem), some (.int a), some (.int sh), some (.int t), none, none, some (.lst true (PL.map dS)), none, none], []⟩ = some (.ok (.lst true ((PL.map dS).drop st)) ⟨[some d4, some (.int n), some AZ, some (dS stem), some (.int a), some (.int sh), some (.int t), none, none, some (.lst true (PL.map dS)), none, none], []⟩) := by
      rw [ev_slcv]
      simp only [List.getElem?_cons_succ, List.getElem?_cons_zero, sR_some, evP_one, eE, b_ok, iR_i, evP_nil, AV.get, slR_some, slD_lfrom true _ st (allFs_S PL), Option.map_some]
    have ec : VI.exec T [0] (.ite (.and (.pr .eq [.pr .mod [.var 5, .con (.int 4)], .con (.int 3)]) (.pr .lt [.var 1, .con (.int 13)])) [.asg [9] (.lst [.con (.str "a"), .con (.str "b"), .con (.str "ab"), .con (.str "c"), .con (.str "ba"), .con (.str "abc"), .con (.str "aa"), .con (.str "bc"), .con (.str "aab"), .con (.str "ca"), .con (.str "cab"), .con (.str "d"), .con (.str "abd"), .con (.str "bca"), .con (.str "e")]), .ret (.slc (.pr .add [.slc (.var 9) [.pr .add [.pr .fdiv [.var 5, .con (.int 4)], .pr .mod [.var 6, .con (.int 4)]]] [], .var 9]) [] [.frv 1])] []) ⟨[some d4, some (.int n), some AZ, some (dS stem), some (.int a), some (.int sh), some (.int t), none, none, none, none, none], []⟩ =
        some (.ok (.rt (.lst true (((PL.drop st ++ PL).take n).map dS))) ⟨[some d4, some (.int n), some AZ, some (dS stem), some (.int a), some (.int sh), some (.int t), none, none, some (.lst true (PL.map dS)), none, none], []⟩) := by
      have ecd : ev T (.and (.pr .eq [.pr .mod [.var 5, .con (.int 4)], .con (.int 3)]) (.pr .lt [.var 1, .con (.int 13)])) ⟨[some d4, some (.int n), some AZ, some (dS stem), some (.int a), some (.int sh), some (.int t), none, none, none, none, none], []⟩ = some (.ok (.bl true) ⟨[some d4, some (.int n), some AZ, some (dS stem), some (.int a), some (.int sh), some (.int t), none, none, none, none, none], []⟩) := by
        have h13 : (n : Int) < 13 := by omega
        simp (disch := first | decide | with_unfolding_all rfl | (with_unfolding_all (intro _ h; cases h; done)) | omega) only [List.map_cons, List.map_nil, List.length_cons, List.length_nil, List.cons_append, List.nil_append, List.replicate_succ, List.replicate_zero, Nat.reduceAdd, Nat.reduceSub, if_true, xs_nil, xs_cons, seq_nx, seq_rt, x_asg, x_ex, x_ret, x_retN, x_pass, x_ite, x_set, b_app, b_ok, ret_app, ev_con, ev_var, ev_frv, ev_mov, ev_lst, ev_tup, ev_dic0, ev_not, ev_and, ev_or, ev_ife, ev_call, evs_nil, evs_cons, evA_nil, evA_var, evG_nil, evG_io, ev_mt, mR_some, tR_bl, qR_some, sR_some, gR_some, evq, evqs, okF, allF, allFs, frz, frzs, AV.gets, AV.get, Pr.fn, fn1, fn2, fn3, Option.bind_some, Option.map_some, List.getElem?_cons_zero, List.getElem?_cons_succ, List.set_cons_zero, List.set_cons_succ, ite_true, reduceIte, Mp.kind, ev_prq, ev_prg, evA_cons, evG_cons, bnd_asg1, Bool.and_self, Bool.false_eq_true, if_false, Int.reduceLT, Int.reduceLE, addD_ii, subD_ii, mulD_ii, modD_ii, fdivD_ii, int1D_i, runR_rt, runR_nx, runF_eq, bR_ex, ix_l, okA_i, kind_l, eqD_int, cmpD_ii, hc, h13, decide_true]
      rw [x_ite, ecd, b_ok, tR_bl]
      simp only [if_true]
      rw [xs_step (s1 := ⟨[some d4, some (.int n), some AZ, some (dS stem), some (.int a), some (.int sh), some (.int t), none, none, some (.lst true (PL.map dS)), none, none], []⟩) rfl]
      rw [xs_cons, x_ret, ev_slce (.pr .add _) _ _ _ (fun _ h => nomatch h), ev_prg _ _ _ (by decide), evA_cons (.slc (.var 9) _ []) _ _ (fun _ h => nomatch h), e9, b_ok, evA_var]
      simp only [List.getElem?_cons_succ, List.getElem?_cons_zero, sR_some, evA_nil, b_ok, AV.gets, AV.get, gR_some, Pr.fn, fn2, frz]
      rw [← List.map_drop, frzs_S, addD_l _ _ _ _ (allFs_S _) (allFs_S _) (by simp [PL, hlim]; omega), Option.map_some, b_ok, evP_nil, b_ok, evP_one, ev_frv]
      simp only [List.getElem?_cons_succ, List.getElem?_cons_zero, sR_some, b_ok, frz, iR_i, List.set_cons_succ, List.set_cons_zero]
      rw [← List.map_append, frzs_S, slD_lto _ _ n (allFs_S _), ← List.map_take]
      rfl
    rw [xs_cons, ec]
    rfl
  · -- the turns
    have htb : t.natAbs < 100 := by
      simp only [steps, List.mem_cons, List.not_mem_nil, or_false] at ht
      omega
    have ec : VI.exec T [0] (.ite (.and (.pr .eq [.pr .mod [.var 5, .con (.int 4)], .con (.int 3)]) (.pr .lt [.var 1, .con (.int 13)])) [.asg [9] (.lst [.con (.str "a"), .con (.str "b"), .con (.str "ab"), .con (.str "c"), .con (.str "ba"), .con (.str "abc"), .con (.str "aa"), .con (.str "bc"), .con (.str "aab"), .con (.str "ca"), .con (.str "cab"), .con (.str "d"), .con (.str "abd"), .con (.str "bca"), .con (.str "e")]), .ret (.slc (.pr .add [.slc (.var 9) [.pr .add [.pr .fdiv [.var 5, .con (.int 4)], .pr .mod [.var 6, .con (.int 4)]]] [], .var 9]) [] [.frv 1])] []) (sB d4 (.int n) stem a sh t none none none none) = some (.ok .nx (sB d4 (.int n) stem a sh t none none none none)) := by
      have ecd : ev T (.and (.pr .eq [.pr .mod [.var 5, .con (.int 4)], .con (.int 3)]) (.pr .lt [.var 1, .con (.int 13)])) (sB d4 (.int n) stem a sh t none none none none) = some (.ok (.bl false) (sB d4 (.int n) stem a sh t none none none none)) := by
        simp (disch := first | decide | with_unfolding_all rfl | (with_unfolding_all (intro _ h; cases h; done)) | omega) only [List.map_cons, List.map_nil, List.length_cons, List.length_nil, List.cons_append, List.nil_append, List.replicate_succ, List.replicate_zero, Nat.reduceAdd, Nat.reduceSub, if_true, xs_nil, xs_cons, seq_nx, seq_rt, x_asg, x_ex, x_ret, x_retN, x_pass, x_ite, x_set, b_app, b_ok, ret_app, ev_con, ev_var, ev_frv, ev_mov, ev_lst, ev_tup, ev_dic0, ev_not, ev_and, ev_or, ev_ife, ev_call, evs_nil, evs_cons, evA_nil, evA_var, evG_nil, evG_io, ev_mt, mR_some, tR_bl, qR_some, sR_some, gR_some, evq, evqs, okF, allF, allFs, frz, frzs, AV.gets, AV.get, Pr.fn, fn1, fn2, fn3, Option.bind_some, Option.map_some, List.getElem?_cons_zero, List.getElem?_cons_succ, List.set_cons_zero, List.set_cons_succ, ite_true, reduceIte, Mp.kind, ev_prq, ev_prg, evA_cons, evG_cons, bnd_asg1, Bool.and_self, Bool.false_eq_true, if_false, Int.reduceLT, Int.reduceLE, addD_ii, subD_ii, mulD_ii, modD_ii, fdivD_ii, int1D_i, runR_rt, runR_nx, runF_eq, bR_ex, ix_l, okA_i, kind_l, eqD_int, cmpD_ii, hc, decide_false]
      rw [x_ite, ecd, b_ok, tR_bl]
      rfl
    have e7 : VI.exec T [0] (.asg [7] (.pr .mul [.con (.str "a"), .pr .int1 [.pr .lt [.pr .len [.var 3], .con (.int 11)]]])) (sB d4 (.int n) stem a sh t none none none none) = some (.ok .nx (sB d4 (.int n) stem a sh t (some (dS (if decide ((stem.length : Int) < 11) = true then [97] else []))) none none none)) := by
      have hm := mulD_01 [97] (decide ((stem.length : Int) < 11)) (by decide)
      have ha : (D.str ("a" : String)) = dS [97] := rfl
      simp (disch := first | decide | with_unfolding_all rfl | (with_unfolding_all (intro _ h; cases h; done)) | omega) only [List.map_cons, List.map_nil, List.length_cons, List.length_nil, List.cons_append, List.nil_append, List.replicate_succ, List.replicate_zero, Nat.reduceAdd, Nat.reduceSub, if_true, xs_nil, xs_cons, seq_nx, seq_rt, x_asg, x_ex, x_ret, x_retN, x_pass, x_ite, x_set, b_app, b_ok, ret_app, ev_con, ev_var, ev_frv, ev_mov, ev_lst, ev_tup, ev_dic0, ev_not, ev_and, ev_or, ev_ife, ev_call, evs_nil, evs_cons, evA_nil, evA_var, evG_nil, evG_io, ev_mt, mR_some, tR_bl, qR_some, sR_some, gR_some, evq, evqs, okF, allF, allFs, frz, frzs, AV.gets, AV.get, Pr.fn, fn1, fn2, fn3, Option.bind_some, Option.map_some, List.getElem?_cons_zero, List.getElem?_cons_succ, List.set_cons_zero, List.set_cons_succ, ite_true, reduceIte, Mp.kind, ev_prq, ev_prg, evA_cons, evG_cons, bnd_asg1, Bool.and_self, Bool.false_eq_true, if_false, Int.reduceLT, Int.reduceLE, addD_ii, subD_ii, mulD_ii, modD_ii, fdivD_ii, int1D_i, runR_rt, runR_nx, runF_eq, bR_ex, ix_l, okA_i, kind_l, eqD_int, cmpD_ii, lenD_S stem (by omega), int1D_b, ha, hm, frz_dS, allF_dS]
    have htail : (if decide ((stem.length : Int) < 11) = true then [97] else ([] : List Nat)) = [] ∨ ((if decide ((stem.length : Int) < 11) = true then [97] else ([] : List Nat)) = [97] ∧ stem.length < 11) := by
      by_cases h : (stem.length : Int) < 11
      · right; simp [h]; omega
      · left; simp [h]
    generalize hq : (if decide ((stem.length : Int) < 11) = true then [97] else ([] : List Nat)) = tail at e7 htail
    have htl : tail.length ≤ 1 := by rcases htail with rfl | ⟨rfl, _⟩ <;> simp
    refine ⟨(List.range n).map fun k => nm stem a sh t tail k, d4, by simp, nodup_map fun k j hk hj e => nm_inj ha ht (by omega) (by omega) e, fun l h => ?_, hp5, ?_⟩
    · obtain ⟨k, _, rfl⟩ := List.mem_map.mp h
      exact nm_good hsl hsw htail
    · rw [xs_step ec, xs_step e7]
      rw [xs_step (s1 := sB d4 (.int n) stem a sh t (some (dS tail)) (some (.lst true ((List.range n).map fun k => dS (nm1 stem a sh t k)))) none none) (by
        rw [x_asg, loop8 T d4 n stem a sh t _ hsl htb (by omega), b_ok, bnd_asg1 _ _ _ _ (by decide)]
        rfl)]
      rw [xs_cons, x_ret, loop9 T d4 (.int n) n stem tail a sh t hsl htl (by omega), b_ok, List.map_map]
      rfl
end VK

namespace VK
open VI
open PySem (PyData)
/-! equality of flat lists, membership -/
/-- flat data with an honest equality -/
structure Flat (d : D) (x : PyData) : Prop where
  py : toPy d = some x
  lay : x.canLay0 = true
  dep : x.depth ≤ 1
theorem flat_int (i : Int) : Flat (.int i) (.int i) := ⟨rfl, rfl, by simp [PyData.depth]⟩
theorem flat_str (l : List Nat) (h : low l) : Flat (dS l) (.str (S l)) := by
  refine ⟨rfl, ?_, by simp [PyData.depth]⟩
  show PySem.PyData.strOk (S l) = true
  unfold PySem.PyData.strOk S
  simp only [List.all_toArray, List.all_eq_true, decide_eq_true_eq]
  intro c hc
  have := h c hc
  omega
theorem S_inj {a b : List Nat} (h : S a = S b) : a = b := by
  have := congrArg (fun s : Str => s.cps.toList) h
  simpa [S] using this
theorem toPys_flat {α : Type} {f : α → D} {g : α → PyData} : ∀ (l : List α), (∀ a ∈ l, Flat (f a) (g a)) → toPys (l.map f) = some (l.map g) ∧ PyData.canLayAll0 (l.map g) = true ∧ PyData.depthAll (l.map g) ≤ 1
  | [], _ => ⟨rfl, rfl, by simp [PyData.depthAll]⟩
  | a :: l, h => by
    obtain ⟨e1, e2, e3⟩ := toPys_flat l fun b hb => h b (List.mem_cons_of_mem _ hb)
    obtain ⟨h1, h2, h3⟩ := h a List.mem_cons_self
    refine ⟨?_, ?_, ?_⟩
    · simp only [List.map_cons, toPys, h1, e1]
    · simp only [List.map_cons, PyData.canLayAll0, h2, e2, Bool.and_self]
    · simp only [List.map_cons, PyData.depthAll]
      omega
theorem eqvAll_map {α : Type} [DecidableEq α] {g : α → PyData} : ∀ (a b : List α), (∀ x ∈ a, ∀ y ∈ b, PyData.eqv (g x) (g y) = decide (x = y)) → PyData.eqvAll (a.map g) (b.map g) = decide (a = b)
  | [], [], _ => by simp [PyData.eqvAll]
  | [], _ :: _, _ => by simp [PyData.eqvAll]
  | _ :: _, [], _ => by simp [PyData.eqvAll]
  | x :: a, y :: b, h => by
    have ih := eqvAll_map a b fun u hu v hv => h u (List.mem_cons_of_mem _ hu) v (List.mem_cons_of_mem _ hv)
    have e := h x List.mem_cons_self y List.mem_cons_self
    simp only [List.map_cons, PyData.eqvAll, ih, e, List.cons.injEq]
    by_cases hx : x = y <;> by_cases ha : a = b <;> simp [hx, ha]
theorem shaped_list {xs : List PyData} (h1 : PyData.canLayAll0 xs = true) (h2 : PyData.depthAll xs ≤ 1) : PySem.SeqAt.shaped (.list xs) = true := by
  unfold PySem.SeqAt.shaped
  have : (PyData.list xs).depth ≤ 64 := by
    simp only [PyData.depth]
    omega
  simp only [PyData.canLay0, h1, this, decide_true, Bool.and_self]
theorem shaped_flat {x : PyData} (h1 : x.canLay0 = true) (h2 : x.depth ≤ 1) : PySem.SeqAt.shaped x = true := by
  unfold PySem.SeqAt.shaped
  have : x.depth ≤ 64 := by omega
  simp only [h1, this, decide_true, Bool.and_self]
theorem eqD_flat {α : Type} [DecidableEq α] {f : α → D} {g : α → PyData} (o o' : Bool) (a b : List α) (ha : ∀ x ∈ a, Flat (f x) (g x)) (hb : ∀ x ∈ b, Flat (f x) (g x)) (he : ∀ x ∈ a, ∀ y ∈ b, PyData.eqv (g x) (g y) = decide (x = y)) :
    eqD (.lst o (a.map f)) (.lst o' (b.map f)) = some (decide (a = b)) := by
  obtain ⟨a1, a2, a3⟩ := toPys_flat a ha
  obtain ⟨b1, b2, b3⟩ := toPys_flat b hb
  simp only [eqD, toPy, a1, b1, Option.map_some, shaped_list a2 a3, shaped_list b2 b3, Bool.and_self, if_true, PyData.eqv, eqvAll_map a b he]
theorem eqv_int (i j : Int) : PyData.eqv (.int i) (.int j) = decide (i = j) := by
  simp only [PyData.eqv]
  by_cases h : i = j <;> simp [h]
theorem eqv_S (a b : List Nat) : PyData.eqv (.str (S a)) (.str (S b)) = decide (a = b) := by
  simp only [PyData.eqv]
  by_cases h : a = b
  · simp [h]
  · have : ¬ S a = S b := fun e => h (S_inj e)
    simp [h, this]
theorem eqD_ints (o o' : Bool) (a b : List Int) : eqD (.lst o (a.map .int)) (.lst o' (b.map .int)) = some (decide (a = b)) := eqD_flat (g := PyData.int) o o' a b (fun x _ => flat_int x) (fun x _ => flat_int x) fun x _ y _ => eqv_int x y
theorem eqD_strs (o o' : Bool) (a b : List (List Nat)) (ha : ∀ l ∈ a, low l) (hb : ∀ l ∈ b, low l) : eqD (.lst o (a.map dS)) (.lst o' (b.map dS)) = some (decide (a = b)) :=
  eqD_flat (g := fun l => PyData.str (S l)) o o' a b (fun x h => flat_str x (ha x h)) (fun x h => flat_str x (hb x h)) fun x _ y _ => eqv_S x y
theorem eqD_str (a b : List Nat) (ha : low a) (hb : low b) : eqD (dS a) (dS b) = some (decide (a = b)) := by
  obtain ⟨a1, a2, a3⟩ := flat_str a ha
  obtain ⟨b1, b2, b3⟩ := flat_str b hb
  simp only [eqD, a1, b1, shaped_flat a2 a3, shaped_flat b2 b3, Bool.and_self, if_true, eqv_S]
theorem memO_strs (o : Bool) (x : List Nat) (ls : List (List Nat)) (hx : low x) (hl : ∀ l ∈ ls, low l) : memO (dS x) (.lst o (ls.map dS)) = some (decide (x ∈ ls)) := by
  obtain ⟨a1, a2, a3⟩ := flat_str x hx
  obtain ⟨b1, b2, b3⟩ := toPys_flat (f := dS) (g := fun l => PyData.str (S l)) ls fun l h => flat_str l (hl l h)
  show memD (dS x) (ls.map dS) = _
  simp only [memD, a1, b1, shaped_flat a2 a3, shaped_list b2 b3, Bool.and_self, if_true]
  congr 1
  clear b1 b2 b3 hl
  induction ls with
  | nil => simp
  | cons l ls ih =>
    rw [List.map_cons, List.any_cons, ih, eqv_S]
    by_cases h : l = x
    · subst h; simp
    · have h2 : ¬ x = l := fun e => h e.symm
      simp [h, h2]
end VK

namespace VK
open VI
open PySem (PyData)
section
variable {T : Tab} {Pn : List Nat}
theorem x_whl (c : Ex) (b : List Sm) (s : VS) : VI.exec T Pn (.whl c b) s = whileM (ev T c) (VI.execs T Pn b) T.fuel s := by simp only [VI.exec]
theorem while_inv {c : M D} {b : M Fl} : ∀ (k fuel : Nat) (I : Nat → VS → Prop) (s : VS), k < fuel → I k s → (∀ k s, I (k + 1) s → c s = some (.ok (.bl true) s) ∧ ∃ fl s', b s = some (.ok fl s') ∧ (fl = .nx ∨ fl = .ct) ∧ I k s') → (∀ s, I 0 s → c s = some (.ok (.bl false) s)) →
    ∃ s', whileM c b fuel s = some (.ok .nx s') ∧ I 0 s'
  | k, 0, I, s, h, _, _, _ => absurd h (Nat.not_lt_zero _)
  | 0, fuel + 1, I, s, _, i, _, h0 => ⟨s, by unfold whileM; rw [b_app, h0 s i, b_ok]; rfl, i⟩
  | k + 1, fuel + 1, I, s, h, i, st, h0 => by
    obtain ⟨hc, fl, s1, hb, hf, i1⟩ := st k s i
    obtain ⟨s2, e, i2⟩ := while_inv k fuel I s1 (by omega) i1 st h0
    refine ⟨s2, ?_, i2⟩
    unfold whileM
    rw [b_app, hc, b_ok]
    show M.bnd b _ s = _
    rw [b_app, hb, b_ok]
    rcases hf with rfl | rfl <;> exact e
end
theorem erase_perm {α : Type} : ∀ {l : List α} {i : Nat} {x : α}, l[i]? = some x → (x :: l.eraseIdx i).Perm l
  | [], _, _, h => by simp at h
  | a :: l, 0, x, h => by
    simp at h
    subst h
    exact List.Perm.refl _
  | a :: l, i + 1, x, h => by
    rw [List.getElem?_cons_succ] at h
    rw [List.eraseIdx_cons_succ]
    exact (List.Perm.swap a x _).trans ((erase_perm h).cons a)
theorem erase_map {α β : Type} (f : α → β) : ∀ (l : List α) (i : Nat), (l.map f).eraseIdx i = (l.eraseIdx i).map f
  | [], _ => by simp
  | a :: l, 0 => rfl
  | a :: l, i + 1 => by
    simp only [List.map_cons, List.eraseIdx_cons_succ]
    rw [erase_map f l i]
theorem erase_len {α : Type} {l : List α} {i : Nat} {x : α} (h : l[i]? = some x) : (l.eraseIdx i).length + 1 = l.length := by
  have := (erase_perm h).length_eq
  simpa using this
def OrderS (m : List D → List RO → Option CR) : Prop := ∀ (d : D) (B n : Nat), PileOk d B → B < 2 ^ 98 → n ≤ 100 → ∃ (ns : List Int) (d' : D), ns.Perm ((List.range n).map fun i : Nat => (i : Int)) ∧ PileOk d' (B + n) ∧ m [d, .int (n : Int)] [] = some (.ok (.lst true (ns.map .int)) [some d', none] [])
theorem popa_ok (ds : List D) (i : Nat) (x : D) (h : ds[i]? = some x) (hx : allF x = true) (hi : i < 2 ^ 62) : Mp.fn .popa (.lst true ds) [.int (i : Int)] = some (.lst true (ds.eraseIdx i), x) := by
  have hl : i < ds.length := (List.getElem?_eq_some_iff.mp h).1
  simp only [Mp.fn]
  rw [if_pos (by omega)]
  have e : L2.ixN ds.length (i : Int) = some i := by
    unfold L2.ixN
    rw [if_pos (by omega), if_pos (by omega)]
    simp
  rw [e]
  simp only [Option.bind_some, h, okA, hx, if_true, Option.map_some]
theorem app_ok (ds : List D) (d : D) (h : ds.length < lim) : Mp.fn .app (.lst true ds) [d] = some (.lst true (ds ++ [d]), .non) := by
  show (if ds.length < lim then _ else _) = _
  rw [if_pos h]
theorem lenD_l (o : Bool) (ds : List D) : lenD (.lst o ds) = some (ds.length : Int) := rfl
theorem order_e1 (T : Tab) (d : D) (n : Nat) (hn : n ≤ 100) : VI.exec T [0] (.asg [2] (.pr .lrng [.var 1])) ⟨[some d, some (.int n), none, none], []⟩ = some (.ok .nx ⟨[some d, some (.int n), some (.lst true ((((List.range n).map fun i : Nat => (i : Int))).map .int)), none], []⟩) := by
  have hlimI : (lim : Int) = 1000000 := rfl
  have e : lrngD (.int (n : Int)) = some (.lst true (((List.range n).map fun i : Nat => (i : Int)).map .int)) := by
    show (if -1000000 ≤ (n : Int) ∧ (n : Int) ≤ lim then _ else _) = _
    rw [if_pos (by omega), List.map_map]
    rfl
  simp (disch := first | decide | with_unfolding_all rfl | (with_unfolding_all (intro _ h; cases h; done)) | omega) only [List.map_cons, List.map_nil, List.length_cons, List.length_nil, List.cons_append, List.nil_append, List.replicate_succ, List.replicate_zero, Nat.reduceAdd, Nat.reduceSub, if_true, xs_nil, xs_cons, seq_nx, seq_rt, x_asg, x_ex, x_ret, x_retN, x_pass, x_ite, x_set, b_app, b_ok, ret_app, ev_con, ev_var, ev_frv, ev_mov, ev_lst, ev_tup, ev_dic0, ev_not, ev_and, ev_or, ev_ife, ev_call, evs_nil, evs_cons, evA_nil, evA_var, evG_nil, evG_io, ev_mt, mR_some, tR_bl, qR_some, sR_some, gR_some, evq, evqs, okF, allF, allFs, frz, frzs, AV.gets, AV.get, Pr.fn, fn1, fn2, fn3, Option.bind_some, Option.map_some, List.getElem?_cons_zero, List.getElem?_cons_succ, List.set_cons_zero, List.set_cons_succ, ite_true, reduceIte, Mp.kind, ev_prq, ev_prg, evA_cons, evG_cons, bnd_asg1, Bool.and_self, Bool.false_eq_true, if_false, Int.reduceLT, Int.reduceLE, addD_ii, subD_ii, mulD_ii, modD_ii, fdivD_ii, int1D_i, runR_rt, runR_nx, runF_eq, bR_ex, ix_l, okA_i, kind_l, eqD_int, e]
abbrev sO (d n : D) (l f : List Int) : VS := ⟨[some d, some n, some (.lst true (l.map .int)), some (.lst true (f.map .int))], []⟩
theorem order_c1 (T : Tab) (d n : D) (l f : List Int) (h : l ≠ []) : ev T (.pr .ne [.var 2, .lst []]) (sO d n l f) = some (.ok (.bl true) (sO d n l f)) := by
  have e := eqD_ints true false l []
  simp only [List.map_nil, h, decide_false] at e
  simp (disch := first | decide | with_unfolding_all rfl | (with_unfolding_all (intro _ h; cases h; done)) | omega) only [List.map_cons, List.map_nil, List.length_cons, List.length_nil, List.cons_append, List.nil_append, List.replicate_succ, List.replicate_zero, Nat.reduceAdd, Nat.reduceSub, if_true, xs_nil, xs_cons, seq_nx, seq_rt, x_asg, x_ex, x_ret, x_retN, x_pass, x_ite, x_set, b_app, b_ok, ret_app, ev_con, ev_var, ev_frv, ev_mov, ev_lst, ev_tup, ev_dic0, ev_not, ev_and, ev_or, ev_ife, ev_call, evs_nil, evs_cons, evA_nil, evA_var, evG_nil, evG_io, ev_mt, mR_some, tR_bl, qR_some, sR_some, gR_some, evq, evqs, okF, allF, allFs, frz, frzs, AV.gets, AV.get, Pr.fn, fn1, fn2, fn3, Option.bind_some, Option.map_some, List.getElem?_cons_zero, List.getElem?_cons_succ, List.set_cons_zero, List.set_cons_succ, ite_true, reduceIte, Mp.kind, ev_prq, ev_prg, evA_cons, evG_cons, bnd_asg1, Bool.and_self, Bool.false_eq_true, if_false, Int.reduceLT, Int.reduceLE, addD_ii, subD_ii, mulD_ii, modD_ii, fdivD_ii, int1D_i, runR_rt, runR_nx, runF_eq, bR_ex, ix_l, okA_i, kind_l, eqD_int, e, Bool.not_false, Nat.zero_le]
theorem order_c0 (T : Tab) (d n : D) (f : List Int) : ev T (.pr .ne [.var 2, .lst []]) (sO d n [] f) = some (.ok (.bl false) (sO d n [] f)) := by
  have e := eqD_ints true false [] []
  simp only [List.map_nil, decide_true] at e
  simp (disch := first | decide | with_unfolding_all rfl | (with_unfolding_all (intro _ h; cases h; done)) | omega) only [List.map_cons, List.map_nil, List.length_cons, List.length_nil, List.cons_append, List.nil_append, List.replicate_succ, List.replicate_zero, Nat.reduceAdd, Nat.reduceSub, if_true, xs_nil, xs_cons, seq_nx, seq_rt, x_asg, x_ex, x_ret, x_retN, x_pass, x_ite, x_set, b_app, b_ok, ret_app, ev_con, ev_var, ev_frv, ev_mov, ev_lst, ev_tup, ev_dic0, ev_not, ev_and, ev_or, ev_ife, ev_call, evs_nil, evs_cons, evA_nil, evA_var, evG_nil, evG_io, ev_mt, mR_some, tR_bl, qR_some, sR_some, gR_some, evq, evqs, okF, allF, allFs, frz, frzs, AV.gets, AV.get, Pr.fn, fn1, fn2, fn3, Option.bind_some, Option.map_some, List.getElem?_cons_zero, List.getElem?_cons_succ, List.set_cons_zero, List.set_cons_succ, ite_true, reduceIte, Mp.kind, ev_prq, ev_prg, evA_cons, evG_cons, bnd_asg1, Bool.and_self, Bool.false_eq_true, if_false, Int.reduceLT, Int.reduceLE, addD_ii, subD_ii, mulD_ii, modD_ii, fdivD_ii, int1D_i, runR_rt, runR_nx, runF_eq, bR_ex, ix_l, okA_i, kind_l, eqD_int, e, Bool.not_true, Nat.zero_le]
end VK

namespace VK
open VI
open PySem (PyData)
theorem ev_mt_ok {T : Tab} {m : Mp} {i : Nat} {as : List Ex} {s s1 : VS} {o o1 o' d : D} {ds : List D} (h1 : s.ρ[i]? = some (some o)) (hk : m.kind o = true) (he : evs T as s = some (.ok ds s1)) (h2 : s1.ρ[i]? = some (some o1)) (hf : m.fn o1 ds = some (o', d)) :
    ev T (.mt m (.var i) as) s = some (.ok d ⟨s1.ρ.set i (some o'), s1.μ⟩) := by
  rw [ev_mt, h1, sR_some, hk, if_pos rfl, he, b_ok, h2, sR_some, hf, mR_some]
theorem evs_one {T : Tab} {e : Ex} {s s1 : VS} {d : D} (h : ev T e s = some (.ok d s1)) : evs T [e] s = some (.ok [frz d] s1) := by
  rw [evs_cons, h, b_ok, evs_nil, b_ok]
theorem order_b1 (T : Tab) (d d2 n : D) (l f : List Int) (j : Nat) (x : Int) (hx : l[j]? = some x) (hj : j < 1000) (e2 : ev T (.call 3 [.io 0, .pr .len [.var 2]]) (sO d n l f) = some (.ok (.int (j : Int)) (sO d2 n l f))) :
    ev T (.mt .popa (.var 2) [.call 3 [.io 0, .pr .len [.var 2]]]) (sO d n l f) = some (.ok (.int x) (sO d2 n (l.eraseIdx j) f)) := by
  have hpop := popa_ok (l.map .int) j (.int x) (by rw [List.getElem?_map, hx]; rfl) rfl (by omega)
  rw [erase_map] at hpop
  exact ev_mt_ok (s := sO d n l f) (s1 := sO d2 n l f) (i := 2) (m := .popa) rfl rfl (evs_one e2) rfl hpop
theorem order_b2 (T : Tab) (d d2 n : D) (l l2 f : List Int) (x : Int) (hf : f.length < lim) (e : Ex) (e3 : ev T e (sO d n l f) = some (.ok (.int x) (sO d2 n l2 f))) :
    VI.exec T [0] (.ex (.mt .app (.var 3) [e])) (sO d n l f) = some (.ok .nx (sO d2 n l2 (f ++ [x]))) := by
  have happ := app_ok (f.map .int) (.int x) (by rw [List.length_map]; exact hf)
  rw [show f.map D.int ++ [.int x] = (f ++ [x]).map .int by simp] at happ
  have e5 := ev_mt_ok (s := sO d n l f) (s1 := sO d2 n l2 f) (i := 3) (m := .app) rfl rfl (evs_one e3) rfl happ
  rw [x_ex, e5, b_ok, ret_app]
  rfl
theorem order_b (T : Tab) (hT : TakeS (T.call 3)) (d : D) (n : D) (B : Nat) (l f : List Int) (hp : PileOk d B) (hB : B < 2 ^ 99) (h : l ≠ []) (hl : l.length ≤ 200) (hf : f.length ≤ 200) :
    ∃ (d' : D) (j : Nat) (x : Int), l[j]? = some x ∧ PileOk d' (B + 1) ∧ VI.execs T [0] [.ex (.mt .app (.var 3) [.mt .popa (.var 2) [.call 3 [.io 0, .pr .len [.var 2]]]])] (sO d n l f) = some (.ok .nx (sO d' n (l.eraseIdx j) (f ++ [x]))) := by
  have hlim : lim = 1000000 := rfl
  have hl0 : l.length ≠ 0 := fun e => h (List.length_eq_zero_iff.mp e)
  have el : ev T (.pr .len [.var 2]) (sO d n l f) = some (.ok (.int (l.length)) (sO d n l f)) := by
    rw [ev_prq _ _ _ (by decide)]
    simp only [evqs, evq, List.getElem?_cons_succ, List.getElem?_cons_zero, Option.bind_some, Pr.fn, fn1, lenD_l, List.length_map, Option.map_some, qR_some, okF, allF, if_true]
  obtain ⟨r, d2, h0, h1, hp2, e2⟩ := take_call hT (T := T) (e := .pr .len [.var 2]) (s := sO d n l f) (n := l.length) rfl hp (by omega) (by omega) (by omega) (fun _ h => nomatch h) el
  obtain ⟨j, rfl⟩ := Int.eq_ofNat_of_zero_le h0
  have hj : j < l.length := by omega
  obtain ⟨x, hx⟩ : ∃ x, l[j]? = some x := ⟨l[j], by simp [hj]⟩
  refine ⟨d2, j, x, hx, hp2, ?_⟩
  rw [xs_step (order_b2 T d d2 n l (l.eraseIdx j) f x (by omega) _ (order_b1 T d d2 n l f j x hx (by omega) e2)), xs_nil]
theorem order_ok (T : Tab) (hf : 200 ≤ T.fuel) (hT : TakeS (T.call 3)) : OrderS (runF T 2 4 [0] c_law_order) := by
  intro d B n hp hB hn
  have e1 := order_e1 T d n hn
  obtain ⟨s', ew, left, found, d', rfl, hl, hperm, hp'⟩ := while_inv (c := ev T (.pr .ne [.var 2, .lst []])) (b := VI.execs T [0] [.ex (.mt .app (.var 3) [.mt .popa (.var 2) [.call 3 [.io 0, .pr .len [.var 2]]]])]) n T.fuel
    (fun k s => ∃ (left found : List Int) (d' : D), s = sO d' (.int n) left found ∧ left.length = k ∧ (found ++ left).Perm ((List.range n).map fun i : Nat => (i : Int)) ∧ PileOk d' (B + (n - k)))
    (sO d (.int n) ((List.range n).map fun i : Nat => (i : Int)) []) (by omega) ⟨_, [], d, rfl, by simp, List.Perm.refl _, by simpa using hp⟩ (by
      rintro k s ⟨left, found, d', rfl, hl, hperm, hp'⟩
      have hfl : found.length + left.length = n := by
        have := hperm.length_eq
        simpa using this
      have hne : left ≠ [] := fun h => by rw [h] at hl; simp at hl
      refine ⟨order_c1 T d' _ left found hne, ?_⟩
      obtain ⟨d2, j, x, hx, hp2, e⟩ := order_b T hT d' (.int n) _ left found hp' (by omega) hne (by omega) (by omega)
      have el := erase_len hx
      refine ⟨.nx, _, e, .inl rfl, left.eraseIdx j, found ++ [x], d2, rfl, by omega, ?_, hp2.le (by omega)⟩
      rw [List.append_assoc]
      exact ((erase_perm hx).append_left found).trans hperm) (by
      rintro s ⟨left, found, d', rfl, hl, hperm, hp'⟩
      have : left = [] := List.length_eq_zero_iff.mp hl
      subst this
      exact order_c0 T d' _ found)
  have : left = [] := List.length_eq_zero_iff.mp hl
  subst this
  refine ⟨found, d', by simpa using hperm, hp'.le (by omega), ?_⟩
  unfold c_law_order
  rw [runF_eq 2 4 _ [d, .int n] [] rfl]
  show runR 2 [0] (VI.execs T [0] _ ⟨[some d, some (.int n), none, none], []⟩) = _
  rw [xs_step e1]
  rw [xs_step (s1 := sO d (.int n) ((List.range n).map fun i : Nat => (i : Int)) []) rfl]
  rw [xs_step (by rw [x_whl]; exact ew)]
  rfl
end VK

namespace VK
open VI
open PySem (PyData)
/-- an entry: its name, what it reads -/
abbrev En := List Nat × List (List Nat)
def dE (e : En) : D := .tup [dS e.1, .lst false (e.2.map dS)]
theorem allF_E (e : En) : allF (dE e) = true := by
  show (allF (dS e.1) && ((!false && allFs (e.2.map dS)) && true)) = true
  rw [allFs_S]
  rfl
theorem frz_E (e : En) : frz (dE e) = dE e := frz_id _ (allF_E e)
theorem allFs_E : ∀ es : List En, allFs (es.map dE) = true
  | [] => rfl
  | e :: es => by
    show (allF (dE e) && allFs (es.map dE)) = true
    rw [allF_E, allFs_E es]
    rfl
theorem frzs_E (es : List En) : frzs (es.map dE) = es.map dE := frzs_id _ (allFs_E es)
theorem at_nat {α : Type} (l : List α) (j : Nat) : L2.atI l (j : Int) = l[j]? := by
  unfold L2.atI L2.ixN
  rw [if_pos (by omega)]
  by_cases h : j < l.length
  · rw [if_pos (by omega)]
    simp
  · rw [if_neg (by omega), List.getElem?_eq_none (by omega)]
    rfl
theorem ix_tup0 (a : D) (l : List D) (h : allF a = true) : ixD (.tup (a :: l)) (.int 0) = some a := by
  show ((L2.atI (a :: l) ((0 : Nat) : Int)).bind okA) = _
  rw [at_nat]
  simp only [List.getElem?_cons_zero, Option.bind_some, okA, h, if_true]
def RowS (m : List D → List RO → Option CR) : Prop := ∀ (d : D) (B : Nat) (es : List En) (most : Nat), PileOk d B → B < 2 ^ 97 → es ≠ [] → es.length ≤ 100 → most ≤ 500 →
  ∃ (r : List (List Nat)) (d' : D), (∀ x ∈ r, x ∈ es.map (·.1)) ∧ r.length ≤ most ∧ PileOk d' (B + most + 1) ∧ m [d, .lst false (es.map dE), .int (most : Int)] [] = some (.ok (.lst true (r.map dS)) [some d', none, none] [])
theorem row_ok (T : Tab) (hT : TakeS (T.call 3)) : RowS (runF T 3 4 [0] c_law_row) := by
  intro d B es most hp hB hne hes hmost
  have hlim : lim = 1000000 := rfl
  have hlen0 : es.length ≠ 0 := fun e => hne (List.length_eq_zero_iff.mp e)
  have em : ev T (.pr .add [.var 2, .con (.int 1)]) ⟨[some d, some (.lst false (es.map dE)), some (.int most), none], []⟩ = some (.ok (.int (most + 1)) ⟨[some d, some (.lst false (es.map dE)), some (.int most), none], []⟩) := by
    simp (disch := first | decide | with_unfolding_all rfl | (with_unfolding_all (intro _ h; cases h; done)) | omega) only [List.map_cons, List.map_nil, List.length_cons, List.length_nil, List.cons_append, List.nil_append, List.replicate_succ, List.replicate_zero, Nat.reduceAdd, Nat.reduceSub, if_true, xs_nil, xs_cons, seq_nx, seq_rt, x_asg, x_ex, x_ret, x_retN, x_pass, x_ite, x_set, b_app, b_ok, ret_app, ev_con, ev_var, ev_frv, ev_mov, ev_lst, ev_tup, ev_dic0, ev_not, ev_and, ev_or, ev_ife, ev_call, evs_nil, evs_cons, evA_nil, evA_var, evG_nil, evG_io, ev_mt, mR_some, tR_bl, qR_some, sR_some, gR_some, evq, evqs, okF, allF, allFs, frz, frzs, AV.gets, AV.get, Pr.fn, fn1, fn2, fn3, Option.bind_some, Option.map_some, List.getElem?_cons_zero, List.getElem?_cons_succ, List.set_cons_zero, List.set_cons_succ, ite_true, reduceIte, Mp.kind, ev_prq, ev_prg, evA_cons, evG_cons, bnd_asg1, Bool.and_self, Bool.false_eq_true, if_false, Int.reduceLT, Int.reduceLE, addD_ii, subD_ii, mulD_ii, modD_ii, fdivD_ii, int1D_i, runR_rt, runR_nx, runF_eq, bR_ex, ix_l, okA_i, kind_l, eqD_int]
  obtain ⟨k, d1, h0, h1, hp1, e1⟩ := take_call hT (T := T) (e := .pr .add [.var 2, .con (.int 1)]) (s := ⟨[some d, some (.lst false (es.map dE)), some (.int most), none], []⟩) (n := most + 1) rfl hp (by omega) (by omega) (by omega) (fun _ h => nomatch h) em
  obtain ⟨k, rfl⟩ := Int.eq_ofNat_of_zero_le h0
  obtain ⟨ds, s', el, r, d2, x, rfl, hl, hr, hp2, rfl⟩ := loopC_inv (f := lcBody [3] (evc T []) (ev T (.pr .ix [.pr .ix [.var 1, .call 3 [.io 0, .pr .len [.var 1]]], .con (.int 0)]))) ((List.range k).map fun i : Nat => D.int (i : Int))
    (fun i acc s => ∃ (r : List (List Nat)) (d' : D) (x : Option D), acc = r.map dS ∧ r.length = i ∧ (∀ y ∈ r, y ∈ es.map (·.1)) ∧ PileOk d' (B + 1 + i) ∧ s = ⟨[some d', some (.lst false (es.map dE)), some (.int most), x], []⟩) []
    ⟨[some d1, some (.lst false (es.map dE)), some (.int most), none], []⟩ ⟨[], d1, none, rfl, rfl, (fun _ h => nomatch h), hp1, rfl⟩ (by
      rintro i acc s dd hd ⟨r, d', x, rfl, hl, hr, hp', rfl⟩
      obtain ⟨hi, rfl⟩ := rng_get hd
      have el : ev T (.pr .len [.var 1]) ⟨[some d', some (.lst false (es.map dE)), some (.int most), some (.int (i : Int))], []⟩ = some (.ok (.int (es.length)) ⟨[some d', some (.lst false (es.map dE)), some (.int most), some (.int (i : Int))], []⟩) := by
        rw [ev_prq _ _ _ (by decide)]
        simp only [evqs, evq, List.getElem?_cons_succ, List.getElem?_cons_zero, Option.bind_some, Pr.fn, fn1, lenD_l, List.length_map, Option.map_some, qR_some, okF, allF, if_true]
      obtain ⟨j, d3, g0, g1, hp3, e3⟩ := take_call hT (T := T) (e := .pr .len [.var 1]) (s := ⟨[some d', some (.lst false (es.map dE)), some (.int most), some (.int (i : Int))], []⟩) (n := es.length) rfl hp' (by omega) (by omega) (by omega) (fun _ h => nomatch h) el
      obtain ⟨j, rfl⟩ := Int.eq_ofNat_of_zero_le g0
      have hj : j < es.length := by omega
      have hx : es[j]? = some es[j] := by simp [hj]
      have i1 : ixD (.lst false (es.map dE)) (.int (j : Int)) = some (dE es[j]) := by
        rw [ix_l, at_nat, List.getElem?_map, hx]
        simp only [Option.map_some, Option.bind_some, okA, allF_E, if_true]
      have i2 : ixD (dE es[j]) (.int 0) = some (dS es[j].1) := ix_tup0 _ _ rfl
      refine ⟨some (dS es[j].1), ⟨[some d3, some (.lst false (es.map dE)), some (.int most), some (.int (i : Int))], []⟩, ?_, ?_, r ++ [es[j].1], d3, some (.int (i : Int)), by simp, by simp [hl], fun y hy => ?_, hp3, rfl⟩
      · rw [lcBody_1, evc_nil, b_ok]
        simp only [if_true, List.set_cons_succ, List.set_cons_zero]
        rw [ev_prg _ _ _ (by decide), evA_cons (.pr .ix _) _ _ (fun _ h => nomatch h), ev_prg _ _ _ (by decide), evA_var, evA_cons (.call 3 [.io 0, .pr .len [.var 1]]) [] _ (fun _ h => nomatch h)]
        simp only [List.getElem?_cons_succ, List.getElem?_cons_zero, sR_some, e3, b_ok, evA_nil, frz, AV.gets, AV.get, gR_some, Pr.fn, fn2, i1, Option.map_some, frz_E]
        rw [evA_cons (.con (.int 0)) [] _ (fun _ h => nomatch h), ev_con]
        simp only [okF, allF, if_true, b_ok, evA_nil, frz, AV.gets, AV.get, gR_some, Pr.fn, fn2, i2, Option.map_some, frz_dS]
      · simp only [List.length_map, hl]
        omega
      · rcases List.mem_append.mp hy with hy | hy
        · exact hr y hy
        · simp only [List.mem_singleton] at hy
          subst hy
          exact List.mem_map_of_mem (List.getElem_mem hj))
  simp only [List.length_map, List.length_range] at hl hp2
  refine ⟨r, d2, hr, by omega, hp2.le (by omega), ?_⟩
  unfold c_law_row
  rw [runF_eq 3 4 _ [d, .lst false (es.map dE), .int most] [] rfl]
  show runR 3 [0] (VI.execs T [0] _ ⟨[some d, some (.lst false (es.map dE)), some (.int most), none], []⟩) = _
  rw [xs_cons, x_ret, ev_lc, src_app, evs_one e1, b_ok]
  simp only [frz]
  rw [srcD_r1 k (by omega), oR_some, b_ok, lcM_ok el, b_ok]
  rfl
end VK

namespace VK
open VI
open PySem (PyData)
def ky (l : List Nat) : L2.Key := .inr (S l)
theorem ky_inj {a b : List Nat} (h : ky a = ky b) : a = b := by
  unfold ky at h
  exact S_inj (Sum.inr.inj h)
theorem look_none {α β : Type} [DecidableEq α] : ∀ {ks : List α} {ds : List β} {k : α}, k ∉ ks → look ks ds k = none
  | [], _, _, _ => by unfold look; rfl
  | _ :: _, [], _, _ => by unfold look; rfl
  | a :: ks, d :: ds, k, h => by
    have hne : ¬ a = k := fun e => by
      subst e
      exact h List.mem_cons_self
    unfold look
    rw [if_neg hne]
    exact look_none fun z => h (List.mem_cons_of_mem _ z)
theorem setd_new (ks : List L2.Key) (ds : List D) (l : List Nat) (d : D) (h : ky l ∉ ks) (hl : ks.length < lim) : Mp.fn .setd (.dic true ks ds) [d, dS l] = some (.dic true (ks ++ [ky l]) (ds ++ [d]), .non) := by
  have e : keyOf (dS l) = some (ky l) := rfl
  simp only [Mp.fn, e, Option.bind_some, if_pos hl, look_none h, Option.isSome_none, Bool.false_eq_true, if_false]
theorem nodup_take {α : Type} : ∀ {l : List α} {i : Nat} {x : α}, l.Nodup → l[i]? = some x → x ∉ l.take i
  | [], _, _, _, h => by simp at h
  | a :: l, 0, x, _, _ => by simp
  | a :: l, i + 1, x, n, h => by
    rw [List.getElem?_cons_succ] at h
    rw [List.take_succ_cons]
    obtain ⟨n1, n2⟩ := List.nodup_cons.mp n
    intro z
    rcases List.mem_cons.mp z with rfl | z
    · exact n1 (List.mem_of_getElem? h)
    · exact nodup_take n2 h z
theorem take_snoc {α : Type} {l : List α} {i : Nat} {x : α} (h : l[i]? = some x) : l.take (i + 1) = l.take i ++ [x] := by
  rw [List.take_add_one, h]
  rfl
/-- what each cell reads, as a dict -/
def rdK (plain : List (List Nat)) (es : List En) : List L2.Key := (plain ++ es.map (·.1)).map ky
def rdV (plain : List (List Nat)) (es : List En) : List D := (plain.map fun _ => D.lst false []) ++ es.map fun e => D.lst false (e.2.map dS)
def ReadsS (m : List D → List RO → Option CR) : Prop := ∀ (plain : List (List Nat)) (es : List En), (plain ++ es.map (·.1)).Nodup → plain.length + es.length ≤ 100 →
  m [.lst false (plain.map dS), .lst false (es.map dE)] [] = some (.ok (.dic true (rdK plain es) (rdV plain es)) [none, none] [])
abbrev sR5 (plain : List (List Nat)) (es : List En) (ks : List L2.Key) (ds : List D) (x y : Option D) : VS := ⟨[some (.lst false (plain.map dS)), some (.lst false (es.map dE)), some (.dic true ks ds), x, y], []⟩
theorem x_setS {T : Tab} {Pn : List Nat} {m : Mp} {i : Nat} {k e : Ex} {s s1 : VS} {o o1 o' d : D} {ds : List D} (h1 : s.ρ[i]? = some (some o)) (hk : m.kind o = true) (he : evs T [e, k] s = some (.ok ds s1)) (h2 : s1.ρ[i]? = some (some o1)) (hf : m.fn o1 ds = some (o', d)) :
    VI.exec T Pn (.setS m i k e) s = some (.ok .nx ⟨s1.ρ.set i (some o'), s1.μ⟩) := by
  rw [x_set, ev_mt_ok h1 hk he h2 hf, b_ok, ret_app]
theorem evs_two {T : Tab} {a b : Ex} {s s1 s2 : VS} {x y : D} (h1 : ev T a s = some (.ok x s1)) (h2 : ev T b s1 = some (.ok y s2)) : evs T [a, b] s = some (.ok [frz x, frz y] s2) := by
  rw [evs_cons, h1, b_ok, evs_one h2, b_ok]
theorem reads_ok (T : Tab) : ReadsS (runF T 2 5 [] c_law_reads) := by
  intro plain es hnd hlen
  have hlim : lim = 1000000 := rfl
  obtain ⟨nd1, nd2, nd3⟩ := List.nodup_append.mp hnd
  -- the plain cells
  obtain ⟨s1, f1, x1, y1, rfl⟩ := forM_inv (Pn := []) (tg := [3]) (b := VI.execs T [] [.setS .setd 2 (.frv 3) (.lst [])]) (plain.map dS)
    (fun i s => ∃ x y, s = sR5 plain es ((plain.take i).map ky) ((plain.take i).map fun _ => D.lst false []) x y) (sR5 plain es [] [] none none) ⟨none, none, rfl⟩ (by
      rintro i s d hd ⟨x, y, rfl⟩
      rw [List.getElem?_map] at hd
      cases hp : plain[i]? with
      | none => rw [hp] at hd; cases hd
      | some l =>
        rw [hp] at hd
        cases hd
        have hi : i < plain.length := (List.getElem?_eq_some_iff.mp hp).1
        refine ⟨by decide, _, rfl, .nx, sR5 plain es ((plain.take (i + 1)).map ky) ((plain.take (i + 1)).map fun _ => D.lst false []) (some (dS l)) y, ?_, .inl rfl, _, _, rfl⟩
        have hn : ky l ∉ (plain.take i).map ky := fun z => by
          obtain ⟨l', h1, h2⟩ := List.mem_map.mp z
          rw [ky_inj h2] at h1
          exact nodup_take nd1 hp h1
        have hs := setd_new ((plain.take i).map ky) ((plain.take i).map fun _ => D.lst false []) l (.lst false []) hn (by rw [List.length_map, List.length_take]; omega)
        have e := x_setS (T := T) (Pn := []) (m := .setd) (i := 2) (k := .frv 3) (e := .lst []) (s := sR5 plain es ((plain.take i).map ky) ((plain.take i).map fun _ => D.lst false []) (some (dS l)) y) (s1 := sR5 plain es ((plain.take i).map ky) ((plain.take i).map fun _ => D.lst false []) (some (dS l)) y) rfl rfl (evs_two rfl rfl) rfl hs
        rw [show (sR5 plain es ((plain.take i).map ky) ((plain.take i).map fun _ => D.lst false []) x y).ρ.set 3 (some (dS l)) = (sR5 plain es ((plain.take i).map ky) ((plain.take i).map fun _ => D.lst false []) (some (dS l)) y).ρ from rfl]
        rw [xs_step e, xs_nil, take_snoc hp, List.map_append, List.map_append]
        rfl)
  -- the computed ones
  obtain ⟨s2, f2, x2, y2, rfl⟩ := forM_inv (Pn := []) (tg := [3, 4]) (b := VI.execs T [] [.setS .setd 2 (.frv 3) (.pr .list [.var 4])]) (es.map dE)
    (fun i s => ∃ x y, s = sR5 plain es ((plain ++ (es.take i).map (·.1)).map ky) ((plain.map fun _ => D.lst false []) ++ (es.take i).map fun e => D.lst false (e.2.map dS)) x y) (sR5 plain es (plain.map ky) (plain.map fun _ => D.lst false []) x1 y1) ⟨x1, y1, by simp⟩ (by
      rintro i s d hd ⟨x, y, rfl⟩
      rw [List.getElem?_map] at hd
      cases hp : es[i]? with
      | none => rw [hp] at hd; cases hd
      | some e0 =>
        rw [hp] at hd
        cases hd
        have hi : i < es.length := (List.getElem?_eq_some_iff.mp hp).1
        refine ⟨by decide, _, rfl, .nx, sR5 plain es ((plain ++ (es.take (i + 1)).map (·.1)).map ky) ((plain.map fun _ => D.lst false []) ++ (es.take (i + 1)).map fun e => D.lst false (e.2.map dS)) (some (dS e0.1)) (some (.lst false (e0.2.map dS))), ?_, .inl rfl, _, _, rfl⟩
        have hn : ky e0.1 ∉ (plain ++ (es.take i).map (·.1)).map ky := fun z => by
          obtain ⟨l', h1, h2⟩ := List.mem_map.mp z
          rw [ky_inj h2] at h1
          rcases List.mem_append.mp h1 with h1 | h1
          · exact nd3 _ h1 _ (List.mem_map_of_mem (List.mem_of_getElem? hp)) rfl
          · have h3 : (es.map (·.1))[i]? = some e0.1 := by rw [List.getElem?_map, hp]; rfl
            have := nodup_take nd2 h3
            rw [← List.map_take] at this
            exact this h1
        have hs := setd_new ((plain ++ (es.take i).map (·.1)).map ky) ((plain.map fun _ => D.lst false []) ++ (es.take i).map fun e => D.lst false (e.2.map dS)) e0.1 (.lst false (e0.2.map dS)) hn (by rw [List.length_map, List.length_append, List.length_map, List.length_take]; omega)
        have hl : ev T (.pr .list [.var 4]) (sR5 plain es ((plain ++ (es.take i).map (·.1)).map ky) ((plain.map fun _ => D.lst false []) ++ (es.take i).map fun e => D.lst false (e.2.map dS)) (some (dS e0.1)) (some (.lst false (e0.2.map dS)))) = some (.ok (.lst true (e0.2.map dS)) (sR5 plain es ((plain ++ (es.take i).map (·.1)).map ky) ((plain.map fun _ => D.lst false []) ++ (es.take i).map fun e => D.lst false (e.2.map dS)) (some (dS e0.1)) (some (.lst false (e0.2.map dS))))) := by
          rw [ev_prg _ _ _ (by decide), evA_var]
          simp only [List.getElem?_cons_succ, List.getElem?_cons_zero, sR_some, evA_nil, b_ok, AV.gets, AV.get, gR_some, Pr.fn, fn1, listD, allFs_S, if_true, Option.map_some]
        have e := x_setS (T := T) (Pn := []) (m := .setd) (i := 2) (k := .frv 3) (e := .pr .list [.var 4]) (s := sR5 plain es ((plain ++ (es.take i).map (·.1)).map ky) ((plain.map fun _ => D.lst false []) ++ (es.take i).map fun e => D.lst false (e.2.map dS)) (some (dS e0.1)) (some (.lst false (e0.2.map dS)))) (o' := .dic true ((plain ++ (es.take i).map (·.1)).map ky ++ [ky e0.1]) (((plain.map fun _ => D.lst false []) ++ (es.take i).map fun e => D.lst false (e.2.map dS)) ++ [.lst false (e0.2.map dS)])) rfl rfl (evs_two hl rfl) rfl (by
          rw [show frz (.lst true (e0.2.map dS)) = .lst false (e0.2.map dS) by simp only [frz, frzs_S]]
          exact hs)
        show VI.execs T [] [.setS .setd 2 (.frv 3) (.pr .list [.var 4])] (sR5 plain es ((plain ++ (es.take i).map (·.1)).map ky) ((plain.map fun _ => D.lst false []) ++ (es.take i).map fun e => D.lst false (e.2.map dS)) (some (dS e0.1)) (some (.lst false (e0.2.map dS)))) = _
        rw [xs_step e, xs_nil, take_snoc hp, List.map_append (l₁ := es.take i), ← List.append_assoc, List.map_append (l₁ := plain ++ _), List.map_append (l₁ := es.take i), ← List.append_assoc]
        rfl)
  simp only [List.length_map, List.take_length] at f1 f2
  unfold c_law_reads
  rw [runF_eq 2 5 _ [.lst false (plain.map dS), .lst false (es.map dE)] [] rfl]
  show runR 2 [] (VI.execs T [] _ ⟨[some (.lst false (plain.map dS)), some (.lst false (es.map dE)), none, none, none], []⟩) = _
  rw [xs_step (s1 := sR5 plain es [] [] none none) rfl]
  rw [xs_step (s1 := sR5 plain es (plain.map ky) (plain.map fun _ => D.lst false []) x1 y1) (by
    rw [x_for, src_app, evs_one (d := .lst false (plain.map dS)) (s1 := sR5 plain es [] [] none none) (by rw [ev_frv]; simp only [List.getElem?_cons_zero, sR_some, frz, frzs_S, List.set_cons_zero]), b_ok]
    simp only [frz, frzs_S]
    rw [show srcD .val [.lst false (plain.map dS)] = some (plain.map dS) from rfl, oR_some, b_ok, f1])]
  rw [xs_step (s1 := sR5 plain es ((plain ++ es.map (·.1)).map ky) ((plain.map fun _ => D.lst false []) ++ es.map fun e => D.lst false (e.2.map dS)) x2 y2) (by
    rw [x_for, src_app, evs_one (d := .lst false (es.map dE)) (s1 := sR5 plain es (plain.map ky) (plain.map fun _ => D.lst false []) x1 y1) (by rw [ev_frv]; simp only [List.getElem?_cons_succ, List.getElem?_cons_zero, sR_some, frz, frzs_E, List.set_cons_succ, List.set_cons_zero]), b_ok]
    simp only [frz, frzs_E]
    rw [show srcD .val [.lst false (es.map dE)] = some (es.map dE) from rfl, oR_some, b_ok, f2])]
  rfl
end VK

namespace VK
open VI
open PySem (PyData)
theorem set_same {α : Type} {ρ : List α} {i : Nat} {v : α} (h : ρ[i]? = some v) : ρ.set i v = ρ := by
  apply List.ext_getElem?
  intro j
  by_cases e : j = i
  · subst e
    rw [List.getElem?_set_self (List.getElem?_eq_some_iff.mp h).1]
    exact h.symm
  · rw [List.getElem?_set_ne (Ne.symm e)]
theorem frv_same {T : Tab} {i : Nat} {s : VS} {d : D} (h : s.ρ[i]? = some (some d)) (hd : frz d = d) : ev T (.frv i) s = some (.ok d s) := by
  rw [ev_frv, h, sR_some, hd, set_same h]
section
variable {T : Tab} {cs : List Ex} {tg : Nat}
/-- [x for x in l if ..]: what is kept stands in its order -/
theorem filt_loop (l : List (List Nat)) (hl : l.length < lim) (I : Nat → VS → Prop) (s : VS) (h0 : I 0 s)
    (st : ∀ (i : Nat) (s : VS) (x : List Nat), l[i]? = some x → I i s → ∃ b s', evc T cs ⟨s.ρ.set tg (some (dS x)), s.μ⟩ = some (.ok b s') ∧ s'.ρ[tg]? = some (some (dS x)) ∧ I (i + 1) s') :
    ∃ (r : List (List Nat)) (s' : VS), r.Sublist l ∧ loopC (lcBody [tg] (evc T cs) (ev T (.frv tg))) (l.map dS) [] s = some (.ok (r.map dS) s') ∧ I l.length s' := by
  obtain ⟨ds, s', e, hI, r, rfl, hr⟩ := loopC_inv (f := lcBody [tg] (evc T cs) (ev T (.frv tg))) (l.map dS) (fun i acc s => I i s ∧ ∃ r : List (List Nat), acc = r.map dS ∧ r.Sublist (l.take i)) [] s ⟨h0, [], rfl, List.Sublist.refl _⟩ (by
    rintro i acc s d hd ⟨hI, r, rfl, hr⟩
    rw [List.getElem?_map] at hd
    cases hx : l[i]? with
    | none => rw [hx] at hd; cases hd
    | some x =>
      rw [hx] at hd
      cases hd
      obtain ⟨b, s1, e1, e2, e3⟩ := st i s x hx hI
      have htk : l.take (i + 1) = l.take i ++ [x] := take_snoc hx
      cases b with
      | true =>
        refine ⟨some (dS x), s1, ?_, ?_, e3, r ++ [x], by simp, ?_⟩
        · show lcBody [tg] (evc T cs) (ev T (.frv tg)) (dS x) s = _
          rw [lcBody_1, e1, b_ok]
          simp only [if_true]
          rw [frv_same e2 rfl, b_ok]
          rfl
        · have := hr.length_le
          rw [List.length_take] at this
          rw [List.length_map]
          omega
        · rw [htk]
          exact hr.append (List.Sublist.refl _)
      | false =>
        refine ⟨none, s1, ?_, e3, r, rfl, ?_⟩
        · show lcBody [tg] (evc T cs) (ev T (.frv tg)) (dS x) s = _
          rw [lcBody_1, e1, b_ok]
          rfl
        · rw [htk]
          exact hr.trans (List.sublist_append_left _ _))
  rw [List.length_map] at hI hr
  rw [List.take_length] at hr
  exact ⟨r, s', hr, e, hI⟩
/-- [x for j, x in enumerate(l) if ..] -/
theorem filt_enum {tj : Nat} (hj : tj ≠ tg) (l : List (List Nat)) (hl : l.length < lim) (I : Nat → VS → Prop) (s : VS) (h0 : I 0 s)
    (st : ∀ (i : Nat) (s : VS) (x : List Nat), l[i]? = some x → I i s → ∃ b s', evc T cs ⟨(s.ρ.set tj (some (.int (i : Int)))).set tg (some (dS x)), s.μ⟩ = some (.ok b s') ∧ s'.ρ[tg]? = some (some (dS x)) ∧ I (i + 1) s') :
    ∃ (r : List (List Nat)) (s' : VS), r.Sublist l ∧ loopC (lcBody [tj, tg] (evc T cs) (ev T (.frv tg))) ((List.range (l.map dS).length).zipWith (fun (i : Nat) d => D.tup [.int (i : Int), d]) (l.map dS)) [] s = some (.ok (r.map dS) s') ∧ I l.length s' := by
  obtain ⟨ds, s', e, hI, r, rfl, hr⟩ := loopC_inv (f := lcBody [tj, tg] (evc T cs) (ev T (.frv tg))) ((List.range (l.map dS).length).zipWith (fun (i : Nat) d => D.tup [.int (i : Int), d]) (l.map dS)) (fun i acc s => I i s ∧ ∃ r : List (List Nat), acc = r.map dS ∧ r.Sublist (l.take i)) [] s ⟨h0, [], rfl, List.Sublist.refl _⟩ (by
    rintro i acc s d hd ⟨hI, r, rfl, hr⟩
    rw [List.getElem?_zipWith] at hd
    simp only [List.length_map] at hd
    by_cases hi : i < l.length
    · have hx : l[i]? = some l[i] := by simp [hi]
      rw [List.getElem?_map, hx, List.getElem?_range hi] at hd
      cases hd
      obtain ⟨b, s1, e1, e2, e3⟩ := st i s l[i] hx hI
      have htk : l.take (i + 1) = l.take i ++ [l[i]] := take_snoc hx
      cases b with
      | true =>
        refine ⟨some (dS l[i]), s1, ?_, ?_, e3, r ++ [l[i]], by simp, ?_⟩
        · show lcBody [tj, tg] (evc T cs) (ev T (.frv tg)) (.tup [.int (i : Int), dS l[i]]) s = _
          rw [lcBody_2 _ _ _ _ hj, e1, b_ok]
          simp only [if_true]
          rw [frv_same e2 rfl, b_ok]
          rfl
        · have := hr.length_le
          rw [List.length_take] at this
          rw [List.length_map]
          omega
        · rw [htk]
          exact hr.append (List.Sublist.refl _)
      | false =>
        refine ⟨none, s1, ?_, e3, r, rfl, ?_⟩
        · show lcBody [tj, tg] (evc T cs) (ev T (.frv tg)) (.tup [.int (i : Int), dS l[i]]) s = _
          rw [lcBody_2 _ _ _ _ hj, e1, b_ok]
          rfl
        · rw [htk]
          exact hr.trans (List.sublist_append_left _ _)
    · rw [List.getElem?_eq_none (l := List.range l.length) (by simpa using hi)] at hd
      cases hd)
  simp only [List.length_zipWith, List.length_map, List.length_range, Nat.min_self] at hI hr
  rw [List.take_length] at hr
  exact ⟨r, s', hr, e, hI⟩
end
/-- order, called with the pile in slot 0 -/
theorem order_call {T : Tab} (hO : OrderS (T.call 5)) {e : Ex} {s : VS} {d : D} {ρ : List (Option D)} {B n : Nat} (hs : s.ρ = some d :: ρ) (hp : PileOk d B) (hB : B < 2 ^ 98) (hn : n ≤ 100) (hne : ∀ i, e ≠ .io i) (he : ev T e s = some (.ok (.int (n : Int)) s)) :
    ∃ (ns : List Int) (d' : D), ns.Perm ((List.range n).map fun i : Nat => (i : Int)) ∧ PileOk d' (B + n) ∧ ev T (.call 5 [.io 0, e]) s = some (.ok (.lst true (ns.map .int)) ⟨some d' :: ρ, s.μ⟩) := by
  obtain ⟨ns, d', h1, h2, h3⟩ := hO d B n hp hB hn
  refine ⟨ns, d', h1, h2, ?_⟩
  have hno : noRefs (d :: [.int (n : Int)]) = true := by
    obtain ⟨g, s, k, rfl, _⟩ := hp
    rfl
  have := callM_io T 5 0 d [.int (n : Int)] s (.lst true (ns.map .int)) d' [none] (by rw [hs]; rfl) hno h3 rfl
  rw [hs] at this
  simp only [List.map_cons, List.map_nil, List.set_cons_zero] at this
  rw [ev_call, evG_io, hs]
  simp only [List.getElem?_cons_zero, sR_some]
  rw [evG_cons e [] s hne, he]
  simp only [b_ok, evG_nil, frz]
  exact this
end VK

namespace VK
open VI
open PySem (PyData)
theorem ix_ints (o : Bool) (ord : List Int) (i : Nat) (h : i < ord.length) : ixD (.lst o (ord.map .int)) (.int (i : Int)) = some (.int ord[i]) := by
  rw [ix_l, at_nat, List.getElem?_map, show ord[i]? = some ord[i] by simp [h]]
  rfl
abbrev sE (d : D) (plain comp : List (List Nat)) (ways way : Int) (ord : List Int) (f k n a9 a10 x11 x12 : Option D) : VS :=
  ⟨[some d, some (.lst false (plain.map dS)), some (.lst false (comp.map dS)), some (.int ways), some (.int way), some (.lst true (ord.map .int)), f, k, n, a9, a10, x11, x12], []⟩
section
variable {T : Tab} {d : D} {plain comp : List (List Nat)} {ways way : Int} {ord : List Int} {f n a9 a10 x11 x12 : Option D} {k : Nat}
theorem frzl (l : List (List Nat)) : frz (.lst false (l.map dS)) = .lst false (l.map dS) := by simp only [frz, frzs_S]
theorem frzt (l : List (List Nat)) : frz (.lst true (l.map dS)) = .lst false (l.map dS) := by simp only [frz, frzs_S]
theorem src_enum2 : srcM T .enum [.frv 2] (sE d plain comp ways way ord f (some (.int (k : Int))) n a9 a10 x11 x12) = some (.ok ((List.range (comp.map dS).length).zipWith (fun (i : Nat) d => D.tup [.int (i : Int), d]) (comp.map dS)) (sE d plain comp ways way ord f (some (.int (k : Int))) n a9 a10 x11 x12)) := by
  rw [src_app, evs_one (frv_same (d := .lst false (comp.map dS)) rfl (frzl comp)), b_ok]
  simp only [frzl]
  rfl
/-- the filter by a pure test of places -/
theorem e_pick (c : Ex) (t : Nat → Bool) (hc : ∀ (i : Nat) (x : D), i < comp.length → ev T c (sE d plain comp ways way ord f (some (.int (k : Int))) n a9 a10 (some x) (some (.int (i : Int)))) = some (.ok (.bl (t i)) (sE d plain comp ways way ord f (some (.int (k : Int))) n a9 a10 (some x) (some (.int (i : Int)))))) (hl : comp.length ≤ 100) :
    ∃ r : List (List Nat), r.Sublist comp ∧ ev T (.lc [12, 11] .enum [.frv 2] [c] (.frv 11)) (sE d plain comp ways way ord f (some (.int (k : Int))) n a9 a10 x11 x12) = some (.ok (.lst true (r.map dS)) (sE d plain comp ways way ord f (some (.int (k : Int))) n a9 a10 none none)) := by
  have hlim : lim = 1000000 := rfl
  obtain ⟨r, s', hr, e, y1, y2, rfl⟩ := filt_enum (T := T) (cs := [c]) (tg := 11) (tj := 12) (by decide) comp (by omega) (fun _ s => ∃ y1 y2, s = sE d plain comp ways way ord f (some (.int (k : Int))) n a9 a10 y1 y2) (sE d plain comp ways way ord f (some (.int (k : Int))) n a9 a10 none none) ⟨none, none, rfl⟩ (by
    rintro i s x hx ⟨y1, y2, rfl⟩
    have hi : i < comp.length := (List.getElem?_eq_some_iff.mp hx).1
    refine ⟨t i, sE d plain comp ways way ord f (some (.int (k : Int))) n a9 a10 (some (dS x)) (some (.int (i : Int))), ?_, rfl, _, _, rfl⟩
    show evc T [c] (sE d plain comp ways way ord f (some (.int (k : Int))) n a9 a10 (some (dS x)) (some (.int (i : Int)))) = _
    rw [evc_one, hc i (dS x) hi, b_ok, tR_bl, ret_app])
  refine ⟨r, hr, ?_⟩
  rw [ev_lc, src_enum2, b_ok, lcM_ok e]
  rfl
/-- the filter by draws -/
theorem e_draw (hT : TakeS (T.call 3)) (src ce : Ex) (l : List (List Nat)) (q : Int) (hq : 0 < q) (hq2 : q < 2 ^ 200) (hne : ∀ i, ce ≠ .io i) (B : Nat) (hp : PileOk d B) (hB : B < 2 ^ 98)
    (hs : ev T src (sE d plain comp ways way ord f (some (.int (k : Int))) n a9 a10 x11 x12) = some (.ok (.lst true (l.map dS)) (sE d plain comp ways way ord f (some (.int (k : Int))) n a9 a10 x11 x12)))
    (hc : ∀ (d : D) (x : Option D), ev T ce (sE d plain comp ways way ord f (some (.int (k : Int))) n a9 a10 x x12) = some (.ok (.int q) (sE d plain comp ways way ord f (some (.int (k : Int))) n a9 a10 x x12))) (hl : l.length ≤ 100) :
    ∃ (r : List (List Nat)) (d' : D), r.Sublist l ∧ PileOk d' (B + l.length) ∧ ev T (.lc [11] .val [src] [.pr .eq [.call 3 [.io 0, ce], .con (.int 0)]] (.frv 11)) (sE d plain comp ways way ord f (some (.int (k : Int))) n a9 a10 x11 x12) = some (.ok (.lst true (r.map dS)) (sE d' plain comp ways way ord f (some (.int (k : Int))) n a9 a10 none x12)) := by
  have hlim : lim = 1000000 := rfl
  obtain ⟨r, s', hr, e, d', y1, hp', rfl⟩ := filt_loop (T := T) (cs := [.pr .eq [.call 3 [.io 0, ce], .con (.int 0)]]) (tg := 11) l (by omega) (fun i s => ∃ d' y1, PileOk d' (B + i) ∧ s = sE d' plain comp ways way ord f (some (.int (k : Int))) n a9 a10 y1 x12) (sE d plain comp ways way ord f (some (.int (k : Int))) n a9 a10 none x12) ⟨d, none, hp, rfl⟩ (by
    rintro i s x hx ⟨d0, y1, hp0, rfl⟩
    have hi : i < l.length := (List.getElem?_eq_some_iff.mp hx).1
    obtain ⟨r, d1, h0, h1, hp1, e1⟩ := take_call hT (T := T) (e := ce) (s := sE d0 plain comp ways way ord f (some (.int (k : Int))) n a9 a10 (some (dS x)) x12) (n := q) rfl hp0 (by omega) hq hq2 hne (hc d0 _)
    refine ⟨decide (r = 0), sE d1 plain comp ways way ord f (some (.int (k : Int))) n a9 a10 (some (dS x)) x12, ?_, rfl, d1, _, hp1, rfl⟩
    show evc T [.pr .eq [.call 3 [.io 0, ce], .con (.int 0)]] (sE d0 plain comp ways way ord f (some (.int (k : Int))) n a9 a10 (some (dS x)) x12) = _
    rw [evc_one, ev_prg _ _ _ (by rfl), evA_cons (.call 3 [.io 0, ce]) _ _ (fun _ h => nomatch h), e1, b_ok, evA_cons (.con (.int 0)) [] _ (fun _ h => nomatch h), ev_con]
    simp only [okF, allF, if_true, b_ok, evA_nil, frz, AV.gets, AV.get, gR_some, Pr.fn, fn2, eqD_int, Option.map_some, tR_bl, ret_app])
  refine ⟨r, d', hr, hp', ?_⟩
  rw [ev_lc, src_app, evs_one hs, b_ok, frzt]
  rw [show srcD .val [.lst false (l.map dS)] = some (l.map dS) from rfl, oR_some, b_ok, lcM_ok e]
  rfl
end
end VK

namespace VK
open VI
open PySem (PyData)
abbrev eB1 : Sm := .asg [9] (.lc [12, 11] .enum [.frv 2] [.pr .lt [.pr .ix [.var 5, .var 12], .pr .ix [.var 5, .var 7]]] (.frv 11))
abbrev eB2 : Sm := .asg [10] (.lc [11] .val [.pr .add [.var 9, .var 1]] [.pr .eq [.call 3 [.io 0, .pr .add [.con (.int 2), .pr .mul [.con (.int 2), .pr .mod [.var 4, .con (.int 2)]]]], .con (.int 0)]] (.frv 11))
abbrev eB3 : Sm := .ite (.pr .eq [.var 4, .con (.int 2)]) [.asg [10] (.lc [12, 11] .enum [.frv 2] [.pr .eq [.pr .add [.pr .ix [.var 5, .var 12], .con (.int 1)], .pr .ix [.var 5, .var 7]]] (.frv 11))] []
abbrev eB4 : Sm := .ite (.pr .eq [.var 4, .con (.int 3)]) [.asg [10] (.pr .add [.var 9, .slc (.var 1) [] [.con (.int 1)]])] []
abbrev eB5 : Sm := .ite (.pr .gt [.var 4, .con (.int 3)]) [.asg [10] (.lc [11] .val [.pr .add [.var 2, .var 1]] [.pr .eq [.call 3 [.io 0, .pr .sub [.con (.int 6), .pr .fdiv [.var 4, .con (.int 5)]]], .con (.int 0)]] (.frv 11))] []
abbrev eB6 : Sm := .ite (.pr .eq [.call 3 [.io 0, .con (.int 2)], .con (.int 1)]) [.ex (.mt .rev (.var 10) [])] []
abbrev eB7 : Sm := .ex (.mt .app (.var 6) [.tup [.frv 8, .frv 10]])
section
variable {T : Tab} {d : D} {plain comp : List (List Nat)} {ways way : Int} {ord : List Int} {f n a9 a10 x11 x12 : Option D} {k : Nat}
theorem x_if_false {Pn : List Nat} {c : Ex} {a b : List Sm} {s s1 : VS} (h : ev T c s = some (.ok (.bl false) s1)) : VI.exec T Pn (.ite c a b) s = VI.execs T Pn b s1 := by
  rw [x_ite, h, b_ok, tR_bl]
  rfl
theorem x_if_true {Pn : List Nat} {c : Ex} {a b : List Sm} {s s1 : VS} (h : ev T c s = some (.ok (.bl true) s1)) : VI.exec T Pn (.ite c a b) s = VI.execs T Pn a s1 := by
  rw [x_ite, h, b_ok, tR_bl]
  rfl
theorem x_asg1 {Pn : List Nat} {i : Nat} {e : Ex} {s s1 : VS} {d : D} (h : ev T e s = some (.ok d s1)) (hf : free Pn [i] = true) : VI.exec T Pn (.asg [i] e) s = some (.ok .nx ⟨s1.ρ.set i (some d), s1.μ⟩) := by
  rw [x_asg, h, b_ok, bnd_asg1 _ _ _ _ hf, ret_app]
theorem e1_ok (hl : comp.length ≤ 100) (ho : ord.length = comp.length) (hk : k < comp.length) : ∃ r : List (List Nat), r.Sublist comp ∧
    VI.exec T [0] eB1 (sE d plain comp ways way ord f (some (.int (k : Int))) n a9 a10 x11 x12) = some (.ok .nx (sE d plain comp ways way ord f (some (.int (k : Int))) n (some (.lst true (r.map dS))) a10 none none)) := by
  obtain ⟨r, hr, e⟩ := e_pick (T := T) (d := d) (plain := plain) (comp := comp) (ways := ways) (way := way) (ord := ord) (f := f) (n := n) (a9 := a9) (a10 := a10) (x11 := x11) (x12 := x12) (k := k) (.pr .lt [.pr .ix [.var 5, .var 12], .pr .ix [.var 5, .var 7]]) (fun i => if h : i < ord.length then decide (ord[i] < ord[k]'(by omega)) else false) (fun i x hi => by
    have h1 := ix_ints true ord i (by omega)
    have h2 := ix_ints true ord k (by omega)
    rw [ev_prq _ _ _ (by decide)]
    simp only [evqs, evq, List.getElem?_cons_succ, List.getElem?_cons_zero, Option.bind_some, Pr.fn, fn2, h1, h2, cmpD_ii, qR_some, okF, allF, if_true]
    rw [dif_pos (by omega)]) hl
  exact ⟨r, hr, x_asg1 e (by decide)⟩
theorem addv {a b : Nat} {s : VS} {o o' : Bool} {l r : List (List Nat)} (ha : s.ρ[a]? = some (some (.lst o (l.map dS)))) (hb : s.ρ[b]? = some (some (.lst o' (r.map dS)))) (h : l.length + r.length ≤ 1000) : ev T (.pr .add [.var a, .var b]) s = some (.ok (.lst true ((l ++ r).map dS)) s) := by
  have hlim : lim = 1000000 := rfl
  rw [ev_prg _ _ _ (by rfl), evA_var, ha, sR_some, evA_var, hb, sR_some, evA_nil, b_ok, b_ok, b_ok]
  simp only [AV.gets, AV.get, ha, hb, gR_some, Pr.fn, fn2]
  rw [addD_l _ _ _ _ (allFs_S l) (allFs_S r) (by rw [List.length_map, List.length_map]; omega), Option.map_some, List.map_append]
theorem e2_ok (hT : TakeS (T.call 3)) (B : Nat) (hp : PileOk d B) (hB : B < 2 ^ 98) (r : List (List Nat)) (hr : r.length ≤ 50) (hpl : plain.length ≤ 50) (hw : 0 ≤ way ∧ way ≤ 5) : ∃ (r2 : List (List Nat)) (d' : D), r2.Sublist (r ++ plain) ∧ PileOk d' (B + 100) ∧
    VI.exec T [0] eB2 (sE d plain comp ways way ord f (some (.int (k : Int))) n (some (.lst true (r.map dS))) a10 x11 x12) = some (.ok .nx (sE d' plain comp ways way ord f (some (.int (k : Int))) n (some (.lst true (r.map dS))) (some (.lst true (r2.map dS))) none x12)) := by
  obtain ⟨r2, d', h1, h2, e⟩ := e_draw (T := T) (d := d) (plain := plain) (comp := comp) (ways := ways) (way := way) (ord := ord) (f := f) (n := n) (a9 := some (.lst true (r.map dS))) (a10 := a10) (x11 := x11) (x12 := x12) (k := k) hT (.pr .add [.var 9, .var 1]) (.pr .add [.con (.int 2), .pr .mul [.con (.int 2), .pr .mod [.var 4, .con (.int 2)]]]) (r ++ plain) (2 + 2 * (way % 2)) (by omega) (by omega) (fun _ h => nomatch h) B hp hB
    (addv rfl rfl (by omega)) (fun d x => by
      simp (disch := first | decide | with_unfolding_all rfl | (with_unfolding_all (intro _ h; cases h; done)) | omega) only [List.map_cons, List.map_nil, List.length_cons, List.length_nil, List.cons_append, List.nil_append, List.replicate_succ, List.replicate_zero, Nat.reduceAdd, Nat.reduceSub, if_true, xs_nil, xs_cons, seq_nx, seq_rt, x_asg, x_ex, x_ret, x_retN, x_pass, x_ite, x_set, b_app, b_ok, ret_app, ev_con, ev_var, ev_frv, ev_mov, ev_lst, ev_tup, ev_dic0, ev_not, ev_and, ev_or, ev_ife, ev_call, evs_nil, evs_cons, evA_nil, evA_var, evG_nil, evG_io, ev_mt, mR_some, tR_bl, qR_some, sR_some, gR_some, evq, evqs, okF, allF, allFs, frz, frzs, AV.gets, AV.get, Pr.fn, fn1, fn2, fn3, Option.bind_some, Option.map_some, List.getElem?_cons_zero, List.getElem?_cons_succ, List.set_cons_zero, List.set_cons_succ, ite_true, reduceIte, Mp.kind, ev_prq, ev_prg, evA_cons, evG_cons, bnd_asg1, Bool.and_self, Bool.false_eq_true, if_false, Int.reduceLT, Int.reduceLE, addD_ii, subD_ii, mulD_ii, modD_ii, fdivD_ii, int1D_i, runR_rt, runR_nx, runF_eq, bR_ex, ix_l, okA_i, kind_l, eqD_int]) (by rw [List.length_append]; omega)
  exact ⟨r2, d', h1, h2.le (by rw [List.length_append]; omega), x_asg1 e (by decide)⟩
end
end VK

namespace VK
open VI
open PySem (PyData)
section
variable {T : Tab} {d : D} {plain comp : List (List Nat)} {ways way : Int} {ord : List Int} {f n a9 a10 x11 x12 : Option D} {k : Nat}
theorem ev_eqc {i : Nat} {s : VS} {a b : Int} (h : s.ρ[i]? = some (some (.int a))) : ev T (.pr .eq [.var i, .con (.int b)]) s = some (.ok (.bl (decide (a = b))) s) := by
  rw [ev_prq _ _ _ (by rfl)]
  simp only [evqs, evq, h, Option.bind_some, Pr.fn, fn2, eqD_int, Option.map_some, qR_some, okF, allF, if_true]
theorem ev_gtc {i : Nat} {s : VS} {a b : Int} (h : s.ρ[i]? = some (some (.int a))) : ev T (.pr .gt [.var i, .con (.int b)]) s = some (.ok (.bl (decide (b < a))) s) := by
  rw [ev_prq _ _ _ (by rfl)]
  simp only [evqs, evq, h, Option.bind_some, Pr.fn, fn2, cmpD_ii, qR_some, okF, allF, if_true]
theorem e3_ok (hl : comp.length ≤ 100) (ho : ord.length = comp.length) (hk : k < comp.length) (r2 : List (List Nat)) (h2 : r2.Sublist (comp ++ plain)) : ∃ (r3 : List (List Nat)) (y11 y12 : Option D), r3.Sublist (comp ++ plain) ∧
    VI.exec T [0] eB3 (sE d plain comp ways way ord f (some (.int (k : Int))) n a9 (some (.lst true (r2.map dS))) x11 x12) = some (.ok .nx (sE d plain comp ways way ord f (some (.int (k : Int))) n a9 (some (.lst true (r3.map dS))) y11 y12)) := by
  have hc := ev_eqc (T := T) (i := 4) (b := 2) (s := sE d plain comp ways way ord f (some (.int (k : Int))) n a9 (some (.lst true (r2.map dS))) x11 x12) (a := way) rfl
  by_cases hw : way = 2
  · rw [decide_eq_true hw] at hc
    obtain ⟨r, hr, e⟩ := e_pick (T := T) (d := d) (plain := plain) (comp := comp) (ways := ways) (way := way) (ord := ord) (f := f) (n := n) (a9 := a9) (a10 := some (.lst true (r2.map dS))) (x11 := x11) (x12 := x12) (k := k) (.pr .eq [.pr .add [.pr .ix [.var 5, .var 12], .con (.int 1)], .pr .ix [.var 5, .var 7]]) (fun i => if h : i < ord.length then decide (ord[i] + 1 = ord[k]'(by omega)) else false) (fun i x hi => by
      have h1 := ix_ints true ord i (by omega)
      have h2 := ix_ints true ord k (by omega)
      rw [ev_prg _ _ _ (by rfl), evA_cons (.pr .add _) _ _ (fun _ h => nomatch h), ev_prg _ _ _ (by rfl), evA_cons (.pr .ix _) _ _ (fun _ h => nomatch h), ev_prq _ _ _ (by rfl)]
      simp only [evqs, evq, List.getElem?_cons_succ, List.getElem?_cons_zero, Option.bind_some, Pr.fn, fn2, h1, qR_some, okF, allF, if_true, b_ok]
      rw [evA_cons (.con (.int 1)) [] _ (fun _ h => nomatch h), ev_con]
      simp only [okF, allF, if_true, b_ok, evA_nil, frz, AV.gets, AV.get, gR_some, Pr.fn, fn2, addD_ii, Option.map_some]
      rw [evA_cons (.pr .ix _) [] _ (fun _ h => nomatch h), ev_prq _ _ _ (by rfl)]
      simp only [evqs, evq, List.getElem?_cons_succ, List.getElem?_cons_zero, Option.bind_some, Pr.fn, fn2, h2, qR_some, okF, allF, if_true, b_ok, evA_nil, frz, AV.gets, AV.get, gR_some, eqD_int, Option.map_some]
      rw [dif_pos (by omega)]) hl
    exact ⟨r, none, none, hr.trans (List.sublist_append_left _ _), by rw [x_if_true hc, xs_step (x_asg1 e (by decide)), xs_nil]; rfl⟩
  · rw [decide_eq_false hw] at hc
    exact ⟨r2, x11, x12, h2, by rw [x_if_false hc, xs_nil]⟩
theorem e4_ok (r r3 : List (List Nat)) (hr : r.Sublist comp) (h3 : r3.Sublist (comp ++ plain)) (hl : r.length + plain.length ≤ 1000) : ∃ (r4 : List (List Nat)), r4.Sublist (comp ++ plain) ∧
    VI.exec T [0] eB4 (sE d plain comp ways way ord f (some (.int (k : Int))) n (some (.lst true (r.map dS))) (some (.lst true (r3.map dS))) x11 x12) = some (.ok .nx (sE d plain comp ways way ord f (some (.int (k : Int))) n (some (.lst true (r.map dS))) (some (.lst true (r4.map dS))) x11 x12)) := by
  have hlim : lim = 1000000 := rfl
  have hc := ev_eqc (T := T) (i := 4) (b := 3) (s := sE d plain comp ways way ord f (some (.int (k : Int))) n (some (.lst true (r.map dS))) (some (.lst true (r3.map dS))) x11 x12) (a := way) rfl
  by_cases hw : way = 3
  · rw [decide_eq_true hw] at hc
    have e1 : ev T (.slc (.var 1) [] [.con (.int 1)]) (sE d plain comp ways way ord f (some (.int (k : Int))) n (some (.lst true (r.map dS))) (some (.lst true (r3.map dS))) x11 x12) = some (.ok (.lst true ((plain.take 1).map dS)) (sE d plain comp ways way ord f (some (.int (k : Int))) n (some (.lst true (r.map dS))) (some (.lst true (r3.map dS))) x11 x12)) := by
      rw [ev_slcv]
      simp only [List.getElem?_cons_succ, List.getElem?_cons_zero, sR_some, evP_nil, b_ok, evP_one, ev_con, okF, allF, if_true, iR_i, AV.get, slR_some]
      rw [show (1 : Int) = ((1 : Nat) : Int) from rfl, slD_lto _ _ 1 (allFs_S _), Option.map_some, ← List.map_take]
    have e : ev T (.pr .add [.var 9, .slc (.var 1) [] [.con (.int 1)]]) (sE d plain comp ways way ord f (some (.int (k : Int))) n (some (.lst true (r.map dS))) (some (.lst true (r3.map dS))) x11 x12) = some (.ok (.lst true ((r ++ plain.take 1).map dS)) (sE d plain comp ways way ord f (some (.int (k : Int))) n (some (.lst true (r.map dS))) (some (.lst true (r3.map dS))) x11 x12)) := by
      rw [ev_prg _ _ _ (by rfl), evA_var]
      simp only [List.getElem?_cons_succ, List.getElem?_cons_zero, sR_some]
      rw [evA_cons (.slc _ _ _) [] _ (fun _ h => nomatch h), e1, b_ok, evA_nil, b_ok, b_ok, b_ok, frzt]
      simp only [AV.gets, AV.get, List.getElem?_cons_succ, List.getElem?_cons_zero, gR_some, Pr.fn, fn2]
      rw [addD_l _ _ _ _ (allFs_S _) (allFs_S _) (by rw [List.length_map, List.length_map, List.length_take]; omega), Option.map_some, List.map_append]
    exact ⟨r ++ plain.take 1, hr.append (List.take_sublist _ _), by rw [x_if_true hc, xs_step (x_asg1 e (by decide)), xs_nil]; rfl⟩
  · rw [decide_eq_false hw] at hc
    exact ⟨r3, h3, by rw [x_if_false hc, xs_nil]⟩
theorem e5_ok (hT : TakeS (T.call 3)) (B : Nat) (hp : PileOk d B) (hB : B < 2 ^ 98) (r4 : List (List Nat)) (h4 : r4.Sublist (comp ++ plain)) (hl : comp.length + plain.length ≤ 100) (hw : 0 ≤ way ∧ way ≤ 5) : ∃ (r5 : List (List Nat)) (d' : D) (y11 : Option D), r5.Sublist (comp ++ plain) ∧ PileOk d' (B + 100) ∧
    VI.exec T [0] eB5 (sE d plain comp ways way ord f (some (.int (k : Int))) n a9 (some (.lst true (r4.map dS))) x11 x12) = some (.ok .nx (sE d' plain comp ways way ord f (some (.int (k : Int))) n a9 (some (.lst true (r5.map dS))) y11 x12)) := by
  have hc := ev_gtc (T := T) (i := 4) (b := 3) (s := sE d plain comp ways way ord f (some (.int (k : Int))) n a9 (some (.lst true (r4.map dS))) x11 x12) (a := way) rfl
  by_cases hw3 : 3 < way
  · rw [decide_eq_true hw3] at hc
    obtain ⟨r5, d', h1, h2, e⟩ := e_draw (T := T) (d := d) (plain := plain) (comp := comp) (ways := ways) (way := way) (ord := ord) (f := f) (n := n) (a9 := a9) (a10 := some (.lst true (r4.map dS))) (x11 := x11) (x12 := x12) (k := k) hT (.pr .add [.var 2, .var 1]) (.pr .sub [.con (.int 6), .pr .fdiv [.var 4, .con (.int 5)]]) (comp ++ plain) (6 - way / 5) (by omega) (by omega) (fun _ h => nomatch h) B hp hB
      (addv rfl rfl (by omega)) (fun d x => by
        simp (disch := first | decide | with_unfolding_all rfl | (with_unfolding_all (intro _ h; cases h; done)) | omega) only [List.map_cons, List.map_nil, List.length_cons, List.length_nil, List.cons_append, List.nil_append, List.replicate_succ, List.replicate_zero, Nat.reduceAdd, Nat.reduceSub, if_true, xs_nil, xs_cons, seq_nx, seq_rt, x_asg, x_ex, x_ret, x_retN, x_pass, x_ite, x_set, b_app, b_ok, ret_app, ev_con, ev_var, ev_frv, ev_mov, ev_lst, ev_tup, ev_dic0, ev_not, ev_and, ev_or, ev_ife, ev_call, evs_nil, evs_cons, evA_nil, evA_var, evG_nil, evG_io, ev_mt, mR_some, tR_bl, qR_some, sR_some, gR_some, evq, evqs, okF, allF, allFs, frz, frzs, AV.gets, AV.get, Pr.fn, fn1, fn2, fn3, Option.bind_some, Option.map_some, List.getElem?_cons_zero, List.getElem?_cons_succ, List.set_cons_zero, List.set_cons_succ, ite_true, reduceIte, Mp.kind, ev_prq, ev_prg, evA_cons, evG_cons, bnd_asg1, Bool.and_self, Bool.false_eq_true, if_false, Int.reduceLT, Int.reduceLE, addD_ii, subD_ii, mulD_ii, modD_ii, fdivD_ii, int1D_i, runR_rt, runR_nx, runF_eq, bR_ex, ix_l, okA_i, kind_l, eqD_int]) (by rw [List.length_append]; omega)
    exact ⟨r5, d', none, h1, h2.le (by rw [List.length_append]; omega), by rw [x_if_true hc, xs_step (x_asg1 e (by decide)), xs_nil]; rfl⟩
  · rw [decide_eq_false hw3] at hc
    exact ⟨r4, d, x11, h4, hp.le (by omega), by rw [x_if_false hc, xs_nil]⟩
theorem e6_ok (hT : TakeS (T.call 3)) (B : Nat) (hp : PileOk d B) (hB : B < 2 ^ 98) (r5 : List (List Nat)) : ∃ (r6 : List (List Nat)) (d' : D), r6.Perm r5 ∧ PileOk d' (B + 1) ∧
    VI.exec T [0] eB6 (sE d plain comp ways way ord f (some (.int (k : Int))) n a9 (some (.lst true (r5.map dS))) x11 x12) = some (.ok .nx (sE d' plain comp ways way ord f (some (.int (k : Int))) n a9 (some (.lst true (r6.map dS))) x11 x12)) := by
  obtain ⟨q, d1, h0, h1, hp1, e1⟩ := take_call hT (T := T) (e := .con (.int 2)) (s := sE d plain comp ways way ord f (some (.int (k : Int))) n a9 (some (.lst true (r5.map dS))) x11 x12) (n := 2) rfl hp (by omega) (by decide) (by decide) (fun _ h => nomatch h) rfl
  have hc : ev T (.pr .eq [.call 3 [.io 0, .con (.int 2)], .con (.int 1)]) (sE d plain comp ways way ord f (some (.int (k : Int))) n a9 (some (.lst true (r5.map dS))) x11 x12) = some (.ok (.bl (decide (q = 1))) (sE d1 plain comp ways way ord f (some (.int (k : Int))) n a9 (some (.lst true (r5.map dS))) x11 x12)) := by
    rw [ev_prg _ _ _ (by rfl), evA_cons (.call 3 _) _ _ (fun _ h => nomatch h), e1, b_ok, evA_cons (.con (.int 1)) [] _ (fun _ h => nomatch h), ev_con]
    simp only [okF, allF, if_true, b_ok, evA_nil, frz, AV.gets, AV.get, gR_some, Pr.fn, fn2, eqD_int, Option.map_some]
  by_cases hq : q = 1
  · rw [decide_eq_true hq] at hc
    refine ⟨r5.reverse, d1, List.reverse_perm r5, hp1, ?_⟩
    have e := ev_mt_ok (T := T) (m := .rev) (i := 10) (as := []) (s := sE d1 plain comp ways way ord f (some (.int (k : Int))) n a9 (some (.lst true (r5.map dS))) x11 x12) (s1 := sE d1 plain comp ways way ord f (some (.int (k : Int))) n a9 (some (.lst true (r5.map dS))) x11 x12) (o' := .lst true (r5.reverse.map dS)) (d := .non) rfl rfl (evs_nil _) rfl (by rw [List.map_reverse]; rfl)
    rw [x_if_true hc, xs_step (s1 := sE d1 plain comp ways way ord f (some (.int (k : Int))) n a9 (some (.lst true (r5.reverse.map dS))) x11 x12) (by rw [x_ex, e, b_ok, ret_app]; rfl), xs_nil]
  · rw [decide_eq_false hq] at hc
    exact ⟨r5, d1, List.Perm.refl _, hp1, by rw [x_if_false hc, xs_nil]⟩
theorem e7_ok (fl : List En) (hfl : fl.length ≤ 200) (nm : List Nat) (r6 : List (List Nat)) :
    VI.exec T [0] eB7 (sE d plain comp ways way ord (some (.lst true (fl.map dE))) (some (.int (k : Int))) (some (dS nm)) a9 (some (.lst true (r6.map dS))) x11 x12) = some (.ok .nx (sE d plain comp ways way ord (some (.lst true ((fl ++ [(nm, r6)]).map dE))) (some (.int (k : Int))) (some (dS nm)) a9 (some (.lst false (r6.map dS))) x11 x12)) := by
  have hlim : lim = 1000000 := rfl
  have et : ev T (.tup [.frv 8, .frv 10]) (sE d plain comp ways way ord (some (.lst true (fl.map dE))) (some (.int (k : Int))) (some (dS nm)) a9 (some (.lst true (r6.map dS))) x11 x12) = some (.ok (dE (nm, r6)) (sE d plain comp ways way ord (some (.lst true (fl.map dE))) (some (.int (k : Int))) (some (dS nm)) a9 (some (.lst false (r6.map dS))) x11 x12)) := by
    rw [ev_tup, evs_two (x := dS nm) (y := .lst false (r6.map dS)) (s1 := sE d plain comp ways way ord (some (.lst true (fl.map dE))) (some (.int (k : Int))) (some (dS nm)) a9 (some (.lst true (r6.map dS))) x11 x12) (s2 := sE d plain comp ways way ord (some (.lst true (fl.map dE))) (some (.int (k : Int))) (some (dS nm)) a9 (some (.lst false (r6.map dS))) x11 x12) (frv_same rfl rfl) (by rw [ev_frv]; simp only [List.getElem?_cons_succ, List.getElem?_cons_zero, sR_some, frzt, List.set_cons_succ, List.set_cons_zero]), b_ok, frzl]
    rfl
  have happ := app_ok (fl.map dE) (dE (nm, r6)) (by rw [List.length_map]; omega)
  rw [show fl.map dE ++ [dE (nm, r6)] = (fl ++ [(nm, r6)]).map dE by simp] at happ
  have e := ev_mt_ok (T := T) (m := .app) (i := 6) (as := [.tup [.frv 8, .frv 10]]) (s := sE d plain comp ways way ord (some (.lst true (fl.map dE))) (some (.int (k : Int))) (some (dS nm)) a9 (some (.lst true (r6.map dS))) x11 x12) (s1 := sE d plain comp ways way ord (some (.lst true (fl.map dE))) (some (.int (k : Int))) (some (dS nm)) a9 (some (.lst false (r6.map dS))) x11 x12) rfl rfl (evs_one et) rfl (by rw [frz_E]; exact happ)
  rw [x_ex, e, b_ok, ret_app]
  rfl
end
end VK

namespace VK
open VI
open PySem (PyData)
/-- entries over cells: each reads cells of the list, none twice -/
def EnOk (cells : List (List Nat)) (e : En) : Prop := e.2.Nodup ∧ ∀ x ∈ e.2, x ∈ cells
def EntriesS (m : List D → List RO → Option CR) : Prop := ∀ (d : D) (B : Nat) (plain comp : List (List Nat)) (ways : Int), PileOk d B → B < 2 ^ 96 → (comp ++ plain).Nodup → comp.length ≤ 20 → plain.length ≤ 20 → 0 < ways → ways ≤ 6 →
  ∃ (es : List En) (d' : D), es.map (·.1) = comp ∧ (∀ e ∈ es, EnOk (comp ++ plain) e) ∧ PileOk d' (B + 5000) ∧ m [d, .lst false (plain.map dS), .lst false (comp.map dS), .int ways] [] = some (.ok (.lst true (es.map dE)) [some d', none, none, none] [])
theorem e_body (T : Tab) (hT : TakeS (T.call 3)) (d : D) (B : Nat) (plain comp : List (List Nat)) (ways way : Int) (ord : List Int) (fl : List En) (k : Nat) (nm : List Nat) (a9 a10 x11 x12 : Option D) (hp : PileOk d B) (hB : B < 2 ^ 97) (nd : (comp ++ plain).Nodup) (hc : comp.length ≤ 20) (hpl : plain.length ≤ 20) (ho : ord.length = comp.length) (hk : k < comp.length) (hw : 0 ≤ way ∧ way ≤ 5) (hfl : fl.length ≤ 200) :
    ∃ (r : List (List Nat)) (d' : D) (b9 b10 y11 y12 : Option D), EnOk (comp ++ plain) (nm, r) ∧ PileOk d' (B + 201) ∧
      VI.execs T [0] [eB1, eB2, eB3, eB4, eB5, eB6, eB7] (sE d plain comp ways way ord (some (.lst true (fl.map dE))) (some (.int (k : Int))) (some (dS nm)) a9 a10 x11 x12) = some (.ok .nx (sE d' plain comp ways way ord (some (.lst true ((fl ++ [(nm, r)]).map dE))) (some (.int (k : Int))) (some (dS nm)) b9 b10 y11 y12)) := by
  obtain ⟨r, h1, e1⟩ := e1_ok (T := T) (d := d) (plain := plain) (comp := comp) (ways := ways) (way := way) (ord := ord) (f := some (.lst true (fl.map dE))) (n := some (dS nm)) (a9 := a9) (a10 := a10) (x11 := x11) (x12 := x12) (by omega) ho hk
  have hrl := h1.length_le
  obtain ⟨r2, d2, h2, hp2, e2⟩ := e2_ok (T := T) (d := d) (plain := plain) (comp := comp) (ways := ways) (way := way) (ord := ord) (f := some (.lst true (fl.map dE))) (n := some (dS nm)) (a10 := a10) (x11 := none) (x12 := none) (k := k) hT B hp (by omega) r (by omega) (by omega) hw
  obtain ⟨r3, y11, y12, h3, e3⟩ := e3_ok (T := T) (d := d2) (plain := plain) (comp := comp) (ways := ways) (way := way) (ord := ord) (f := some (.lst true (fl.map dE))) (n := some (dS nm)) (a9 := some (.lst true (r.map dS))) (x11 := none) (x12 := none) (by omega) ho hk r2 (h2.trans (h1.append (List.Sublist.refl _)))
  obtain ⟨r4, h4, e4⟩ := e4_ok (T := T) (d := d2) (plain := plain) (comp := comp) (ways := ways) (way := way) (ord := ord) (f := some (.lst true (fl.map dE))) (n := some (dS nm)) (x11 := y11) (x12 := y12) (k := k) r r3 h1 h3 (by omega)
  obtain ⟨r5, d5, z11, h5, hp5, e5⟩ := e5_ok (T := T) (d := d2) (plain := plain) (comp := comp) (ways := ways) (way := way) (ord := ord) (f := some (.lst true (fl.map dE))) (n := some (dS nm)) (a9 := some (.lst true (r.map dS))) (x11 := y11) (x12 := y12) (k := k) hT _ hp2 (by omega) r4 h4 (by omega) hw
  obtain ⟨r6, d6, h6, hp6, e6⟩ := e6_ok (T := T) (d := d5) (plain := plain) (comp := comp) (ways := ways) (way := way) (ord := ord) (f := some (.lst true (fl.map dE))) (n := some (dS nm)) (a9 := some (.lst true (r.map dS))) (x11 := z11) (x12 := y12) (k := k) hT _ hp5 (by omega) r5
  have e7 := e7_ok (T := T) (d := d6) (plain := plain) (comp := comp) (ways := ways) (way := way) (ord := ord) (a9 := some (.lst true (r.map dS))) (x11 := z11) (x12 := y12) (k := k) fl hfl nm r6
  refine ⟨r6, d6, some (.lst true (r.map dS)), some (.lst false (r6.map dS)), z11, y12, ⟨?_, ?_⟩, hp6.le (by omega), ?_⟩
  · exact h6.nodup_iff.mpr (h5.nodup nd)
  · exact fun x hx => h5.subset (h6.mem_iff.mp hx)
  · rw [xs_step e1, xs_step e2, xs_step e3, xs_step e4, xs_step e5, xs_step e6, xs_step e7, xs_nil]
theorem entries_ok (T : Tab) (hT : TakeS (T.call 3)) (hO : OrderS (T.call 5)) : EntriesS (runF T 4 13 [0] c_law_entries) := by
  intro d B plain comp ways hp hB nd hc hpl hw1 hw2
  obtain ⟨way, d1, h0, h1, hp1, e1⟩ := take_call hT (T := T) (e := .frv 3) (s := ⟨[some d, some (.lst false (plain.map dS)), some (.lst false (comp.map dS)), some (.int ways), none, none, none, none, none, none, none, none, none], []⟩) (n := ways) rfl hp (by omega) hw1 (by omega) (fun _ h => nomatch h) (frv_same rfl rfl)
  have el : ev T (.pr .len [.var 2]) ⟨[some d1, some (.lst false (plain.map dS)), some (.lst false (comp.map dS)), some (.int ways), some (.int way), none, none, none, none, none, none, none, none], []⟩ = some (.ok (.int (comp.length)) ⟨[some d1, some (.lst false (plain.map dS)), some (.lst false (comp.map dS)), some (.int ways), some (.int way), none, none, none, none, none, none, none, none], []⟩) := by
    rw [ev_prq _ _ _ (by decide)]
    simp only [evqs, evq, List.getElem?_cons_succ, List.getElem?_cons_zero, Option.bind_some, Pr.fn, fn1, lenD_l, List.length_map, Option.map_some, qR_some, okF, allF, if_true]
  obtain ⟨ord, d2, hperm, hp2, e2⟩ := order_call hO (T := T) (e := .pr .len [.var 2]) (s := ⟨[some d1, some (.lst false (plain.map dS)), some (.lst false (comp.map dS)), some (.int ways), some (.int way), none, none, none, none, none, none, none, none], []⟩) (n := comp.length) rfl hp1 (by omega) (by omega) (fun _ h => nomatch h) el
  have ho : ord.length = comp.length := by
    have := hperm.length_eq
    simpa using this
  obtain ⟨s', ef, es, d', kk, nn, b9, b10, y11, y12, hes, hall, hp', rfl⟩ := forM_inv (Pn := [0]) (tg := [7, 8]) (b := VI.execs T [0] [eB1, eB2, eB3, eB4, eB5, eB6, eB7]) ((List.range (comp.map dS).length).zipWith (fun (i : Nat) d => D.tup [.int (i : Int), d]) (comp.map dS))
    (fun i s => ∃ (es : List En) (d' : D) (kk nn b9 b10 y11 y12 : Option D), es.map (·.1) = comp.take i ∧ (∀ e ∈ es, EnOk (comp ++ plain) e) ∧ PileOk d' (B + 1 + comp.length + 201 * i) ∧ s = sE d' plain comp ways way ord (some (.lst true (es.map dE))) kk nn b9 b10 y11 y12)
    (sE d2 plain comp ways way ord (some (.lst true [])) none none none none none none) ⟨[], d2, none, none, none, none, none, none, rfl, (fun _ h => nomatch h), hp2, rfl⟩ (by
      rintro i s dd hd ⟨es, d', kk, nn, b9, b10, y11, y12, hes, hall, hp', rfl⟩
      rw [List.getElem?_zipWith] at hd
      simp only [List.length_map] at hd
      by_cases hi : i < comp.length
      · have hx : comp[i]? = some comp[i] := by simp [hi]
        rw [List.getElem?_map, hx, List.getElem?_range hi] at hd
        cases hd
        have hel : es.length ≤ 200 := by
          have := congrArg List.length hes
          rw [List.length_map, List.length_take] at this
          omega
        obtain ⟨r, d3, c9, c10, z11, z12, hr, hp3, e⟩ := e_body T hT d' _ plain comp ways way ord es i comp[i] b9 b10 y11 y12 hp' (by omega) nd hc hpl ho hi (by omega) hel
        refine ⟨by decide, _, rfl, .nx, _, e, .inl rfl, es ++ [(comp[i], r)], d3, _, _, _, _, _, _, ?_, ?_, hp3.le (by omega), rfl⟩
        · rw [List.map_append, hes, take_snoc hx]
          rfl
        · intro e0 h0
          rcases List.mem_append.mp h0 with h0 | h0
          · exact hall e0 h0
          · rw [List.mem_singleton.mp h0]
            exact hr
      · rw [List.getElem?_eq_none (l := List.range comp.length) (by simpa using hi)] at hd
        cases hd)
  simp only [List.length_zipWith, List.length_map, List.length_range, Nat.min_self] at hes hp'
  rw [List.take_length] at hes
  refine ⟨es, d', hes, hall, hp'.le (by omega), ?_⟩
  unfold c_law_entries
  rw [runF_eq 4 13 _ [d, .lst false (plain.map dS), .lst false (comp.map dS), .int ways] [] rfl]
  show runR 4 [0] (VI.execs T [0] _ ⟨[some d, some (.lst false (plain.map dS)), some (.lst false (comp.map dS)), some (.int ways), none, none, none, none, none, none, none, none, none], []⟩) = _
  rw [xs_step (x_asg1 e1 (by decide)), xs_step (s1 := ⟨[some d2, some (.lst false (plain.map dS)), some (.lst false (comp.map dS)), some (.int ways), some (.int way), some (.lst true (ord.map .int)), none, none, none, none, none, none, none], []⟩) (x_asg1 e2 (by decide))]
  rw [xs_step (s1 := sE d2 plain comp ways way ord (some (.lst true [])) none none none none none none) rfl]
  rw [xs_step (s1 := sE d' plain comp ways way ord (some (.lst true (es.map dE))) kk nn b9 b10 y11 y12) (by
    rw [x_for, src_app, evs_one (frv_same (d := .lst false (comp.map dS)) rfl (frzl comp)), b_ok, frzl]
    rw [show srcD .enum [.lst false (comp.map dS)] = some _ from rfl, oR_some, b_ok, ef])]
  rfl
end VK

namespace VK
open VI
open PySem (PyData)
def ShapeS (m : List D → List RO → Option CR) : Prop := ∀ (d : D) (B : Nat) (most ways : Int), PileOk d B → B < 2 ^ 95 → 1 ≤ most → most ≤ 10 → 0 < ways → ways ≤ 6 →
  ∃ (plain : List (List Nat)) (es : List En) (d' : D), (plain ++ es.map (·.1)).Nodup ∧ (∀ l ∈ plain ++ es.map (·.1), good l) ∧ es ≠ [] ∧ plain.length ≤ 2 ∧ plain.length + es.length ≤ 12 ∧ (∀ e ∈ es, EnOk (es.map (·.1) ++ plain) e) ∧ PileOk d' (B + 6000) ∧
    m [d, .int most, .int ways] [] = some (.ok (.tup [.lst false (plain.map dS), .lst false (es.map dE)]) [some d', none, none] [])
/-- a call whose first argument is the slot 0 -/
theorem call_io0 {T : Tab} {f : Nat} {as : List Ex} {s s1 : VS} {ds : List D} {d0 d' r : D} {ρ : List (Option D)} {ps : List (Option D)} (h0 : ∃ x, s.ρ[0]? = some (some x)) (ha : evG T as s = some (.ok (ds.map .val) s1)) (h1 : s1.ρ = some d0 :: ρ) (hno : noRefs (d0 :: ds) = true)
    (hc : T.call f (d0 :: ds) [] = some (.ok r (some d' :: ps) [])) (hl : ps.length = ds.length) : ev T (.call f (.io 0 :: as)) s = some (.ok r ⟨some d' :: ρ, s1.μ⟩) := by
  obtain ⟨x, hx⟩ := h0
  have := callM_io T f 0 d0 ds s1 r d' ps (by rw [h1]; rfl) hno hc hl
  rw [h1, List.set_cons_zero] at this
  rw [ev_call, evG_io, hx, sR_some, ha, b_ok, b_ok]
  exact this
theorem evG_one {T : Tab} {e : Ex} {as : List Ex} {s s1 s2 : VS} {d : D} {ds : List D} (hne : ∀ i, e ≠ .io i) (h : ev T e s = some (.ok d s1)) (h2 : evG T as s1 = some (.ok (ds.map .val) s2)) : evG T (e :: as) s = some (.ok ((frz d :: ds).map .val) s2) := by
  rw [evG_cons e as s hne, h, b_ok, h2, b_ok]
  rfl
theorem noRefs_S : ∀ ls : List (List Nat), noRefs (ls.map dS) = true
  | [] => rfl
  | l :: ls => by
    show (noRef (dS l) && noRefs (ls.map dS)) = true
    rw [noRefs_S ls]
    rfl
theorem noRef_pile {d : D} {B : Nat} (h : PileOk d B) : noRef d = true := by
  obtain ⟨g, s, k, rfl, _⟩ := h
  rfl
theorem slv {T : Tab} {i j : Nat} {s : VS} {o : Bool} {l : List (List Nat)} {k : Nat} (h : s.ρ[i]? = some (some (.lst o (l.map dS)))) (hj : s.ρ[j]? = some (some (.int (k : Int)))) : ev T (.slc (.var i) [] [.frv j]) s = some (.ok (.lst true ((l.take k).map dS)) s) := by
  rw [ev_slcv, h, sR_some, evP_nil, b_ok, evP_one, frv_same hj rfl, b_ok, iR_i, b_ok]
  simp only [AV.get, h, slR_some]
  rw [slD_lto _ _ k (allFs_S _), Option.map_some, ← List.map_take]
theorem slv2 {T : Tab} {i j : Nat} {s : VS} {o : Bool} {l : List (List Nat)} {k : Nat} (h : s.ρ[i]? = some (some (.lst o (l.map dS)))) (hj : s.ρ[j]? = some (some (.int (k : Int)))) : ev T (.slc (.var i) [.frv j] []) s = some (.ok (.lst true ((l.drop k).map dS)) s) := by
  rw [ev_slcv, h, sR_some, evP_one, frv_same hj rfl, b_ok, iR_i, b_ok, evP_nil, b_ok]
  simp only [AV.get, h, slR_some]
  rw [slD_lfrom _ _ k (allFs_S _), Option.map_some, ← List.map_drop]
theorem shape_ok (T : Tab) (hT : TakeS (T.call 3)) (hN : NamesS (T.call 4)) (hE : EntriesS (T.call 6)) : ShapeS (runF T 3 5 [0] c_law_shape) := by
  intro d B most ways hp hB hm1 hm2 hw1 hw2
  have hlim : lim = 1000000 := rfl
  obtain ⟨mn, d1, h0, h1, hp1, e1⟩ := take_call hT (T := T) (e := .con (.int 3)) (s := ⟨[some d, some (.int most), some (.int ways), none, none], []⟩) (n := 3) rfl hp (by omega) (by decide) (by decide) (fun _ h => nomatch h) rfl
  obtain ⟨mn, rfl⟩ := Int.eq_ofNat_of_zero_le h0
  obtain ⟨q, d2, g0, g1, hp2, e2⟩ := take_call hT (T := T) (e := .frv 1) (s := ⟨[some d1, some (.int most), some (.int ways), some (.int (mn : Int)), none], []⟩) (n := most) rfl hp1 (by omega) (by omega) (by omega) (fun _ h => nomatch h) (frv_same rfl rfl)
  obtain ⟨q, rfl⟩ := Int.eq_ofNat_of_zero_le g0
  -- the number of names
  have e3 : ev T (.pr .add [.pr .add [.var 3, .con (.int 1)], .call 3 [.io 0, .frv 1]]) ⟨[some d1, some (.int most), some (.int ways), some (.int (mn : Int)), none], []⟩ = some (.ok (.int ((mn + 1 + q : Nat) : Int)) ⟨[some d2, some (.int most), some (.int ways), some (.int (mn : Int)), none], []⟩) := by
    have ea : ev T (.pr .add [.var 3, .con (.int 1)]) ⟨[some d1, some (.int most), some (.int ways), some (.int (mn : Int)), none], []⟩ = some (.ok (.int ((mn : Int) + 1)) ⟨[some d1, some (.int most), some (.int ways), some (.int (mn : Int)), none], []⟩) := by
      simp (disch := first | decide | with_unfolding_all rfl | (with_unfolding_all (intro _ h; cases h; done)) | omega) only [List.map_cons, List.map_nil, List.length_cons, List.length_nil, List.cons_append, List.nil_append, List.replicate_succ, List.replicate_zero, Nat.reduceAdd, Nat.reduceSub, if_true, xs_nil, xs_cons, seq_nx, seq_rt, x_asg, x_ex, x_ret, x_retN, x_pass, x_ite, x_set, b_app, b_ok, ret_app, ev_con, ev_var, ev_frv, ev_mov, ev_lst, ev_tup, ev_dic0, ev_not, ev_and, ev_or, ev_ife, ev_call, evs_nil, evs_cons, evA_nil, evA_var, evG_nil, evG_io, ev_mt, mR_some, tR_bl, qR_some, sR_some, gR_some, evq, evqs, okF, allF, allFs, frz, frzs, AV.gets, AV.get, Pr.fn, fn1, fn2, fn3, Option.bind_some, Option.map_some, List.getElem?_cons_zero, List.getElem?_cons_succ, List.set_cons_zero, List.set_cons_succ, ite_true, reduceIte, Mp.kind, ev_prq, ev_prg, evA_cons, evG_cons, bnd_asg1, Bool.and_self, Bool.false_eq_true, if_false, Int.reduceLT, Int.reduceLE, addD_ii, subD_ii, mulD_ii, modD_ii, fdivD_ii, int1D_i, runR_rt, runR_nx, runF_eq, bR_ex, ix_l, okA_i, kind_l, eqD_int]
    rw [ev_prg _ _ _ (by rfl), evA_cons (.pr .add _) _ _ (fun _ h => nomatch h), ea, b_ok, evA_cons (.call 3 _) [] _ (fun _ h => nomatch h), e2, b_ok, evA_nil, b_ok, b_ok, b_ok]
    simp only [AV.gets, AV.get, gR_some, Pr.fn, fn2, frz, addD_ii, Option.map_some]
    congr 3
  obtain ⟨ls, d3, hl, hnd, hgood, hp3, e4⟩ := hN d2 _ (mn + 1 + q) hp2 (by omega) (by omega) (by omega)
  have e5 : ev T (.call 4 [.io 0, .pr .add [.pr .add [.var 3, .con (.int 1)], .call 3 [.io 0, .frv 1]]]) ⟨[some d1, some (.int most), some (.int ways), some (.int (mn : Int)), none], []⟩ = some (.ok (.lst true (ls.map dS)) ⟨[some d3, some (.int most), some (.int ways), some (.int (mn : Int)), none], []⟩) :=
    call_io0 (T := T) (f := 4) (ds := [.int ((mn + 1 + q : Nat) : Int)]) (d0 := d2) (ps := [none]) ⟨_, rfl⟩ (evG_one (ds := []) (e := .pr .add [.pr .add [.var 3, .con (.int 1)], .call 3 [.io 0, .frv 1]]) (fun _ h => nomatch h) e3 (evG_nil _)) rfl (by
      show (noRef d2 && noRefs [.int _]) = true
      rw [noRef_pile hp2]
      rfl) e4 rfl
  -- the entries
  have hsub : (ls.drop mn ++ ls.take mn).Perm ls := (List.perm_append_comm).trans (by rw [List.take_append_drop])
  obtain ⟨es, d4, hes, hall, hp4, e6⟩ := hE d3 _ (ls.take mn) (ls.drop mn) ways hp3 (by omega) (hsub.nodup_iff.mpr hnd) (by rw [List.length_drop]; omega) (by rw [List.length_take]; omega) hw1 hw2
  have e7 : ev T (.call 6 [.io 0, .slc (.var 4) [] [.frv 3], .slc (.var 4) [.frv 3] [], .frv 2]) ⟨[some d3, some (.int most), some (.int ways), some (.int (mn : Int)), some (.lst true (ls.map dS))], []⟩ = some (.ok (.lst true (es.map dE)) ⟨[some d4, some (.int most), some (.int ways), some (.int (mn : Int)), some (.lst true (ls.map dS))], []⟩) := by
    have hg := evG_one (T := T) (e := .slc (.var 4) [] [.frv 3]) (as := [.slc (.var 4) [.frv 3] [], .frv 2]) (s := ⟨[some d3, some (.int most), some (.int ways), some (.int (mn : Int)), some (.lst true (ls.map dS))], []⟩) (fun _ h => nomatch h) (slv rfl rfl) (evG_one (fun _ h => nomatch h) (slv2 rfl rfl) (evG_one (ds := []) (fun _ h => nomatch h) (frv_same (d := .int ways) rfl rfl) (evG_nil _)))
    rw [frzt, frzt] at hg
    exact call_io0 (T := T) (f := 6) (d0 := d3) (ps := [none, none, none]) ⟨_, rfl⟩ hg rfl (by
      show (noRef d3 && (noRef (.lst false ((ls.take mn).map dS)) && (noRef (.lst false ((ls.drop mn).map dS)) && true))) = true
      rw [noRef_pile hp3]
      show (true && (noRefs ((ls.take mn).map dS) && (noRefs ((ls.drop mn).map dS) && true))) = true
      rw [noRefs_S, noRefs_S]
      rfl) e6 rfl
  have hcat : ls.take mn ++ es.map (·.1) = ls := by rw [hes, List.take_append_drop]
  refine ⟨ls.take mn, es, d4, by rw [hcat]; exact hnd, by rw [hcat]; exact hgood, fun h => ?_, by rw [List.length_take]; omega, ?_, ?_, hp4.le (by omega), ?_⟩
  · rw [h] at hes
    have := congrArg List.length hes
    rw [List.map_nil, List.length_nil, List.length_drop] at this
    omega
  · have := congrArg List.length hcat
    rw [List.length_append, List.length_map] at this
    omega
  · rw [hes]
    exact hall
  · unfold c_law_shape
    rw [runF_eq 3 5 _ [d, .int most, .int ways] [] rfl]
    show runR 3 [0] (VI.execs T [0] _ ⟨[some d, some (.int most), some (.int ways), none, none], []⟩) = _
    rw [xs_step (x_asg1 e1 (by decide)), xs_step (s1 := ⟨[some d3, some (.int most), some (.int ways), some (.int (mn : Int)), some (.lst true (ls.map dS))], []⟩) (x_asg1 e5 (by decide))]
    rw [xs_cons, x_ret, ev_tup, evs_two (slv (l := ls) (k := mn) rfl rfl) e7, b_ok, frzt]
    rw [show frz (.lst true (es.map dE)) = .lst false (es.map dE) by simp only [frz, frzs_E]]
    rfl
end VK

namespace VK
open VI
open PySem (PyData)
section
variable {T : Tab} {Pn : List Nat} {cs : List Ex} {tg : Nat}
/-- a for that may return: R at the place where it does -/
theorem forM_ret {b : M Fl} {tg : List Nat} : ∀ (items : List D) (I : Nat → VS → Prop) (R : Nat → D → VS → Prop) (s : VS), I 0 s →
    (∀ (i : Nat) (s : VS) (d : D), items[i]? = some d → I i s → free Pn tg = true ∧ ∃ ρ, bindT tg d s.ρ = some ρ ∧
      ((∃ r s', b ⟨ρ, s.μ⟩ = some (.ok (.rt r) s') ∧ R i r s') ∨ ∃ fl s', b ⟨ρ, s.μ⟩ = some (.ok fl s') ∧ (fl = .nx ∨ fl = .ct) ∧ I (i + 1) s')) →
    (∃ i r s', i < items.length ∧ forM Pn tg b items s = some (.ok (.rt r) s') ∧ R i r s') ∨ ∃ s', forM Pn tg b items s = some (.ok .nx s') ∧ I items.length s'
  | [], I, R, s, h, _ => .inr ⟨s, rfl, h⟩
  | d :: items, I, R, s, h, st => by
    obtain ⟨hf, ρ, hb, hcase⟩ := st 0 s d rfl h
    have key : forM Pn tg b (d :: items) s = bR (b ⟨ρ, s.μ⟩) (loopF (forM Pn tg b items)) := by
      show bndT Pn tg d (b.bnd (loopF (forM Pn tg b items))) s = _
      unfold bndT
      rw [if_pos hf, hb]
      rfl
    rcases hcase with ⟨r, s1, e, hr⟩ | ⟨fl, s1, e, hfl, z⟩
    · exact .inl ⟨0, r, s1, Nat.zero_lt_succ _, by rw [key, e, b_ok]; rfl, hr⟩
    · have k2 : forM Pn tg b (d :: items) s = forM Pn tg b items s1 := by
        rw [key, e, b_ok]
        rcases hfl with rfl | rfl <;> rfl
      rcases forM_ret items (fun i => I (i + 1)) (fun i => R (i + 1)) s1 z (fun i s d hd => st (i + 1) s d (by simpa using hd)) with ⟨i, r, s', hi, e', hr⟩ | ⟨s', e', hI⟩
      · exact .inl ⟨i + 1, r, s', Nat.succ_lt_succ hi, by rw [k2]; exact e', hr⟩
      · exact .inr ⟨s', by rw [k2]; exact e', hI⟩
/-- [x for x in l if t x], exactly -/
theorem filt_exact (t : List Nat → Bool) (l : List (List Nat)) (hl : l.length < lim) (I : VS → Prop) (s : VS) (h0 : I s)
    (st : ∀ (s : VS) (x : List Nat), x ∈ l → I s → ∃ s', evc T cs ⟨s.ρ.set tg (some (dS x)), s.μ⟩ = some (.ok (t x) s') ∧ s'.ρ[tg]? = some (some (dS x)) ∧ I s') :
    ∃ s', loopC (lcBody [tg] (evc T cs) (ev T (.frv tg))) (l.map dS) [] s = some (.ok ((l.filter t).map dS) s') ∧ I s' := by
  obtain ⟨ds, s', e, hI, rfl⟩ := loopC_inv (f := lcBody [tg] (evc T cs) (ev T (.frv tg))) (l.map dS) (fun i acc s => I s ∧ acc = ((l.take i).filter t).map dS) [] s ⟨h0, rfl⟩ (by
    rintro i acc s d hd ⟨hI, rfl⟩
    rw [List.getElem?_map] at hd
    cases hx : l[i]? with
    | none => rw [hx] at hd; cases hd
    | some x =>
      rw [hx] at hd
      cases hd
      obtain ⟨s1, e1, e2, e3⟩ := st s x (List.mem_of_getElem? hx) hI
      have htk : l.take (i + 1) = l.take i ++ [x] := take_snoc hx
      have e4 : lcBody [tg] (evc T cs) (ev T (.frv tg)) (dS x) s = if t x = true then some (.ok (some (dS x)) s1) else some (.ok none s1) := by
        rw [lcBody_1, e1, b_ok]
        cases t x with
        | true =>
          simp only [if_true]
          rw [frv_same e2 rfl, b_ok]
          rfl
        | false => rfl
      cases ht : t x with
      | true =>
        rw [ht, if_pos rfl] at e4
        refine ⟨some (dS x), s1, e4, ?_, e3, ?_⟩
        · have h1 := List.length_filter_le t (l.take i)
          rw [List.length_take] at h1
          rw [List.length_map]
          omega
        · rw [htk, List.filter_append, List.map_append, List.filter_cons, if_pos ht]
          rfl
      | false =>
        rw [ht, if_neg (by decide)] at e4
        refine ⟨none, s1, e4, e3, ?_⟩
        rw [htk, List.filter_append, List.map_append, List.filter_cons, if_neg (by rw [ht]; decide)]
        simp)
  rw [List.length_map, List.take_length] at e
  exact ⟨s', e, hI⟩
end
/-- a dict of what each cell reads -/
structure RdOk (dd : D) (cells : List (List Nat)) (rd : List Nat → List (List Nat)) : Prop where
  at_ : ∃ K V, dd = .dic false K V ∧ ∀ c ∈ cells, look K V (ky c) = some (.lst false ((rd c).map dS))
  low : ∀ c ∈ cells, low c
  sub : ∀ c ∈ cells, ∀ x ∈ rd c, x ∈ cells
  fr : allF dd = true
  nr : noRef dd = true
end VK

namespace VK
open VI
open PySem (PyData)
theorem okA_l (l : List (List Nat)) : okA (.lst false (l.map dS)) = some (.lst false (l.map dS)) := by
  show (if (!false && allFs (l.map dS)) then _ else _) = _
  rw [allFs_S]
  rfl
theorem RdOk.ixd {dd : D} {cells : List (List Nat)} {rd : List Nat → List (List Nat)} (h : RdOk dd cells rd) {c : List Nat} (hc : c ∈ cells) : ixdD dd (dS c) = some (.lst false ((rd c).map dS)) := by
  obtain ⟨K, V, rfl, hk⟩ := h.at_
  show ((keyOf (dS c)).bind fun k => (look K V k).bind okA) = _
  rw [show keyOf (dS c) = some (ky c) from rfl, Option.bind_some, hk c hc, Option.bind_some, okA_l]
theorem RdOk.lows {dd : D} {cells : List (List Nat)} {rd : List Nat → List (List Nat)} (h : RdOk dd cells rd) {c : List Nat} (hc : c ∈ cells) : ∀ x ∈ rd c, VK.low x := fun x hx => h.low x (h.sub c hc x hx)
def fits (rd : List Nat → List (List Nat)) (c : List Nat) (bt : List (List Nat)) : Bool :=
  decide (c ∈ rd c) || (!decide ((bt.filter fun o => decide (o ∈ rd c)) = []) && !decide ((bt.filter fun o => decide (c ∈ rd o)) = []))
def PairS (m : List D → List RO → Option CR) : Prop := ∀ (dd : D) (cells : List (List Nat)) (rd : List Nat → List (List Nat)) (c : List Nat) (bt : List (List Nat)), RdOk dd cells rd → c ∈ cells → (∀ o ∈ bt, o ∈ cells) → bt.length ≤ 1000 →
  m [dd, dS c, .lst false (bt.map dS)] [] = some (.ok (.bl (fits rd c bt)) [none, none, none] [])
abbrev sP (dd : D) (c : List Nat) (bt : List (List Nat)) (a3 a4 a5 : Option D) : VS := ⟨[some dd, some (dS c), some (.lst false (bt.map dS)), a3, a4, a5], []⟩
theorem ne_nil {T : Tab} {i : Nat} {s : VS} {o : Bool} {l : List (List Nat)} (h : s.ρ[i]? = some (some (.lst o (l.map dS)))) (hl : ∀ x ∈ l, low x) : ev T (.pr .ne [.var i, .lst []]) s = some (.ok (.bl (!decide (l = []))) s) := by
  have e := eqD_strs o false l [] hl (fun _ h => nomatch h)
  rw [List.map_nil] at e
  rw [ev_prg _ _ _ (by rfl), evA_var, h, sR_some, evA_cons (.lst []) [] _ (fun _ h => nomatch h)]
  rw [show ev T (.lst []) s = some (.ok (.lst true []) s) by rw [ev_lst, evs_nil, b_ok]; rfl, b_ok, evA_nil, b_ok, b_ok, b_ok]
  simp only [AV.gets, AV.get, h, gR_some, Pr.fn, fn2, frz, frzs, e, Option.map_some]
theorem pick5 {T : Tab} {dd : D} {c : List Nat} {bt : List (List Nat)} {a3 a4 a5 : Option D} (ce : Ex) (t : List Nat → Bool) (hl : bt.length ≤ 1000) (h : ∀ x ∈ bt, ev T ce (sP dd c bt a3 a4 (some (dS x))) = some (.ok (.bl (t x)) (sP dd c bt a3 a4 (some (dS x))))) :
    ev T (.lc [5] .val [.frv 2] [ce] (.frv 5)) (sP dd c bt a3 a4 a5) = some (.ok (.lst true ((bt.filter t).map dS)) (sP dd c bt a3 a4 none)) := by
  have hlim : lim = 1000000 := rfl
  obtain ⟨s', e, y, rfl⟩ := filt_exact (T := T) (cs := [ce]) (tg := 5) t bt (by omega) (fun s => ∃ y, s = sP dd c bt a3 a4 y) (sP dd c bt a3 a4 none) ⟨none, rfl⟩ (by
    rintro s x hx ⟨y, rfl⟩
    refine ⟨sP dd c bt a3 a4 (some (dS x)), ?_, rfl, _, rfl⟩
    show evc T [ce] (sP dd c bt a3 a4 (some (dS x))) = _
    rw [evc_one, h x hx, b_ok, tR_bl, ret_app])
  rw [ev_lc, src_app, evs_one (frv_same (d := .lst false (bt.map dS)) rfl (frzl bt)), b_ok, frzl]
  rw [show srcD .val [.lst false (bt.map dS)] = some (bt.map dS) from rfl, oR_some, b_ok, lcM_ok e]
  rfl
theorem pair_ok (T : Tab) : PairS (runF T 3 6 [] c_law_pair_fits) := by
  intro dd cells rd c bt hr hc hb hl
  have hx := hr.ixd hc
  have hself := memO_strs false c (rd c) (hr.low c hc) (hr.lows hc)
  have e0 : ev T (.pr .mem [.var 1, .pr .ixd [.var 0, .var 1]]) (sP dd c bt none none none) = some (.ok (.bl (decide (c ∈ rd c))) (sP dd c bt none none none)) := by
    rw [ev_prq _ _ _ (by rfl)]
    simp only [evqs, evq, List.getElem?_cons_succ, List.getElem?_cons_zero, Option.bind_some, Pr.fn, fn2, hx, hself, Option.map_some, qR_some, okF, allF, if_true]
  unfold c_law_pair_fits
  rw [runF_eq 3 6 _ [dd, dS c, .lst false (bt.map dS)] [] rfl]
  show runR 3 [] (VI.execs T [] _ (sP dd c bt none none none)) = _
  by_cases h0 : c ∈ rd c
  · rw [decide_eq_true h0] at e0
    rw [xs_cons, x_if_true e0, xs_cons, x_ret, ev_con]
    simp only [okF, allF, if_true, b_ok, ret_app, seq_rt, fits, decide_eq_true h0, Bool.true_or]
    rfl
  · rw [decide_eq_false h0] at e0
    have m1 := pick5 (T := T) (dd := dd) (c := c) (bt := bt) (a3 := none) (a4 := none) (a5 := none) (.pr .mem [.var 5, .pr .ixd [.var 0, .var 1]]) (fun o => decide (o ∈ rd c)) hl (fun x hx2 => by
      have hm := memO_strs false x (rd c) (hr.low x (hb x hx2)) (hr.lows hc)
      rw [ev_prq _ _ _ (by rfl)]
      simp only [evqs, evq, List.getElem?_cons_succ, List.getElem?_cons_zero, Option.bind_some, Pr.fn, fn2, hx, hm, Option.map_some, qR_some, okF, allF, if_true])
    have m2 := pick5 (T := T) (dd := dd) (c := c) (bt := bt) (a3 := some (.lst true ((bt.filter fun o => decide (o ∈ rd c)).map dS))) (a4 := none) (a5 := none) (.pr .mem [.var 1, .pr .ixd [.var 0, .var 5]]) (fun o => decide (c ∈ rd o)) hl (fun x hx2 => by
      have hm := memO_strs false c (rd x) (hr.low c hc) (hr.lows (hb x hx2))
      have hx3 := hr.ixd (hb x hx2)
      rw [ev_prq _ _ _ (by rfl)]
      simp only [evqs, evq, List.getElem?_cons_succ, List.getElem?_cons_zero, Option.bind_some, Pr.fn, fn2, hx3, hm, Option.map_some, qR_some, okF, allF, if_true])
    have lw : ∀ t : List Nat → Bool, ∀ x ∈ bt.filter t, low x := fun t x hx => hr.low x (hb x ((List.mem_filter.mp hx).1))
    rw [xs_step (s1 := sP dd c bt none none none) (by rw [x_if_false e0, xs_nil]), xs_step (x_asg1 m1 (by decide))]
    rw [xs_step (s1 := sP dd c bt (some (.lst true ((bt.filter fun o => decide (o ∈ rd c)).map dS))) (some (.lst true ((bt.filter fun o => decide (c ∈ rd o)).map dS))) none) (x_asg1 m2 (by decide))]
    have r1 := ne_nil (T := T) (i := 3) (s := sP dd c bt (some (.lst true ((bt.filter fun o => decide (o ∈ rd c)).map dS))) (some (.lst true ((bt.filter fun o => decide (c ∈ rd o)).map dS))) none) rfl (lw _)
    have r2 := ne_nil (T := T) (i := 4) (s := sP dd c bt (some (.lst true ((bt.filter fun o => decide (o ∈ rd c)).map dS))) (some (.lst true ((bt.filter fun o => decide (c ∈ rd o)).map dS))) none) rfl (lw _)
    rw [xs_cons, x_ret, ev_and, r1, b_ok, tR_bl]
    unfold fits
    rw [decide_eq_false h0, Bool.false_or]
    cases hq : (!decide ((bt.filter fun o => decide (o ∈ rd c)) = [])) with
    | true =>
      simp only [if_true]
      rw [r2, b_ok, ret_app, b_ok, Bool.true_and]
      rfl
    | false => rfl
end VK

namespace VK
open VI
open PySem (PyData)
/-- the next place of the same command -/
def nextOf (row : List (List Nat)) (p : Nat) : Option Nat := ((List.range row.length).filter fun j => decide (p < j) && decide (row[j]? = row[p]?)).head?
theorem nextOf_some {row : List (List Nat)} {p j : Nat} (hp : p < row.length) (hj : j < row.length) (hpj : p < j) (he : row[j]? = row[p]?) (hn : ∀ i, p < i → i < j → row[i]? ≠ row[p]?) : nextOf row p = some j := by
  unfold nextOf
  have hs : List.range row.length = List.range j ++ (j :: (List.range (row.length - j - 1)).map (· + (j + 1))) := by
    apply List.ext_getElem?
    intro i
    by_cases h1 : i < j
    · rw [List.getElem?_append_left (by simpa using h1), List.getElem?_range h1, List.getElem?_range (by omega)]
    · rw [List.getElem?_append_right (by simpa using h1), List.length_range]
      by_cases h2 : i < row.length
      · rw [List.getElem?_range h2]
        cases hi : i - j with
        | zero =>
          have : i = j := by omega
          subst this
          rfl
        | succ q =>
          rw [List.getElem?_cons_succ, List.getElem?_map, List.getElem?_range (by omega)]
          simp only [Option.map_some]
          congr 1
          omega
      · rw [List.getElem?_eq_none (by simpa using h2), List.getElem?_eq_none]
        simp
        omega
  rw [hs, List.filter_append]
  have h0 : (List.range j).filter (fun i => decide (p < i) && decide (row[i]? = row[p]?)) = [] := by
    rw [List.filter_eq_nil_iff]
    intro i hi
    have := List.mem_range.mp hi
    simp only [Bool.and_eq_true, decide_eq_true_eq, not_and]
    exact fun h => hn i h this
  rw [h0, List.nil_append, List.filter_cons, if_pos (by simp [hpj, he])]
  rfl
theorem nextOf_none {row : List (List Nat)} {p : Nat} (hn : ∀ i, p < i → i < row.length → row[i]? ≠ row[p]?) : nextOf row p = none := by
  unfold nextOf
  have h0 : (List.range row.length).filter (fun i => decide (p < i) && decide (row[i]? = row[p]?)) = [] := by
    rw [List.filter_eq_nil_iff]
    intro i hi
    have := List.mem_range.mp hi
    simp only [Bool.and_eq_true, decide_eq_true_eq, not_and]
    exact fun h => hn i h this
  rw [h0]
  rfl
end VK

namespace VK
open VI
open PySem (PyData)
def NextS (m : List D → List RO → Option CR) : Prop := ∀ (row : List (List Nat)) (p : Nat), p < row.length → row.length ≤ 1000 → (∀ l ∈ row, low l) →
  m [.lst false (row.map dS), .int (p : Int)] [] = some (.ok (match nextOf row p with | some j => .int (j : Int) | none => .non) [none, none] [])
abbrev sN (row : List (List Nat)) (p : Nat) (y : Option D) : VS := ⟨[some (.lst false (row.map dS)), some (.int (p : Int)), y], []⟩
theorem ix_strs (o : Bool) (row : List (List Nat)) (i : Nat) (h : i < row.length) : ixD (.lst o (row.map dS)) (.int (i : Int)) = some (dS row[i]) := by
  rw [ix_l, at_nat, List.getElem?_map, show row[i]? = some row[i] by simp [h]]
  rfl
theorem next_ok (T : Tab) : NextS (runF T 2 3 [] c_next_of) := by
  intro row p hp hl hlow
  have hlim : (lim : Int) = 1000000 := rfl
  have hsrc : srcM T .rng2 [.pr .add [.var 1, .con (.int 1)], .pr .len [.var 0]] (sN row p none) = some (.ok ((List.range (row.length - (p + 1))).map fun i : Nat => D.int (((p + 1 + i : Nat)) : Int)) (sN row p none)) := by
    have ea : ev T (.pr .add [.var 1, .con (.int 1)]) (sN row p none) = some (.ok (.int ((p : Int) + 1)) (sN row p none)) := by
      simp (disch := first | decide | with_unfolding_all rfl | (with_unfolding_all (intro _ h; cases h; done)) | omega) only [List.map_cons, List.map_nil, List.length_cons, List.length_nil, List.cons_append, List.nil_append, List.replicate_succ, List.replicate_zero, Nat.reduceAdd, Nat.reduceSub, if_true, xs_nil, xs_cons, seq_nx, seq_rt, x_asg, x_ex, x_ret, x_retN, x_pass, x_ite, x_set, b_app, b_ok, ret_app, ev_con, ev_var, ev_frv, ev_mov, ev_lst, ev_tup, ev_dic0, ev_not, ev_and, ev_or, ev_ife, ev_call, evs_nil, evs_cons, evA_nil, evA_var, evG_nil, evG_io, ev_mt, mR_some, tR_bl, qR_some, sR_some, gR_some, evq, evqs, okF, allF, allFs, frz, frzs, AV.gets, AV.get, Pr.fn, fn1, fn2, fn3, Option.bind_some, Option.map_some, List.getElem?_cons_zero, List.getElem?_cons_succ, List.set_cons_zero, List.set_cons_succ, ite_true, reduceIte, Mp.kind, ev_prq, ev_prg, evA_cons, evG_cons, bnd_asg1, Bool.and_self, Bool.false_eq_true, if_false, Int.reduceLT, Int.reduceLE, addD_ii, subD_ii, mulD_ii, modD_ii, fdivD_ii, int1D_i, runR_rt, runR_nx, runF_eq, bR_ex, ix_l, okA_i, kind_l, eqD_int]
    have el : ev T (.pr .len [.var 0]) (sN row p none) = some (.ok (.int (row.length)) (sN row p none)) := by
      rw [ev_prq _ _ _ (by decide)]
      simp only [evqs, evq, List.getElem?_cons_succ, List.getElem?_cons_zero, Option.bind_some, Pr.fn, fn1, lenD_l, List.length_map, Option.map_some, qR_some, okF, allF, if_true]
    rw [src_app, evs_two ea el, b_ok]
    have e : srcD .rng2 [.int ((p : Int) + 1), .int (row.length : Int)] = some ((List.range (row.length - (p + 1))).map fun i : Nat => D.int (((p + 1 + i : Nat)) : Int)) := by
      simp only [srcD]
      rw [if_pos (by omega)]
      have e1 : ((row.length : Int) - ((p : Int) + 1)).toNat = row.length - (p + 1) := by omega
      rw [e1]
      congr 1
    simp only [frz]
    rw [e, oR_some]
  unfold c_next_of
  rw [runF_eq 2 3 _ [.lst false (row.map dS), .int p] [] rfl]
  show runR 2 [] (VI.execs T [] _ (sN row p none)) = _
  rcases forM_ret (Pn := []) (tg := [2]) (b := VI.execs T [] [.ite (.pr .eq [.pr .ix [.var 0, .var 2], .pr .ix [.var 0, .var 1]]) [.ret (.mov 2)] []]) ((List.range (row.length - (p + 1))).map fun i : Nat => D.int (((p + 1 + i : Nat)) : Int))
    (fun i s => (∀ j, p < j → j < p + 1 + i → row[j]? ≠ row[p]?) ∧ ∃ y, s = sN row p y) (fun i r s => r = .int ((p + 1 + i : Nat) : Int) ∧ row[p + 1 + i]? = row[p]? ∧ (∀ j, p < j → j < p + 1 + i → row[j]? ≠ row[p]?) ∧ ∃ y, s = sN row p y) (sN row p none) ⟨fun j h1 h2 => by omega, none, rfl⟩ (by
      rintro i s d hd ⟨hI, y, rfl⟩
      rw [List.getElem?_map] at hd
      by_cases hi : i < row.length - (p + 1)
      · rw [List.getElem?_range hi] at hd
        cases hd
        have hj : p + 1 + i < row.length := by omega
        have i1 := ix_strs false row (p + 1 + i) hj
        have i2 := ix_strs false row p hp
        have he := eqD_str row[p + 1 + i] row[p] (hlow _ (List.getElem_mem hj)) (hlow _ (List.getElem_mem hp))
        have hc : ev T (.pr .eq [.pr .ix [.var 0, .var 2], .pr .ix [.var 0, .var 1]]) (sN row p (some (.int ((p + 1 + i : Nat) : Int)))) = some (.ok (.bl (decide (row[p + 1 + i] = row[p]))) (sN row p (some (.int ((p + 1 + i : Nat) : Int))))) := by
          rw [ev_prq _ _ _ (by rfl)]
          simp only [evqs, evq, List.getElem?_cons_succ, List.getElem?_cons_zero, Option.bind_some, Pr.fn, fn2, i1, i2, he, Option.map_some, qR_some, okF, allF, if_true]
        have q1 : row[p + 1 + i]? = some row[p + 1 + i] := by simp [hj]
        have q2 : row[p]? = some row[p] := by simp [hp]
        refine ⟨by decide, _, rfl, ?_⟩
        by_cases hq : row[p + 1 + i] = row[p]
        · rw [decide_eq_true hq] at hc
          refine .inl ⟨.int ((p + 1 + i : Nat) : Int), sN row p none, ?_, rfl, by rw [q1, q2, hq], hI, none, rfl⟩
          show VI.execs T [] [.ite (.pr .eq [.pr .ix [.var 0, .var 2], .pr .ix [.var 0, .var 1]]) [.ret (.mov 2)] []] (sN row p (some (.int ((p + 1 + i : Nat) : Int)))) = _
          rw [xs_cons, x_if_true hc]
          rfl
        · rw [decide_eq_false hq] at hc
          refine .inr ⟨.nx, sN row p (some (.int ((p + 1 + i : Nat) : Int))), ?_, .inl rfl, fun j h1 h2 => ?_, _, rfl⟩
          · show VI.execs T [] [.ite (.pr .eq [.pr .ix [.var 0, .var 2], .pr .ix [.var 0, .var 1]]) [.ret (.mov 2)] []] (sN row p (some (.int ((p + 1 + i : Nat) : Int)))) = _
            rw [xs_step (s1 := sN row p (some (.int ((p + 1 + i : Nat) : Int)))) (by rw [x_if_false hc, xs_nil]), xs_nil]
          · by_cases hji : j = p + 1 + i
            · subst hji
              rw [q1, q2]
              exact fun z => hq (Option.some.inj z)
            · exact hI j h1 (by omega)
      · rw [List.getElem?_eq_none (l := List.range _) (by simpa using hi)] at hd
        cases hd) with ⟨i, r, s', hi, e, rfl, hr, hI, y, rfl⟩ | ⟨s', e, hI, y, rfl⟩
  · rw [List.length_map, List.length_range] at hi
    rw [nextOf_some hp (by omega) (by omega) hr hI, xs_cons, x_for, hsrc, b_ok, e, b_ok, seq_rt]
    rfl
  · rw [List.length_map, List.length_range] at hI
    rw [nextOf_none (fun j h1 h2 => hI j h1 (by omega)), xs_step (s1 := sN row p y) (by rw [x_for, hsrc, b_ok, e])]
    rfl
end VK

namespace VK
open VI
open PySem (PyData)
/-! how results are put together -/
section
variable {T : Tab} {Pn : List Nat} {s s1 s2 s3 : VS} {a b c e : Ex} {x y z d r : D} {p q : Pr}
theorem q1 (h : (p.quiet && isQ a) = true) (ha : evq T s a = some x) (hp : p.fn [x] = some d) (hd : allF d = true) : ev T (.pr p [a]) s = some (.ok d s) := by
  rw [ev_prq _ _ _ (by simpa [isQs] using h)]
  simp only [evqs, ha, Option.bind_some, hp, qR_some, okF, hd, if_true]
theorem q2 (h : (p.quiet && (isQ a && isQ b)) = true) (ha : evq T s a = some x) (hb : evq T s b = some y) (hp : p.fn [x, y] = some d) (hd : allF d = true) : ev T (.pr p [a, b]) s = some (.ok d s) := by
  rw [ev_prq _ _ _ (by simpa [isQs] using h)]
  simp only [evqs, ha, hb, Option.bind_some, hp, qR_some, okF, hd, if_true]
theorem qv {i : Nat} (h : s.ρ[i]? = some (some d)) : evq T s (.var i) = some d := by simp only [evq, h]
theorem qp2 (ha : evq T s a = some x) (hb : evq T s b = some y) (hp : p.fn [x, y] = some d) : evq T s (.pr p [a, b]) = some d := by
  simp only [evq, evqs, ha, hb, Option.bind_some, hp]
theorem qp1 (ha : evq T s a = some x) (hp : p.fn [x] = some d) : evq T s (.pr p [a]) = some d := by
  simp only [evq, evqs, ha, Option.bind_some, hp]
theorem ok_not {k : Bool} (h : ev T a s = some (.ok (.bl k) s1)) : ev T (.not a) s = some (.ok (.bl (!k)) s1) := by
  rw [ev_not, h, b_ok, tR_bl, ret_app]
theorem ok_or_f (h : ev T a s = some (.ok (.bl false) s1)) (h2 : ev T b s1 = some (.ok x s2)) : ev T (.or a b) s = some (.ok x s2) := by
  rw [ev_or, h, b_ok, tR_bl, if_neg (by decide), h2]
theorem ok_or_t (h : ev T a s = some (.ok (.bl true) s1)) : ev T (.or a b) s = some (.ok (.bl true) s1) := by
  rw [ev_or, h, b_ok, tR_bl, if_pos rfl, ret_app]
theorem ok_and_t (h : ev T a s = some (.ok (.bl true) s1)) (h2 : ev T b s1 = some (.ok x s2)) : ev T (.and a b) s = some (.ok x s2) := by
  rw [ev_and, h, b_ok, tR_bl, if_pos rfl, h2]
theorem ok_and_f (h : ev T a s = some (.ok (.bl false) s1)) : ev T (.and a b) s = some (.ok (.bl false) s1) := by
  rw [ev_and, h, b_ok, tR_bl, if_neg (by decide), ret_app]
theorem ok_chn (h : (p.quiet && q.quiet) = true) (ha : ev T a s = some (.ok x s1)) (hb : ev T b s1 = some (.ok y s2)) (hp : p.fn [frz x, frz y] = some (.bl true)) (hc : ev T c s2 = some (.ok z s3)) (hq : q.fn [frz y, frz z] = some d) (hd : allF d = true) :
    ev T (.chn p q a b c) s = some (.ok d s3) := by
  simp only [ev]
  rw [if_pos h, b_app, ha, b_ok, b_app, hb, b_ok]
  simp only [hp, b_app]
  rw [hc, b_ok]
  simp only [hq]
  rw [if_pos hd, ret_app]
theorem ok_call {f : Nat} {as : List Ex} {ds : List D} {ps : List (Option D)} (ha : evG T as s = some (.ok (ds.map .val) s1)) (hn : noRefs ds = true) (hc : T.call f ds [] = some (.ok r ps [])) (hl : ps.length = ds.length) : ev T (.call f as) s = some (.ok r s1) := by
  rw [ev_call, ha, b_ok]
  exact callM_v T f ds s1 r ps hn hc hl
theorem g1 (ne : ∀ i, e ≠ .io i) (h : ev T e s = some (.ok d s1)) : evG T [e] s = some (.ok ([frz d].map .val) s1) := evG_one ne h (evG_nil (T := T) s1)
theorem g2 (na : ∀ i, a ≠ .io i) (nb : ∀ i, b ≠ .io i) (h : ev T a s = some (.ok x s1)) (h2 : ev T b s1 = some (.ok y s2)) : evG T [a, b] s = some (.ok ([frz x, frz y].map .val) s2) := evG_one na h (g1 nb h2)
theorem g3 (na : ∀ i, a ≠ .io i) (nb : ∀ i, b ≠ .io i) (nc : ∀ i, c ≠ .io i) (h : ev T a s = some (.ok x s1)) (h2 : ev T b s1 = some (.ok y s2)) (h3 : ev T c s2 = some (.ok z s3)) : evG T [a, b, c] s = some (.ok ([frz x, frz y, frz z].map .val) s3) := evG_one na h (g2 nb nc h2 h3)
theorem x_exp (h : ev T e s = some (.ok d s1)) : VI.exec T Pn (.ex e) s = some (.ok .nx s1) := by
  rw [x_ex, h, b_ok, ret_app]
theorem x_retv {cs : List Sm} (h : ev T e s = some (.ok d s1)) : VI.execs T Pn (.ret e :: cs) s = some (.ok (.rt d) s1) := by
  rw [xs_cons, x_ret, h, b_ok, ret_app, b_ok, seq_rt, ret_app]
theorem x_skip {n : List Sm} (h : ev T c s = some (.ok (.bl false) s1)) : VI.exec T Pn (.ite c n []) s = some (.ok .nx s1) := by
  rw [x_if_false h, xs_nil]
theorem for_val {i : Nat} {tg : List Nat} {bd : List Sm} {ds : List D} (h : s.ρ[i]? = some (some (.lst false ds))) (hd : frzs ds = ds) : VI.exec T Pn (.for tg .val [.frv i] bd) s = forM Pn tg (VI.execs T Pn bd) ds s := by
  rw [x_for, src_app, evs_one (frv_same h (by simp only [frz, hd])), b_ok]
  simp only [frz, hd]
  rfl
theorem for_enum {i : Nat} {tg : List Nat} {bd : List Sm} {ds : List D} (h : s.ρ[i]? = some (some (.lst false ds))) (hd : frzs ds = ds) : VI.exec T Pn (.for tg .enum [.frv i] bd) s = forM Pn tg (VI.execs T Pn bd) ((List.range ds.length).zipWith (fun (i : Nat) d => D.tup [.int (i : Int), d]) ds) s := by
  rw [x_for, src_app, evs_one (frv_same h (by simp only [frz, hd])), b_ok]
  simp only [frz, hd]
  rfl
end
theorem enum_at {ds : List D} {i : Nat} {d : D} (h : ((List.range ds.length).zipWith (fun (i : Nat) d => D.tup [.int (i : Int), d]) ds)[i]? = some d) : ∃ x, ds[i]? = some x ∧ d = .tup [.int (i : Int), x] := by
  rw [List.getElem?_zipWith] at h
  by_cases hi : i < ds.length
  · rw [List.getElem?_range hi] at h
    cases hx : ds[i]? with
    | none => rw [hx] at h; cases h
    | some x => rw [hx] at h; cases h; exact ⟨x, rfl, rfl⟩
  · rw [List.getElem?_eq_none (l := List.range _) (by simpa using hi)] at h
    cases h
theorem enum_len (ds : List D) : ((List.range ds.length).zipWith (fun (i : Nat) d => D.tup [.int (i : Int), d]) ds).length = ds.length := by simp
/-! is_name -/
def IsNameS (m : List D → List RO → Option CR) : Prop := ∀ l, good l → m [dS l] [] = some (.ok (.bl true) [none] [])
def LET : D := .str "abcdefghijklmnopqrstuvwxyz"
theorem let_mem (c : Nat) (h : 97 ≤ c ∧ c ≤ 122) : memO (dS [c]) LET = some true := by
  have k : ∀ k, k < 26 → memO (dS [97 + k]) LET = some true := by decide +kernel
  have := k (c - 97) (by omega)
  rwa [show 97 + (c - 97) = c by omega] at this
theorem boolsD_rep : ∀ n, boolsD (List.replicate n (.bl true)) = some (List.replicate n true)
  | 0 => rfl
  | n + 1 => by simp only [List.replicate_succ, boolsD, boolsD_rep n, Option.map_some]
theorem is_name_ok (T : Tab) (hL : T.glo "LETTERS" = some LET) : IsNameS (runF T 1 2 [] c_is_name) := by
  rintro l ⟨h1, h2, h3⟩
  have hlim : lim = 1000000 := rfl
  have hlen : lenD (dS l) = some (l.length : Int) := by
    show (if (S l).length ≤ lim then some ((S l).length : Int) else none) = _
    rw [S_len, if_pos (by omega)]
  have e0 : ev T (.or (.not (.pr (.isi "str") [.var 0])) (.not (.chn .le .le (.con (.int 1)) (.pr .len [.var 0]) (.con (.int 12))))) ⟨[some (dS l), none], []⟩ = some (.ok (.bl false) ⟨[some (dS l), none], []⟩) := by
    refine ok_or_f (ok_not (q1 (d := .bl true) (by rfl) (qv rfl) rfl rfl)) (ok_not (k := true) (ok_chn (by rfl) (x := .int 1) rfl (y := .int (l.length : Int)) (q1 (by rfl) (qv rfl) (by simp only [Pr.fn, fn1, hlen, Option.map_some]) rfl) ?_ (z := .int 12) rfl ?_ rfl))
    · show some (D.bl (decide ((1 : Int) ≤ (l.length : Int)))) = _
      rw [decide_eq_true (by omega)]
    · show some (D.bl (decide ((l.length : Int) ≤ (12 : Int)))) = _
      rw [decide_eq_true (by omega)]
  obtain ⟨ds, s', e1, rfl, y, rfl⟩ := loopC_inv (f := lcBody [1] (evc T []) (ev T (.pr .mem [.var 1, .glo "LETTERS"]))) (l.map fun c => dS [c]) (fun i acc s => acc = List.replicate i (.bl true) ∧ ∃ y, s = ⟨[some (dS l), y], []⟩) [] ⟨[some (dS l), none], []⟩ ⟨rfl, none, rfl⟩ (by
    rintro i acc s d hd ⟨rfl, y, rfl⟩
    rw [List.getElem?_map] at hd
    cases hx : l[i]? with
    | none => rw [hx] at hd; cases hd
    | some c =>
      rw [hx] at hd
      cases hd
      have hi : i < l.length := (List.getElem?_eq_some_iff.mp hx).1
      refine ⟨some (.bl true), ⟨[some (dS l), some (dS [c])], []⟩, ?_, ?_, ?_, _, rfl⟩
      · rw [lcBody_1, evc_nil, b_ok]
        simp only [if_true]
        rw [q2 (d := .bl true) (by rfl) (x := dS [c]) (by rfl) (y := LET) (by simp only [evq, hL]) (by simp only [Pr.fn, fn2, let_mem c (h3 c (List.mem_of_getElem? hx)), Option.map_some]) rfl, b_ok]
        rfl
      · rw [List.length_replicate]; omega
      · rw [List.replicate_succ', List.append_cancel_left_eq])
  unfold c_is_name
  rw [runF_eq 1 2 _ [dS l] [] rfl]
  show runR 1 [] (VI.execs T [] _ ⟨[some (dS l), none], []⟩) = _
  have hs : srcD .strS [dS l] = some (l.map fun c => dS [c]) := by
    show some ((S l).cps.toList.map _) = _
    rw [S_list]
    rfl
  have e2 : ev T (.lc [1] .strS [.frv 0] [] (.pr .mem [.var 1, .glo "LETTERS"])) ⟨[some (dS l), none], []⟩ = some (.ok (.lst true (List.replicate l.length (.bl true))) ⟨[some (dS l), none], []⟩) := by
    rw [ev_lc, src_app, evs_one (frv_same (d := dS l) rfl rfl), b_ok]
    rw [show frz (dS l) = dS l from rfl, hs, oR_some, b_ok, lcM_ok e1]
    simp only [List.length_map]
    rfl
  rw [xs_step (x_skip e0)]
  rw [x_retv (d := .bl true) (s1 := ⟨[some (dS l), none], []⟩) (by
    rw [ev_prg _ _ _ (by rfl), evA_cons (.lc _ _ _ _ _) _ _ (fun _ h => nomatch h), e2, b_ok, evA_nil, b_ok, b_ok]
    have ef : frzs (List.replicate l.length (.bl true)) = List.replicate l.length (.bl true) := by
      rw [frzs_map, List.map_replicate]
      rfl
    simp only [AV.gets, AV.get, gR_some, Pr.fn, fn1, frz, ef, allD, boolsD_rep, Option.map_some]
    have ea : ∀ n, (List.replicate n true).all id = true := fun n => by simp
    rw [ea])]
  rfl
end VK

namespace VK
open VI
open PySem (PyData)
def CPlainS (m : List D → List RO → Option CR) : Prop := ∀ ls : List (List Nat), ls.Nodup → (∀ l ∈ ls, good l) → ls.length ≤ 1000 → m [.lst false (ls.map dS)] [] = some (.ok (.lst true (ls.map dS)) [none] [])
abbrev sC (ls acc : List (List Nat)) (y : Option D) : VS := ⟨[some (.lst false (ls.map dS)), some (.lst true (acc.map dS)), y], []⟩
theorem good_low {l : List Nat} (h : good l) : low l := h.2.2
theorem plain_ok (T : Tab) (hN : IsNameS (T.call 8)) : CPlainS (runF T 1 3 [] c_checked_plain) := by
  intro ls hnd hg hl
  have hlim : lim = 1000000 := rfl
  obtain ⟨s1, f1, y, rfl⟩ := forM_inv (Pn := []) (tg := [2]) (b := VI.execs T [] [.ite (.or (.not (.call 8 [.frv 2])) (.pr .mem [.var 2, .var 1])) [.never] [], .ex (.mt .app (.var 1) [.frv 2])]) (ls.map dS)
    (fun i s => ∃ y, s = sC ls (ls.take i) y) (sC ls [] none) ⟨none, rfl⟩ (by
      rintro i s d hd ⟨y, rfl⟩
      rw [List.getElem?_map] at hd
      cases hp : ls[i]? with
      | none => rw [hp] at hd; cases hd
      | some l =>
        rw [hp] at hd
        cases hd
        have hi : i < ls.length := (List.getElem?_eq_some_iff.mp hp).1
        have hgl := hg l (List.mem_of_getElem? hp)
        refine ⟨by decide, _, rfl, .nx, sC ls (ls.take (i + 1)) (some (dS l)), ?_, .inl rfl, _, rfl⟩
        have hm : memO (dS l) (.lst true ((ls.take i).map dS)) = some false := by
          rw [memO_strs true l _ (good_low hgl) fun x hx => good_low (hg x (List.mem_of_mem_take hx)), decide_eq_false (nodup_take hnd hp)]
        have e1 : ev T (.or (.not (.call 8 [.frv 2])) (.pr .mem [.var 2, .var 1])) (sC ls (ls.take i) (some (dS l))) = some (.ok (.bl false) (sC ls (ls.take i) (some (dS l)))) :=
          ok_or_f (ok_not (k := true) (ok_call (g1 (fun _ h => nomatch h) (frv_same (d := dS l) rfl rfl)) rfl (hN l hgl) rfl)) (q2 (by rfl) (x := dS l) (y := .lst true ((ls.take i).map dS)) (qv rfl) (qv rfl) (by simp only [Pr.fn, fn2, hm, Option.map_some]) rfl)
        show VI.execs T [] _ (sC ls (ls.take i) (some (dS l))) = _
        rw [xs_step (x_skip e1), xs_step (x_exp (ev_mt_ok (o := .lst true ((ls.take i).map dS)) rfl rfl (evs_one (frv_same (d := dS l) rfl rfl)) rfl (app_ok _ _ (by rw [List.length_map, List.length_take]; omega)))), xs_nil]
        unfold sC
        rw [take_snoc hp, List.map_append]
        rfl)
  rw [List.length_map, List.take_length] at f1
  unfold c_checked_plain
  rw [runF_eq 1 3 _ [.lst false (ls.map dS)] [] rfl]
  show runR 1 [] (VI.execs T [] _ ⟨[some (.lst false (ls.map dS)), none, none], []⟩) = _
  rw [xs_step (x_skip (ok_not (k := true) (q1 (d := .bl true) (by rfl) (qv rfl) rfl rfl)))]
  rw [xs_step (s1 := sC ls [] none) rfl]
  rw [xs_step ((for_val (T := T) (s := sC ls [] none) (ds := ls.map dS) rfl (frzs_S ls)).trans f1)]
  rfl
end VK

namespace VK
open VI
open PySem (PyData)
section
variable {T : Tab} {Pn : List Nat} {s s1 : VS} {e : Ex} {x y : D}
theorem x_asg2 {i j : Nat} (h : ev T e s = some (.ok (.tup [x, y]) s1)) (hf : free Pn [i, j] = true) : VI.exec T Pn (.asg [i, j] e) s = some (.ok .nx ⟨(s1.ρ.set i (some x)).set j (some y), s1.μ⟩) := by
  rw [x_asg, h, b_ok]
  unfold bndT
  rw [if_pos hf]
  rfl
theorem for_own {i : Nat} {tg : List Nat} {bd : List Sm} {ds : List D} (h : s.ρ[i]? = some (some (.lst true ds))) (hd : frzs ds = ds) : VI.exec T Pn (.for tg .val [.frv i] bd) s = forM Pn tg (VI.execs T Pn bd) ds ⟨s.ρ.set i (some (.lst false ds)), s.μ⟩ := by
  rw [x_for, src_app, evs_one (d := .lst false ds) (s1 := ⟨s.ρ.set i (some (.lst false ds)), s.μ⟩) (by rw [ev_frv, h, sR_some]; simp only [frz, hd]), b_ok]
  simp only [frz, hd]
  rfl
theorem ok_list {a : Ex} {ds : List D} {o : Bool} (ne : ∀ i, a ≠ .var i) (h : ev T a s = some (.ok (.lst o ds) s1)) (hd : allFs ds = true) : ev T (.pr .list [a]) s = some (.ok (.lst true ds) s1) := by
  rw [ev_prg _ _ _ (by rfl), evA_cons a [] _ ne, h, b_ok, evA_nil, b_ok, b_ok]
  simp only [AV.gets, AV.get, gR_some, Pr.fn, fn1, frz, frzs_id _ hd, listD, hd, if_true, Option.map_some]
theorem ok_listv {i : Nat} {ds : List D} {o : Bool} (h : s.ρ[i]? = some (some (.lst o ds))) (hd : allFs ds = true) : ev T (.pr .list [.var i]) s = some (.ok (.lst true ds) s) := by
  rw [ev_prg _ _ _ (by rfl), evA_var, h, sR_some, evA_nil, b_ok, b_ok]
  simp only [AV.gets, AV.get, h, gR_some, Pr.fn, fn1, listD, hd, if_true, Option.map_some]
end
def CCompS (m : List D → List RO → Option CR) : Prop := ∀ (plain : List (List Nat)) (es : List En), (plain ++ es.map (·.1)).Nodup → (∀ l ∈ plain ++ es.map (·.1), good l) → plain.length + es.length ≤ 12 → (∀ e ∈ es, EnOk (es.map (·.1) ++ plain) e) →
  m [.lst false (es.map dE), .lst false (plain.map dS)] [] = some (.ok (.lst false (es.map dE)) [none, none] [])
abbrev sD (es : List En) (plain kn : List (List Nat)) (o : Bool) (fo : List En) (a4 a5 a6 a7 a8 : Option D) : VS :=
  ⟨[some (.lst false (es.map dE)), some (.lst false (plain.map dS)), some (.lst true (kn.map dS)), some (.lst o (fo.map dE)), a4, a5, a6, a7, a8], []⟩
theorem ccomp1 (T : Tab) (hN : IsNameS (T.call 8)) (plain : List (List Nat)) (es : List En) (hnd : (plain ++ es.map (·.1)).Nodup) (hg : ∀ l ∈ plain ++ es.map (·.1), good l) (hl : plain.length + es.length ≤ 12) :
    ∃ y4 y5 y6, forM [] [4] (VI.execs T [] [.ite (.or (.not (.pr (.isi "tuple") [.var 4])) (.pr .ne [.pr .len [.var 4], .con (.int 2)])) [.never] [], .asg [5, 6] (.frv 4), .ite (.or (.not (.call 8 [.frv 5])) (.or (.pr .mem [.var 5, .var 2]) (.not (.pr (.isi "list") [.var 6])))) [.never] [], .ex (.mt .app (.var 2) [.frv 5]), .ex (.mt .app (.var 3) [.tup [.frv 5, .pr .list [.var 6]]])]) (es.map dE) (sD es plain plain true [] none none none none none) =
      some (.ok .nx (sD es plain (plain ++ es.map (·.1)) true es y4 y5 y6 none none)) := by
  have hlim : lim = 1000000 := rfl
  obtain ⟨s1, f1, y4, y5, y6, rfl⟩ := forM_inv (Pn := []) (tg := [4]) (b := VI.execs T [] [.ite (.or (.not (.pr (.isi "tuple") [.var 4])) (.pr .ne [.pr .len [.var 4], .con (.int 2)])) [.never] [], .asg [5, 6] (.frv 4), .ite (.or (.not (.call 8 [.frv 5])) (.or (.pr .mem [.var 5, .var 2]) (.not (.pr (.isi "list") [.var 6])))) [.never] [], .ex (.mt .app (.var 2) [.frv 5]), .ex (.mt .app (.var 3) [.tup [.frv 5, .pr .list [.var 6]]])]) (es.map dE)
    (fun i s => ∃ y4 y5 y6, s = sD es plain (plain ++ (es.take i).map (·.1)) true (es.take i) y4 y5 y6 none none) (sD es plain plain true [] none none none none none) ⟨none, none, none, by simp⟩ (by
      rintro i s d hd ⟨y4, y5, y6, rfl⟩
      rw [List.getElem?_map] at hd
      cases hp : es[i]? with
      | none => rw [hp] at hd; cases hd
      | some e0 =>
        rw [hp] at hd
        cases hd
        have hi : i < es.length := (List.getElem?_eq_some_iff.mp hp).1
        have hin : e0.1 ∈ plain ++ es.map (·.1) := List.mem_append_right _ (List.mem_map_of_mem (List.mem_of_getElem? hp))
        have hgl := hg e0.1 hin
        refine ⟨by decide, _, rfl, .nx, sD es plain (plain ++ (es.take (i + 1)).map (·.1)) true (es.take (i + 1)) (some (dE e0)) (some (dS e0.1)) (some (.lst false (e0.2.map dS))) none none, ?_, .inl rfl, _, _, _, rfl⟩
        have hnot : e0.1 ∉ plain ++ (es.take i).map (·.1) := fun z => by
          obtain ⟨n1, n2, n3⟩ := List.nodup_append.mp hnd
          rcases List.mem_append.mp z with h1 | h1
          · exact n3 _ h1 _ (List.mem_map_of_mem (List.mem_of_getElem? hp)) rfl
          · have h3 : (es.map (·.1))[i]? = some e0.1 := by rw [List.getElem?_map, hp]; rfl
            have := nodup_take n2 h3
            rw [← List.map_take] at this
            exact this h1
        have hm : memO (dS e0.1) (.lst true ((plain ++ (es.take i).map (·.1)).map dS)) = some false := by
          rw [memO_strs true e0.1 _ (good_low hgl) fun x hx => good_low (hg x (by
            rcases List.mem_append.mp hx with h1 | h1
            · exact List.mem_append_left _ h1
            · rw [List.map_take] at h1
              exact List.mem_append_right _ (List.mem_of_mem_take h1))), decide_eq_false hnot]
        let sA : VS := sD es plain (plain ++ (es.take i).map (·.1)) true (es.take i) (some (dE e0)) y5 y6 none none
        let sB : VS := sD es plain (plain ++ (es.take i).map (·.1)) true (es.take i) (some (dE e0)) (some (dS e0.1)) (some (.lst false (e0.2.map dS))) none none
        let sB2 : VS := sD es plain (plain ++ (es.take (i + 1)).map (·.1)) true (es.take i) (some (dE e0)) (some (dS e0.1)) (some (.lst false (e0.2.map dS))) none none
        have e1 : ev T (.or (.not (.pr (.isi "tuple") [.var 4])) (.pr .ne [.pr .len [.var 4], .con (.int 2)])) sA = some (.ok (.bl false) sA) :=
          ok_or_f (ok_not (k := true) (q1 (d := .bl true) (by rfl) (x := dE e0) (qv rfl) rfl rfl)) (q2 (by rfl) (x := .int 2) (y := .int 2) (qp1 (x := dE e0) (qv rfl) rfl) rfl (by simp only [Pr.fn, fn2, eqD_int, Option.map_some]; rfl) rfl)
        have e2 : VI.exec T [] (.asg [5, 6] (.frv 4)) sA = some (.ok .nx sB) := x_asg2 (frv_same (d := dE e0) rfl (frz_E e0)) (by decide)
        have e3 : ev T (.or (.not (.call 8 [.frv 5])) (.or (.pr .mem [.var 5, .var 2]) (.not (.pr (.isi "list") [.var 6])))) sB = some (.ok (.bl false) sB) :=
          ok_or_f (ok_not (k := true) (ok_call (g1 (fun _ h => nomatch h) (frv_same (d := dS e0.1) rfl rfl)) rfl (hN e0.1 hgl) rfl)) (ok_or_f (q2 (by rfl) (x := dS e0.1) (y := .lst true ((plain ++ (es.take i).map (·.1)).map dS)) (qv rfl) (qv rfl) (by simp only [Pr.fn, fn2, hm, Option.map_some]) rfl) (ok_not (k := true) (q1 (d := .bl true) (by rfl) (x := .lst false (e0.2.map dS)) (qv rfl) rfl rfl)))
        have e4 : VI.exec T [] (.ex (.mt .app (.var 2) [.frv 5])) sB = some (.ok .nx sB2) := by
          rw [x_exp (ev_mt_ok (o := .lst true ((plain ++ (es.take i).map (·.1)).map dS)) rfl rfl (evs_one (frv_same (d := dS e0.1) rfl rfl)) rfl (app_ok _ _ (by rw [List.length_map, List.length_append, List.length_map, List.length_take]; omega)))]
          have : (plain ++ (es.take (i + 1)).map (·.1)).map dS = (plain ++ (es.take i).map (·.1)).map dS ++ [dS e0.1] := by
            rw [take_snoc hp]
            simp
          show _ = some (Res.ok Fl.nx (sD es plain (plain ++ (es.take (i + 1)).map (·.1)) true (es.take i) (some (dE e0)) (some (dS e0.1)) (some (.lst false (e0.2.map dS))) none none))
          unfold sD
          rw [this]
          rfl
        have e5 : ev T (.tup [.frv 5, .pr .list [.var 6]]) sB2 = some (.ok (dE e0) sB2) := by
          rw [ev_tup, evs_two (frv_same (d := dS e0.1) rfl rfl) (ok_listv (ds := e0.2.map dS) (o := false) rfl (allFs_S _)), b_ok]
          simp only [frz, frzs_S]
          rfl
        show VI.execs T [] _ sA = _
        rw [xs_step (x_skip e1), xs_step e2, xs_step (x_skip e3), xs_step e4, xs_step (x_exp (ev_mt_ok (o := .lst true ((es.take i).map dE)) rfl rfl (evs_one e5) rfl (app_ok _ _ (by rw [List.length_map, List.length_take]; omega)))), xs_nil]
        rw [frz_E]
        have : (es.take (i + 1)).map dE = (es.take i).map dE ++ [dE e0] := by
          rw [take_snoc hp]
          simp
        unfold sD
        rw [this]
        rfl)
  simp only [List.length_map, List.take_length] at f1
  exact ⟨y4, y5, y6, f1⟩
end VK

namespace VK
open VI
open PySem (PyData)
theorem mem_slc {T : Tab} {i j k : Nat} {s : VS} {o : Bool} {x : List Nat} {l : List (List Nat)} {n : Nat} (hx : s.ρ[i]? = some (some (dS x))) (h : s.ρ[j]? = some (some (.lst o (l.map dS)))) (hk : s.ρ[k]? = some (some (.int (n : Int)))) (lx : low x) (ll : ∀ y ∈ l, low y) :
    ev T (.pr .mem [.var i, .slc (.var j) [] [.frv k]]) s = some (.ok (.bl (decide (x ∈ l.take n))) s) := by
  have hm := memO_strs false x (l.take n) lx fun y hy => ll y (List.mem_of_mem_take hy)
  rw [ev_prg _ _ _ (by rfl), evA_var, hx, sR_some, evA_cons (.slc (.var j) [] [.frv k]) [] _ (fun _ h => nomatch h), slv h hk, b_ok, evA_nil, b_ok, b_ok, b_ok]
  simp only [AV.gets, AV.get, hx, gR_some, Pr.fn, fn2, frzt, hm, Option.map_some]
theorem ccomp3 (T : Tab) (hN : IsNameS (T.call 8)) (plain : List (List Nat)) (es : List En) (hg : ∀ l ∈ plain ++ es.map (·.1), good l) (e0 : En) (he : EnOk (es.map (·.1) ++ plain) e0) (y4 y5 y7 y8 : Option D) :
    ∃ z7 z8, VI.exec T [] (.for [7, 8] .enum [.frv 6] [.ite (.or (.not (.call 8 [.frv 8])) (.or (.pr .nmem [.var 8, .var 2]) (.pr .mem [.var 8, .slc (.var 6) [] [.frv 7]]))) [.never] []]) (sD es plain (plain ++ es.map (·.1)) false es y4 y5 (some (.lst false (e0.2.map dS))) y7 y8) =
      some (.ok .nx (sD es plain (plain ++ es.map (·.1)) false es y4 y5 (some (.lst false (e0.2.map dS))) z7 z8)) := by
  have hin : ∀ x ∈ e0.2, x ∈ plain ++ es.map (·.1) := fun x hx => by
    rcases List.mem_append.mp (he.2 x hx) with h | h
    · exact List.mem_append_right _ h
    · exact List.mem_append_left _ h
  obtain ⟨s1, f1, z7, z8, rfl⟩ := forM_inv (Pn := []) (tg := [7, 8]) (b := VI.execs T [] [.ite (.or (.not (.call 8 [.frv 8])) (.or (.pr .nmem [.var 8, .var 2]) (.pr .mem [.var 8, .slc (.var 6) [] [.frv 7]]))) [.never] []]) ((List.range (e0.2.map dS).length).zipWith (fun (i : Nat) d => D.tup [.int (i : Int), d]) (e0.2.map dS))
    (fun i s => ∃ z7 z8, s = sD es plain (plain ++ es.map (·.1)) false es y4 y5 (some (.lst false (e0.2.map dS))) z7 z8) (sD es plain (plain ++ es.map (·.1)) false es y4 y5 (some (.lst false (e0.2.map dS))) y7 y8) ⟨_, _, rfl⟩ (by
      rintro i s d hd ⟨z7, z8, rfl⟩
      obtain ⟨x0, hx, rfl⟩ := enum_at hd
      rw [List.getElem?_map] at hx
      cases hp : e0.2[i]? with
      | none => rw [hp] at hx; cases hx
      | some x =>
        rw [hp] at hx
        cases hx
        have hxc := hin x (List.mem_of_getElem? hp)
        have hgl := hg x hxc
        let sA : VS := sD es plain (plain ++ es.map (·.1)) false es y4 y5 (some (.lst false (e0.2.map dS))) (some (.int (i : Int))) (some (dS x))
        refine ⟨by decide, _, rfl, .nx, sA, ?_, .inl rfl, _, _, rfl⟩
        have hm : memO (dS x) (.lst true ((plain ++ es.map (·.1)).map dS)) = some true := by
          rw [memO_strs true x _ (good_low hgl) fun x hx => good_low (hg x hx), decide_eq_true hxc]
        have e1 : ev T (.or (.not (.call 8 [.frv 8])) (.or (.pr .nmem [.var 8, .var 2]) (.pr .mem [.var 8, .slc (.var 6) [] [.frv 7]]))) sA = some (.ok (.bl false) sA) :=
          ok_or_f (ok_not (k := true) (ok_call (g1 (fun _ h => nomatch h) (frv_same (d := dS x) rfl rfl)) rfl (hN x hgl) rfl)) (ok_or_f (q2 (by rfl) (x := dS x) (y := .lst true ((plain ++ es.map (·.1)).map dS)) (qv rfl) (qv rfl) (by simp only [Pr.fn, fn2, hm, Option.map_some]; rfl) rfl) (by
            rw [mem_slc (x := x) (l := e0.2) (n := i) (o := false) rfl rfl rfl (good_low hgl) fun y hy => good_low (hg y (hin y hy)), decide_eq_false (nodup_take he.1 hp)]))
        show VI.execs T [] _ sA = _
        rw [xs_step (x_skip e1), xs_nil])
  exact ⟨z7, z8, (for_enum (ds := e0.2.map dS) rfl (frzs_S _)).trans f1⟩
theorem ccomp_ok (T : Tab) (hN : IsNameS (T.call 8)) (hM : T.glo "MOST_CELLS" = some (.int 12)) : CCompS (runF T 2 9 [] c_checked_computed) := by
  intro plain es hnd hg hl he
  obtain ⟨y4, y5, y6, f1⟩ := ccomp1 T hN plain es hnd hg hl
  obtain ⟨s2, f2, z5, z6, z7, z8, rfl⟩ := forM_inv (Pn := []) (tg := [5, 6]) (b := VI.execs T [] [.for [7, 8] .enum [.frv 6] [.ite (.or (.not (.call 8 [.frv 8])) (.or (.pr .nmem [.var 8, .var 2]) (.pr .mem [.var 8, .slc (.var 6) [] [.frv 7]]))) [.never] []]]) (es.map dE)
    (fun i s => ∃ z5 z6 z7 z8, s = sD es plain (plain ++ es.map (·.1)) false es y4 z5 z6 z7 z8) (sD es plain (plain ++ es.map (·.1)) false es y4 y5 y6 none none) ⟨_, _, _, _, rfl⟩ (by
      rintro i s d hd ⟨z5, z6, z7, z8, rfl⟩
      rw [List.getElem?_map] at hd
      cases hp : es[i]? with
      | none => rw [hp] at hd; cases hd
      | some e0 =>
        rw [hp] at hd
        cases hd
        obtain ⟨w7, w8, e1⟩ := ccomp3 T hN plain es hg e0 (he e0 (List.mem_of_getElem? hp)) y4 (some (dS e0.1)) z7 z8
        refine ⟨by decide, _, rfl, .nx, sD es plain (plain ++ es.map (·.1)) false es y4 (some (dS e0.1)) (some (.lst false (e0.2.map dS))) w7 w8, ?_, .inl rfl, _, _, w7, w8, rfl⟩
        show VI.execs T [] _ (sD es plain (plain ++ es.map (·.1)) false es y4 (some (dS e0.1)) (some (.lst false (e0.2.map dS))) z7 z8) = _
        rw [xs_step e1, xs_nil])
  unfold c_checked_computed
  rw [runF_eq 2 9 _ [.lst false (es.map dE), .lst false (plain.map dS)] [] rfl]
  show runR 2 [] (VI.execs T [] _ ⟨[some (.lst false (es.map dE)), some (.lst false (plain.map dS)), none, none, none, none, none, none, none], []⟩) = _
  rw [xs_step (x_skip (ok_not (k := true) (q1 (d := .bl true) (by rfl) (qv rfl) rfl rfl)))]
  rw [xs_step (x_asg1 (ok_listv (ds := plain.map dS) (o := false) rfl (allFs_S _)) (by decide))]
  rw [xs_step (s1 := sD es plain plain true [] none none none none none) rfl]
  rw [xs_step ((for_val (ds := es.map dE) rfl (frzs_E es)).trans f1)]
  have e3 : ev T (.pr .gt [.pr .len [.var 2], .glo "MOST_CELLS"]) (sD es plain (plain ++ es.map (·.1)) true es y4 y5 y6 none none) = some (.ok (.bl false) (sD es plain (plain ++ es.map (·.1)) true es y4 y5 y6 none none)) := by
    refine q2 (by rfl) (x := .int (((plain ++ es.map (·.1)).map dS).length : Int)) (y := .int 12) (qp1 (x := .lst true ((plain ++ es.map (·.1)).map dS)) (qv rfl) rfl) (by simp only [evq, hM]) ?_ rfl
    show some (D.bl (decide ((12 : Int) < (((plain ++ es.map (·.1)).map dS).length : Int)))) = _
    rw [List.length_map, List.length_append, List.length_map, decide_eq_false (by omega)]
  rw [xs_step (x_skip e3)]
  rw [xs_step (s1 := sD es plain (plain ++ es.map (·.1)) false es y4 z5 z6 z7 z8) ((for_own (ds := es.map dE) rfl (frzs_E es)).trans f2)]
  rfl
end VK

namespace VK
open VI
open PySem (PyData)
theorem x_setF {T : Tab} {Pn : List Nat} {C f : Str} {i k : Nat} {e : Ex} {s s1 : VS} {d : D} {r : RO} (h : ev T e s = some (.ok d s1)) (h1 : s1.ρ[i]? = some (some (.ref k))) (h2 : s1.μ[k]? = some r) (h3 : r.cls = C ∧ r.fn.length < 900) :
    VI.exec T Pn (.setF C i f e) s = some (.ok .nx ⟨s1.ρ, s1.μ.set k (fput r f (frz d))⟩) := by
  have e0 : VI.exec T Pn (.setF C i f e) s = bR (ev T e s) fun d => setFM C i f (frz d) := by simp only [VI.exec]; rfl
  rw [e0, h, b_ok]
  simp only [setFM, h1, h2, h3, and_self, if_true]
theorem ok_fld {T : Tab} {C f : Str} {q : Ex} {s : VS} {d : D} (h : evq T s (.fld C q f) = some d) (hd : allF d = true) : ev T (.fld C q f) s = some (.ok d s) := by
  rw [ev_fld, h, qR_some]
  simp only [okF, hd, if_true]
/-- {k: v for ..}: from empty -/
theorem loopK_ok {f : D → M (L2.Key × D)} : ∀ (items : List D) (kv : Nat → L2.Key × D) (I : VS → Prop) (ks : List L2.Key) (ds : List D) (s : VS), I s → ks.length + items.length < lim → (ks ++ (List.range items.length).map fun i => (kv i).1).Nodup →
    (∀ (i : Nat) (d : D) (s : VS), items[i]? = some d → I s → ∃ s', f d s = some (.ok (kv i) s') ∧ I s') → ∃ s', loopK f items (ks, ds) s = some (.ok (ks ++ (List.range items.length).map fun i => (kv i).1, ds ++ (List.range items.length).map fun i => (kv i).2) s') ∧ I s'
  | [], kv, I, ks, ds, s, h, _, _, _ => ⟨s, by simp [loopK, M.ret], h⟩
  | d :: items, kv, I, ks, ds, s, h, hl, hn, st => by
    obtain ⟨s1, e, h1⟩ := st 0 d s rfl h
    rw [List.length_cons] at hl hn
    have e1 : (List.range (items.length + 1)).map (fun i => (kv i).1) = (kv 0).1 :: (List.range items.length).map fun i => (kv (i + 1)).1 := by
      rw [List.range_succ_eq_map, List.map_cons, List.map_map]
      rfl
    have e2 : (List.range (items.length + 1)).map (fun i => (kv i).2) = (kv 0).2 :: (List.range items.length).map fun i => (kv (i + 1)).2 := by
      rw [List.range_succ_eq_map, List.map_cons, List.map_map]
      rfl
    rw [e1] at hn
    have hk : (kv 0).1 ∉ ks := fun z => (List.nodup_append.mp hn).2.2 _ z _ List.mem_cons_self rfl
    obtain ⟨s2, e3, h2⟩ := loopK_ok items (fun i => kv (i + 1)) I (ks ++ [(kv 0).1]) (ds ++ [(kv 0).2]) s1 h1 (by rw [List.length_append, List.length_singleton]; omega) (by rw [List.append_assoc]; exact hn) fun i d s hd hI => st (i + 1) d s (by simpa using hd) hI
    refine ⟨s2, ?_, h2⟩
    rw [List.length_cons, e1, e2]
    unfold loopK
    rw [b_app, e, b_ok]
    simp only
    rw [if_pos (by omega)]
    unfold dicSet
    rw [look_none hk]
    simp only [Option.isSome_none, Bool.false_eq_true, if_false]
    rw [e3]
    simp
theorem dcBody_2 {T : Tab} (k e : Ex) (i j : Nat) (hij : i ≠ j) (x y : D) (s : VS) : dcBody [i, j] (ev T k) (ev T e) (.tup [x, y]) s = bR (ev T k ⟨(s.ρ.set i (some x)).set j (some y), s.μ⟩) fun k s => match keyOf (frz k) with
    | some k => bR (ev T e s) fun d s => some (.ok (k, frz d) s)
    | none => none := by
  have e0 : ((wipeR s.ρ [i, j]).set i (some x)).set j (some y) = (s.ρ.set i (some x)).set j (some y) := by
    simp only [wipeR, List.set_set]
    rw [List.set_comm _ _ (Ne.symm hij), List.set_set]
  show M.bnd _ _ _ = _
  simp only [e0, b_app]
  congr
  funext k s
  cases keyOf (frz k) <;> rfl
theorem ev_dc {T : Tab} (tg : List Nat) (sk : Sk) (src : List Ex) (k e : Ex) (s : VS) : ev T (.dc tg sk src k e) s = bR (srcM T sk src s) (dcM tg (ev T k) (ev T e)) := by simp only [ev]; rfl
theorem dcM_ok {tg : List Nat} {mk me : M D} {items ds : List D} {ks : List L2.Key} {s s' : VS} (h : loopK (dcBody tg mk me) items ([], []) ⟨wipeR s.ρ tg, s.μ⟩ = some (.ok (ks, ds) s')) : dcM tg mk me items s = some (.ok (.dic true ks ds) ⟨wipeR s'.ρ tg, s'.μ⟩) := by
  unfold dcM
  rw [h]
  rfl
theorem src_val {T : Tab} {i : Nat} {s : VS} {ds : List D} (h : s.ρ[i]? = some (some (.lst false ds))) (hd : frzs ds = ds) : srcM T .val [.frv i] s = some (.ok ds s) := by
  rw [src_app, evs_one (frv_same h (by simp only [frz, hd])), b_ok]
  simp only [frz, hd]
  rfl
end VK

namespace VK
open VI
open PySem (PyData)
def FN : List Str := ["plain_cells", "computed_cells", "reading", "all_cells"]
def rdD (es : List En) : D := .dic false ((es.map (·.1)).map ky) (es.map fun e => .tup (e.2.map dS))
def shD (plain : List (List Nat)) (es : List En) : List D := [.lst false (plain.map dS), .lst false ((es.map (·.1)).map dS), rdD es, .lst false ((plain ++ es.map (·.1)).map dS)]
structure ShOk (plain : List (List Nat)) (es : List En) : Prop where
  nd : (plain ++ es.map (·.1)).Nodup
  gd : ∀ l ∈ plain ++ es.map (·.1), good l
  ln : plain.length + es.length ≤ 12
  en : ∀ e ∈ es, EnOk (es.map (·.1) ++ plain) e
def InitS (m : List D → List RO → Option CR) : Prop := ∀ (plain : List (List Nat)) (es : List En), ShOk plain es → m [.ref 0, .lst false (plain.map dS), .lst false (es.map dE)] [⟨"Shape", [], []⟩] = some (.ok .non [none, none, none] [⟨"Shape", FN, shD plain es⟩])
theorem noRefs_E : ∀ es : List En, noRefs (es.map dE) = true
  | [] => rfl
  | e :: es => by
    show ((noRef (dS e.1) && (noRefs (e.2.map dS) && true)) && noRefs (es.map dE)) = true
    rw [noRefs_E es, noRefs_S]
    rfl
theorem allFs_T : ∀ es : List En, allFs (es.map fun e => D.tup (e.2.map dS)) = true
  | [] => rfl
  | e :: es => by
    show (allFs (e.2.map dS) && allFs (es.map fun e => D.tup (e.2.map dS))) = true
    rw [allFs_T es, allFs_S]
    rfl
theorem allF_rdD (es : List En) : allF (rdD es) = true := by
  show (!false && allFs _) = true
  rw [allFs_T]
  rfl
abbrev sI (plain : List (List Nat)) (es : List En) (a3 a4 a5 : Option D) (fn : List Str) (ds : List D) : VS := ⟨[some (.ref 0), some (.lst false (plain.map dS)), some (.lst false (es.map dE)), a3, a4, a5], [⟨"Shape", fn, ds⟩]⟩
theorem init_cc {T : Tab} (plain : List (List Nat)) (es : List En) (fn : List Str) (ds : List D) (hl : es.length ≤ 12) : ev T (.lc [4, 5] .val [.frv 3] [] (.frv 4)) (sI plain es (some (.lst false (es.map dE))) none none fn ds) = some (.ok (.lst true ((es.map (·.1)).map dS)) (sI plain es (some (.lst false (es.map dE))) none none fn ds)) := by
  have hlim : lim = 1000000 := rfl
  obtain ⟨r, s', e1, rfl, y, z, rfl⟩ := loopC_inv (f := lcBody [4, 5] (evc T []) (ev T (.frv 4))) (es.map dE) (fun i acc s => acc = ((es.take i).map (·.1)).map dS ∧ ∃ y z, s = sI plain es (some (.lst false (es.map dE))) y z fn ds) [] (sI plain es (some (.lst false (es.map dE))) none none fn ds) ⟨rfl, none, none, rfl⟩ (by
    rintro i acc s d hd ⟨rfl, y, z, rfl⟩
    rw [List.getElem?_map] at hd
    cases hp : es[i]? with
    | none => rw [hp] at hd; cases hd
    | some e0 =>
      rw [hp] at hd
      cases hd
      have hi : i < es.length := (List.getElem?_eq_some_iff.mp hp).1
      refine ⟨some (dS e0.1), sI plain es (some (.lst false (es.map dE))) (some (dS e0.1)) (some (.lst false (e0.2.map dS))) fn ds, ?_, ?_, ?_, _, _, rfl⟩
      · rw [show dE e0 = .tup [dS e0.1, .lst false (e0.2.map dS)] from rfl, lcBody_2 _ _ _ _ (by decide), evc_nil, b_ok]
        simp only [if_true]
        rw [frv_same (d := dS e0.1) rfl rfl, b_ok]
        rfl
      · rw [List.length_map, List.length_map, List.length_take]; omega
      · rw [take_snoc hp]; simp)
  rw [ev_lc, src_val (ds := es.map dE) rfl (frzs_E es), b_ok, lcM_ok e1]
  rw [List.length_map, List.take_length]
  rfl
def kvE (es : List En) (i : Nat) : L2.Key × D := match es[i]? with
  | some e => (ky e.1, .tup (e.2.map dS))
  | none => (ky [], .non)
theorem kvE_1 (es : List En) : (List.range es.length).map (fun i => (kvE es i).1) = (es.map (·.1)).map ky := by
  apply List.ext_getElem?
  intro i
  by_cases hi : i < es.length
  · rw [List.getElem?_map, List.getElem?_range hi, List.map_map, List.getElem?_map]
    simp [kvE, hi]
  · rw [List.getElem?_eq_none (by simpa using hi), List.getElem?_eq_none (by simpa using hi)]
theorem kvE_2 (es : List En) : (List.range es.length).map (fun i => (kvE es i).2) = es.map fun e => .tup (e.2.map dS) := by
  apply List.ext_getElem?
  intro i
  by_cases hi : i < es.length
  · rw [List.getElem?_map, List.getElem?_range hi, List.getElem?_map]
    simp [kvE, hi]
  · rw [List.getElem?_eq_none (by simpa using hi), List.getElem?_eq_none (by simpa using hi)]
theorem nodup_ky {ls : List (List Nat)} (h : ls.Nodup) : (ls.map ky).Nodup := by
  rw [List.Nodup, List.pairwise_map]
  exact h.imp fun h e => h (ky_inj e)
theorem init_dc {T : Tab} (plain : List (List Nat)) (es : List En) (fn : List Str) (ds : List D) (hl : es.length ≤ 12) (hn : (es.map (·.1)).Nodup) : ev T (.dc [4, 5] .val [.frv 3] (.frv 4) (.pr .tuple [.var 5])) (sI plain es (some (.lst false (es.map dE))) none none fn ds) =
    some (.ok (.dic true ((es.map (·.1)).map ky) (es.map fun e => .tup (e.2.map dS))) (sI plain es (some (.lst false (es.map dE))) none none fn ds)) := by
  have hlim : lim = 1000000 := rfl
  obtain ⟨s', e1, y, z, rfl⟩ := loopK_ok (f := dcBody [4, 5] (ev T (.frv 4)) (ev T (.pr .tuple [.var 5]))) (es.map dE) (kvE es) (fun s => ∃ y z, s = sI plain es (some (.lst false (es.map dE))) y z fn ds) [] [] (sI plain es (some (.lst false (es.map dE))) none none fn ds) ⟨none, none, rfl⟩ (by rw [List.length_map, List.length_nil]; omega) (by rw [List.length_map, kvE_1, List.nil_append]; exact nodup_ky hn) (by
    rintro i d s hd ⟨y, z, rfl⟩
    rw [List.getElem?_map] at hd
    cases hp : es[i]? with
    | none => rw [hp] at hd; cases hd
    | some e0 =>
      rw [hp] at hd
      cases hd
      refine ⟨sI plain es (some (.lst false (es.map dE))) (some (dS e0.1)) (some (.lst false (e0.2.map dS))) fn ds, ?_, _, _, rfl⟩
      rw [show dE e0 = .tup [dS e0.1, .lst false (e0.2.map dS)] from rfl, dcBody_2 _ _ _ _ (by decide), frv_same (d := dS e0.1) rfl rfl, b_ok]
      rw [show keyOf (frz (dS e0.1)) = some (ky e0.1) from rfl]
      simp only
      rw [ev_prg _ _ _ (by rfl), evA_var]
      simp only [List.getElem?_cons_succ, List.getElem?_cons_zero, List.set_cons_succ, List.set_cons_zero, sR_some, evA_nil, b_ok, AV.gets, AV.get, gR_some, Pr.fn, fn1, tupleD, allFs_S, if_true, Option.map_some, frz, frzs_S, kvE, hp])
  rw [List.length_map, kvE_1, kvE_2, List.nil_append, List.nil_append] at e1
  rw [ev_dc, src_val (ds := es.map dE) rfl (frzs_E es), b_ok, dcM_ok e1]
  rfl
theorem init_ok (T : Tab) (hP : CPlainS (T.call 9)) (hC : CCompS (T.call 10)) : InitS (runF T 3 6 [] c_Shape___init__) := by
  intro plain es ⟨hnd, hg, hl, he⟩
  have hlim : lim = 1000000 := rfl
  have n2 := (List.nodup_append.mp hnd).2.1
  unfold c_Shape___init__
  rw [runF_eq 3 6 _ [.ref 0, .lst false (plain.map dS), .lst false (es.map dE)] _ rfl]
  show runR 3 [] (VI.execs T [] _ (sI plain es none none none [] [])) = _
  have e1 : ev T (.call 9 [.frv 1]) (sI plain es none none none [] []) = some (.ok (.lst true (plain.map dS)) (sI plain es none none none [] [])) := by
    have hg1 := g1 (T := T) (e := .frv 1) (s := sI plain es none none none [] []) (fun _ h => nomatch h) (frv_same (d := .lst false (plain.map dS)) rfl (frzl plain))
    rw [frzl] at hg1
    exact ok_call hg1 (by
      show (noRefs (plain.map dS) && true) = true
      rw [noRefs_S]
      rfl) (hP plain (List.nodup_append.mp hnd).1 (fun l h => hg l (List.mem_append_left _ h)) (by omega)) rfl
  rw [xs_step (s1 := sI plain es none none none ["plain_cells"] [.lst false (plain.map dS)]) (by
    rw [x_setF (k := 0) e1 rfl rfl ⟨rfl, Nat.le_of_ble_eq_true rfl⟩, frzt]
    rfl)]
  have e2 : ev T (.call 10 [.frv 2, .fld "Shape" (.var 0) "plain_cells"]) (sI plain es none none none ["plain_cells"] [.lst false (plain.map dS)]) = some (.ok (.lst false (es.map dE)) (sI plain es none none none ["plain_cells"] [.lst false (plain.map dS)])) := by
    have hg1 := g2 (T := T) (a := .frv 2) (b := .fld "Shape" (.var 0) "plain_cells") (s := sI plain es none none none ["plain_cells"] [.lst false (plain.map dS)]) (fun _ h => nomatch h) (fun _ h => nomatch h) (frv_same (d := .lst false (es.map dE)) rfl (by simp only [frz, frzs_E])) (ok_fld (d := .lst false (plain.map dS)) (by rfl) (by simp only [allF, allFs_S]; rfl))
    rw [frzl, show frz (.lst false (es.map dE)) = .lst false (es.map dE) by simp only [frz, frzs_E]] at hg1
    exact ok_call hg1 (by
      show (noRefs (es.map dE) && (noRefs (plain.map dS) && true)) = true
      rw [noRefs_S, noRefs_E]
      rfl) (hC plain es hnd hg hl he) rfl
  rw [xs_step (x_asg1 e2 (by decide))]
  have e3 := init_cc (T := T) plain es ["plain_cells"] [.lst false (plain.map dS)] (by omega)
  rw [xs_step (s1 := sI plain es (some (.lst false (es.map dE))) none none ["plain_cells", "computed_cells"] [.lst false (plain.map dS), .lst false ((es.map (·.1)).map dS)]) (by
    refine (x_setF (k := 0) e3 rfl rfl ⟨rfl, Nat.le_of_ble_eq_true rfl⟩).trans ?_
    rw [frzt]
    rfl)]
  have e4 := init_dc (T := T) plain es ["plain_cells", "computed_cells"] [.lst false (plain.map dS), .lst false ((es.map (·.1)).map dS)] (by omega) n2
  rw [xs_step (s1 := sI plain es (some (.lst false (es.map dE))) none none ["plain_cells", "computed_cells", "reading"] [.lst false (plain.map dS), .lst false ((es.map (·.1)).map dS), rdD es]) (by
    refine (x_setF (k := 0) e4 rfl rfl ⟨rfl, Nat.le_of_ble_eq_true rfl⟩).trans ?_
    simp only [frz]
    rw [frzs_id _ (allFs_T es)]
    rfl)]
  have e5 : ev T (.pr .add [.fld "Shape" (.var 0) "plain_cells", .fld "Shape" (.var 0) "computed_cells"]) (sI plain es (some (.lst false (es.map dE))) none none ["plain_cells", "computed_cells", "reading"] [.lst false (plain.map dS), .lst false ((es.map (·.1)).map dS), rdD es]) =
      some (.ok (.lst true ((plain ++ es.map (·.1)).map dS)) (sI plain es (some (.lst false (es.map dE))) none none ["plain_cells", "computed_cells", "reading"] [.lst false (plain.map dS), .lst false ((es.map (·.1)).map dS), rdD es])) := by
    rw [ev_prg _ _ _ (by rfl), evA_cons (.fld _ _ _) _ _ (fun _ h => nomatch h), ok_fld (d := .lst false (plain.map dS)) (by rfl) (by simp only [allF, allFs_S]; rfl), b_ok, evA_cons (.fld _ _ _) _ _ (fun _ h => nomatch h), ok_fld (d := .lst false ((es.map (·.1)).map dS)) (by rfl) (by simp only [allF, allFs_S]; rfl), b_ok, evA_nil, b_ok, b_ok, b_ok]
    simp only [AV.gets, AV.get, gR_some, Pr.fn, fn2, frzl]
    rw [addD_l _ _ _ _ (allFs_S _) (allFs_S _) (by simp only [List.length_map]; omega), Option.map_some, ← List.map_append]
  rw [xs_step (s1 := sI plain es (some (.lst false (es.map dE))) none none FN (shD plain es)) (by
    refine (x_setF (k := 0) e5 rfl rfl ⟨rfl, Nat.le_of_ble_eq_true rfl⟩).trans ?_
    rw [frzt]
    rfl)]
  rfl
end VK

namespace VK
open VI
open PySem (PyData)
def dSh (plain : List (List Nat)) (es : List En) : D := .ins "Shape" FN (shD plain es)
theorem allF_Sh (plain : List (List Nat)) (es : List En) : allF (dSh plain es) = true := by
  show ((!false && allFs (plain.map dS)) && ((!false && allFs ((es.map (·.1)).map dS)) && (allF (rdD es) && ((!false && allFs ((plain ++ es.map (·.1)).map dS)) && true)))) = true
  rw [allFs_S, allFs_S, allFs_S, allF_rdD]
  rfl
theorem frz_Sh (plain : List (List Nat)) (es : List En) : frz (dSh plain es) = dSh plain es := frz_id _ (allF_Sh plain es)
theorem noRefs_T : ∀ es : List En, noRefs (es.map fun e => D.tup (e.2.map dS)) = true
  | [] => rfl
  | e :: es => by
    show (noRefs (e.2.map dS) && noRefs (es.map fun e => D.tup (e.2.map dS))) = true
    rw [noRefs_T es, noRefs_S]
    rfl
theorem noRefs_shD (plain : List (List Nat)) (es : List En) : noRefs (shD plain es) = true := by
  show (noRefs (plain.map dS) && (noRefs ((es.map (·.1)).map dS) && (noRefs (es.map fun e => D.tup (e.2.map dS)) && (noRefs ((plain ++ es.map (·.1)).map dS) && true)))) = true
  rw [noRefs_S, noRefs_S, noRefs_S, noRefs_T]
  rfl
theorem noRef_Sh (plain : List (List Nat)) (es : List En) : noRef (dSh plain es) = true := noRefs_shD plain es
def CompS (m : List D → List RO → Option CR) : Prop := ∀ (plain : List (List Nat)) (es : List En), m [dSh plain es] [] = some (.ok (.lst true ((es.map (·.1)).map dS)) [none] [])
theorem comp_ok (T : Tab) : CompS (runF T 1 1 [] c_Shape_computed) := by
  intro plain es
  unfold c_Shape_computed
  rw [runF_eq 1 1 _ [dSh plain es] [] rfl]
  show runR 1 [] (VI.execs T [] _ ⟨[some (dSh plain es)], []⟩) = _
  rw [x_retv (ok_list (a := .fld "Shape" (.var 0) "computed_cells") (fun _ h => nomatch h) (ok_fld (d := .lst false ((es.map (·.1)).map dS)) (by rfl) (by simp only [allF, allFs_S]; rfl)) (allFs_S _))]
  rfl
theorem ok_meth0 {T : Tab} {C m : Str} {f : Nat} {q : Ex} {s : VS} {d r : D} {p : Option D} (h : evq T s q = some d) (ho : isObjD C m s d = true) (ha : allF d = true) (hn : noRef d = true) (hc : T.call f [d] [] = some (.ok r [p] [])) : ev T (.meth C m f q []) s = some (.ok r s) := by
  simp only [ev, h, ho, ha, Bool.and_self, if_true]
  rw [b_app, evG_nil, b_ok]
  exact callM_v T f [d] s r [p] (by show (noRef d && true) = true; rw [hn]; rfl) hc rfl
def CRowS (m : List D → List RO → Option CR) : Prop := ∀ (plain : List (List Nat)) (es : List En) (row : List (List Nat)), ShOk plain es → (∀ x ∈ row, x ∈ es.map (·.1)) → row.length ≤ 120 → m [dSh plain es, .lst false (row.map dS)] [] = some (.ok (.lst true (row.map dS)) [none, none] [])
theorem crow_ok (T : Tab) (hC : CompS (T.call 19)) (hM : T.glo "MOST" = some (.int 120)) : CRowS (runF T 2 5 [] c_checked_row) := by
  intro plain es row hs hin hl
  have hlow : ∀ x ∈ es.map (·.1), low x := fun x hx => good_low (hs.gd x (List.mem_append_right _ hx))
  let sW : Option D → Option D → VS := fun a b => ⟨[some (dSh plain es), some (.lst false (row.map dS)), some (.lst true ((es.map (·.1)).map dS)), a, b], []⟩
  obtain ⟨s1, f1, y, z, rfl⟩ := forM_inv (Pn := []) (tg := [3, 4]) (b := VI.execs T [] [.ite (.or (.not (.pr (.isi "str") [.var 4])) (.pr .nmem [.var 4, .var 2])) [.never] []]) ((List.range (row.map dS).length).zipWith (fun (i : Nat) d => D.tup [.int (i : Int), d]) (row.map dS)) (fun _ s => ∃ y z, s = sW y z) (sW none none) ⟨none, none, rfl⟩ (by
    rintro i s d hd ⟨y, z, rfl⟩
    obtain ⟨x0, hx, rfl⟩ := enum_at hd
    rw [List.getElem?_map] at hx
    cases hp : row[i]? with
    | none => rw [hp] at hx; cases hx
    | some x =>
      rw [hp] at hx
      cases hx
      have hxc := hin x (List.mem_of_getElem? hp)
      refine ⟨by decide, _, rfl, .nx, sW (some (.int (i : Int))) (some (dS x)), ?_, .inl rfl, _, _, rfl⟩
      have hm : memO (dS x) (.lst true ((es.map (·.1)).map dS)) = some true := by
        rw [memO_strs true x _ (hlow x hxc) hlow, decide_eq_true hxc]
      have e1 : ev T (.or (.not (.pr (.isi "str") [.var 4])) (.pr .nmem [.var 4, .var 2])) (sW (some (.int (i : Int))) (some (dS x))) = some (.ok (.bl false) (sW (some (.int (i : Int))) (some (dS x)))) :=
        ok_or_f (ok_not (k := true) (q1 (d := .bl true) (by rfl) (x := dS x) (qv rfl) rfl rfl)) (q2 (by rfl) (x := dS x) (y := .lst true ((es.map (·.1)).map dS)) (qv rfl) (qv rfl) (by simp only [Pr.fn, fn2, hm, Option.map_some]; rfl) rfl)
      show VI.execs T [] _ (sW (some (.int (i : Int))) (some (dS x))) = _
      rw [xs_step (x_skip e1), xs_nil])
  unfold c_checked_row
  rw [runF_eq 2 5 _ [dSh plain es, .lst false (row.map dS)] [] rfl]
  show runR 2 [] (VI.execs T [] _ ⟨[some (dSh plain es), some (.lst false (row.map dS)), none, none, none], []⟩) = _
  rw [xs_step (x_skip (ok_not (k := true) (q1 (d := .bl true) (by rfl) (x := .lst false (row.map dS)) (qv rfl) rfl rfl)))]
  rw [xs_step (s1 := sW none none) (x_asg1 (ok_meth0 (d := dSh plain es) (qv rfl) (by rfl) (allF_Sh plain es) (noRef_Sh plain es) (hC plain es)) (by decide))]
  have e2 : srcM T .enum [.slc (.var 1) [] [.glo "MOST"]] (sW none none) = some (.ok ((List.range (row.map dS).length).zipWith (fun (i : Nat) d => D.tup [.int (i : Int), d]) (row.map dS)) (sW none none)) := by
    have e3 : ev T (.slc (.var 1) [] [.glo "MOST"]) (sW none none) = some (.ok (.lst true (row.map dS)) (sW none none)) := by
      rw [ev_slcv]
      show sR (some (some (.lst false (row.map dS)))) _ = _
      rw [sR_some, evP_nil, b_ok, evP_one, ev_glo, hM, qR_some]
      simp only [okF, allF, if_true, b_ok, iR_i, AV.get]
      show slR (some (.lst false (row.map dS))) _ _ _ = _
      rw [slR_some, show (120 : Int) = ((120 : Nat) : Int) from rfl, slD_lto _ _ 120 (allFs_S _), Option.map_some, ← List.map_take, List.take_of_length_le hl]
    rw [src_app, evs_one e3, b_ok, frzt]
    rfl
  rw [xs_step (s1 := sW y z) (by rw [x_for, e2, b_ok, f1])]
  have e4 : ev T (.pr .gt [.pr .len [.var 1], .glo "MOST"]) (sW y z) = some (.ok (.bl false) (sW y z)) := by
    refine q2 (by rfl) (x := .int ((row.map dS).length : Int)) (y := .int 120) (qp1 (x := .lst false (row.map dS)) (qv rfl) rfl) (by simp only [evq, hM]) ?_ rfl
    show some (D.bl (decide ((120 : Int) < ((row.map dS).length : Int)))) = _
    rw [List.length_map, decide_eq_false (by omega)]
  rw [xs_step (x_skip e4), x_retv (ok_listv (ds := row.map dS) (o := false) rfl (allFs_S _))]
  rfl
end VK

namespace VK
open VI
open PySem (PyData)
theorem least {P : Nat → Prop} : ∀ n, P n → ∃ j, j ≤ n ∧ P j ∧ ∀ i, i < j → ¬ P i := by
  intro n
  induction n using Nat.strongRecOn with
  | ind n ih =>
    intro h
    by_cases q : ∃ i, i < n ∧ P i
    · obtain ⟨i, hi, hp⟩ := q
      obtain ⟨j, h1, h2, h3⟩ := ih i hi hp
      exact ⟨j, by omega, h2, h3⟩
    · exact ⟨n, Nat.le_refl _, h, fun i hi hp => q ⟨i, hi, hp⟩⟩
theorem nextOf_is {row : List (List Nat)} {p j : Nat} (hp : p < row.length) (h : nextOf row p = some j) : p < j ∧ j < row.length ∧ row[j]? = row[p]? ∧ ∀ i, p < i → i < j → row[i]? ≠ row[p]? := by
  by_cases q : ∃ k, p < k ∧ k < row.length ∧ row[k]? = row[p]?
  · obtain ⟨k, hk⟩ := q
    obtain ⟨k0, h1, ⟨h2, h3, h4⟩, h5⟩ := least (P := fun k => p < k ∧ k < row.length ∧ row[k]? = row[p]?) k hk
    have hn : ∀ i, p < i → i < k0 → row[i]? ≠ row[p]? := fun i g1 g2 g3 => h5 i g2 ⟨g1, by omega, g3⟩
    have := nextOf_some hp h3 h2 h4 hn
    rw [h] at this
    cases this
    exact ⟨h2, h3, h4, hn⟩
  · rw [nextOf_none fun i g1 g2 g3 => q ⟨i, g1, g2, g3⟩] at h
    cases h
/-- what stands between two places -/
def btw (row : List (List Nat)) (p j : Nat) : List (List Nat) := (row.take j).drop (p + 1)
/-- tight, place by place -/
def okAt (rd : List Nat → List (List Nat)) (row : List (List Nat)) (p : Nat) : Bool := match row[p]?, nextOf row p with
  | some c, some j => fits rd c (btw row p j)
  | _, _ => true
def tightB (rd : List Nat → List (List Nat)) (row : List (List Nat)) : Bool := (List.range row.length).all (okAt rd row)
theorem tightB_true {rd : List Nat → List (List Nat)} {row : List (List Nat)} (h : ∀ p c j, row[p]? = some c → nextOf row p = some j → fits rd c (btw row p j) = true) : tightB rd row = true := by
  unfold tightB
  rw [List.all_eq_true]
  intro p hp
  unfold okAt
  split
  · rename_i c j h1 h2
    exact h p c j h1 h2
  · rfl
theorem tightB_false {rd : List Nat → List (List Nat)} {row : List (List Nat)} {p j : Nat} {c : List Nat} (hc : row[p]? = some c) (hj : nextOf row p = some j) (h : fits rd c (btw row p j) = false) : tightB rd row = false := by
  unfold tightB
  rw [List.all_eq_false]
  refine ⟨p, List.mem_range.mpr (List.getElem?_eq_some_iff.mp hc).1, ?_⟩
  unfold okAt
  rw [hc, hj]
  simp [h]
/-! dicts -/
theorem look_put : ∀ {ks : List L2.Key} {ds : List D} {k : L2.Key} {d : D} (k' : L2.Key), ks.length = ds.length → look ks (putAt ks ds k d) k' = if k' = k ∧ (look ks ds k).isSome = true then some d else look ks ds k'
  | [], [], k, d, k', _ => by simp [look, putAt]
  | [], _ :: _, _, _, _, h => by simp at h
  | _ :: _, [], _, _, _, h => by simp at h
  | a :: ks, x :: ds, k, d, k', h => by
    have ih := look_put (ks := ks) (ds := ds) (k := k) (d := d) k' (by simpa using h)
    simp only [putAt, look]
    rw [ih]
    by_cases e1 : a = k' <;> by_cases e2 : a = k <;> by_cases e3 : k' = k <;> simp_all
theorem look_snoc : ∀ {ks : List L2.Key} {ds : List D} {k : L2.Key} {d : D} (k' : L2.Key), ks.length = ds.length → look (ks ++ [k]) (ds ++ [d]) k' = match look ks ds k' with
    | some x => some x
    | none => if k = k' then some d else none
  | [], [], k, d, k', _ => by simp [look]
  | [], _ :: _, _, _, _, h => by simp at h
  | _ :: _, [], _, _, _, h => by simp at h
  | a :: ks, x :: ds, k, d, k', h => by
    have ih := look_snoc (ks := ks) (ds := ds) (k := k) (d := d) k' (by simpa using h)
    simp only [List.cons_append, look]
    rw [ih]
    by_cases e1 : a = k' <;> simp [e1]
theorem putAt_len : ∀ {ks : List L2.Key} {ds : List D} {k : L2.Key} {d : D}, ks.length = ds.length → (putAt ks ds k d).length = ks.length
  | [], [], _, _, _ => rfl
  | [], _ :: _, _, _, h => by simp at h
  | _ :: _, [], _, _, h => by simp at h
  | a :: ks, x :: ds, k, d, h => by
    simp only [putAt, List.length_cons, putAt_len (ks := ks) (ds := ds) (by simpa using h)]
theorem setd_any (ks : List L2.Key) (ds : List D) (l : List Nat) (d : D) (he : ks.length = ds.length) (hl : ks.length < lim) : ∃ ks' ds', Mp.fn .setd (.dic true ks ds) [d, dS l] = some (.dic true ks' ds', .non) ∧ ks'.length = ds'.length ∧ ks'.length ≤ ks.length + 1 ∧
    ∀ k', look ks' ds' k' = if k' = ky l then some d else look ks ds k' := by
  have e : keyOf (dS l) = some (ky l) := rfl
  cases hk : (look ks ds (ky l)).isSome with
  | true =>
    refine ⟨ks, putAt ks ds (ky l) d, ?_, (putAt_len he).symm, by omega, fun k' => ?_⟩
    · simp only [Mp.fn, e, Option.bind_some, if_pos hl, hk, if_true]
    · rw [look_put k' he, hk]
      simp
  | false =>
    refine ⟨ks ++ [ky l], ds ++ [d], ?_, by simp [he], by simp, fun k' => ?_⟩
    · simp only [Mp.fn, e, Option.bind_some, if_pos hl, hk, Bool.false_eq_true, if_false]
    · have hn : look ks ds (ky l) = none := by simpa using hk
      rw [look_snoc k' he]
      by_cases q : k' = ky l
      · subst q
        rw [hn]
      · rw [if_neg q]
        cases look ks ds k' with
        | some x => rfl
        | none => simp [Ne.symm q]
/-! membership in tuples -/
theorem all_flat : ∀ ls : List (List Nat), (ls.map dS).all flatD = true
  | [] => rfl
  | l :: ls => by rw [List.map_cons, List.all_cons, all_flat ls]; rfl
theorem eqF_S (a b : List Nat) : eqF (dS a) (dS b) = decide (a = b) := by
  show (S a == S b) = _
  by_cases h : a = b
  · subst h; simp
  · have : ¬ S a = S b := fun e => h (S_inj e)
    simp [h, this]
theorem memO_tup (x : List Nat) (ls : List (List Nat)) : memO (dS x) (.tup (ls.map dS)) = some (decide (x ∈ ls)) := by
  show (if flatD (dS x) && (ls.map dS).all flatD then some ((ls.map dS).any fun y => eqF y (dS x)) else memT (dS x) (ls.map dS)) = _
  rw [all_flat]
  show some _ = _
  congr 1
  induction ls with
  | nil => simp
  | cons l ls ih =>
    rw [List.map_cons, List.any_cons, ih, eqF_S]
    by_cases h : l = x
    · subst h; simp
    · have h2 : ¬ x = l := fun e => h e.symm
      simp [h, h2]
end VK

namespace VK
open VI
open PySem (PyData)
theorem slD_l2 (o : Bool) (ds : List D) (a b : Nat) (ha : allFs ds = true) (h1 : a ≤ ds.length) (h2 : b ≤ ds.length) : slD (.lst o ds) (some (a : Int)) (some (b : Int)) = some (.lst true ((ds.take b).drop a)) := by
  show (if allFs ds then some (D.lst true (cutD ds (some (a : Int)) (some (b : Int)))) else none) = _
  rw [if_pos ha]
  unfold cutD
  rw [HT.sIx_nat, HT.sIx_nat, Nat.min_eq_left h1, Nat.min_eq_left h2, List.drop_take]
def TightS (m : List D → List RO → Option CR) : Prop := ∀ (dd : D) (cells : List (List Nat)) (rd : List Nat → List (List Nat)) (row : List (List Nat)), RdOk dd cells rd → (∀ x ∈ row, x ∈ cells) → row.length ≤ 1000 → m [dd, .lst false (row.map dS)] [] = some (.ok (.bl (tightB rd row)) [none, none] [])
abbrev sT (dd : D) (row : List (List Nat)) (K : List L2.Key) (V : List D) (y3 y4 : Option D) : VS := ⟨[some dd, some (.lst false (row.map dS)), some (.dic true K V), y3, y4], []⟩
structure LastI (row : List (List Nat)) (i : Nat) (K : List L2.Key) (V : List D) : Prop where
  l1 : K.length = V.length
  l2 : K.length ≤ i
  no : ∀ c, look K V (ky c) = none → ∀ j, j < i → row[j]? ≠ some c
  yes : ∀ c d, look K V (ky c) = some d → ∃ j, j < i ∧ d = .int (j : Int) ∧ row[j]? = some c ∧ ∀ q, j < q → q < i → row[q]? ≠ some c
theorem LastI.next {row : List (List Nat)} {i : Nat} {K K' : List L2.Key} {V V' : List D} {c : List Nat} (h : LastI row i K V) (hc : row[i]? = some c) (e1 : K'.length = V'.length) (e2 : K'.length ≤ K.length + 1) (e3 : ∀ k', look K' V' k' = if k' = ky c then some (.int (i : Int)) else look K V k') : LastI row (i + 1) K' V' := by
  refine ⟨e1, by have := h.l2; omega, fun a ha j hj => ?_, fun a d ha => ?_⟩
  · rw [e3] at ha
    by_cases q : ky a = ky c
    · rw [if_pos q] at ha; cases ha
    · rw [if_neg q] at ha
      by_cases hji : j = i
      · subst hji
        rw [hc]
        exact fun z => q (congrArg ky (Option.some.inj z).symm)
      · exact h.no a ha j (by omega)
  · rw [e3] at ha
    by_cases q : ky a = ky c
    · rw [if_pos q] at ha
      cases ha
      have := ky_inj q
      subst this
      exact ⟨i, by omega, rfl, hc, fun r g1 g2 => by omega⟩
    · rw [if_neg q] at ha
      obtain ⟨j, h1, h2, h3, h4⟩ := h.yes a d ha
      refine ⟨j, by omega, h2, h3, fun r g1 g2 => ?_⟩
      by_cases hri : r = i
      · subst hri
        rw [hc]
        exact fun z => q (congrArg ky (Option.some.inj z).symm)
      · exact h4 r g1 (by omega)
theorem map_btw (row : List (List Nat)) (j i : Nat) : ((row.map dS).take i).drop (j + 1) = (btw row j i).map dS := by
  unfold btw
  rw [List.map_drop, List.map_take]
theorem tight_test (T : Tab) (hP : PairS (T.call 14)) {dd : D} {cells : List (List Nat)} {rd : List Nat → List (List Nat)} {row : List (List Nat)} (hr : RdOk dd cells rd) (hin : ∀ x ∈ row, x ∈ cells) (hl : row.length ≤ 1000) {i j : Nat} {c : List Nat} {K : List L2.Key} {V : List D} (hc : row[i]? = some c) (hji : j < i) (hk : look K V (ky c) = some (.int (j : Int))) :
    ev T (.and (.pr .memd [.var 4, .var 2]) (.not (.call 14 [.frv 0, .frv 4, .slc (.var 1) [.pr .add [.pr .ixd [.var 2, .var 4], .con (.int 1)]] [.frv 3]]))) (sT dd row K V (some (.int (i : Int))) (some (dS c))) =
      some (.ok (.bl (!fits rd c (btw row j i))) (sT dd row K V (some (.int (i : Int))) (some (dS c)))) := by
  have hi : i < row.length := (List.getElem?_eq_some_iff.mp hc).1
  let sA : VS := sT dd row K V (some (.int (i : Int))) (some (dS c))
  have e1 : ev T (.pr .memd [.var 4, .var 2]) sA = some (.ok (.bl true) sA) := by
    refine q2 (by rfl) (x := dS c) (y := .dic true K V) (qv rfl) (qv rfl) ?_ rfl
    show ((keyOf (dS c)).map fun k => (look K V k).isSome).map D.bl = _
    rw [show keyOf (dS c) = some (ky c) from rfl, Option.map_some, hk]
    rfl
  have e2 : ev T (.pr .add [.pr .ixd [.var 2, .var 4], .con (.int 1)]) sA = some (.ok (.int ((j + 1 : Nat) : Int)) sA) := by
    have e0 : ev T (.pr .ixd [.var 2, .var 4]) sA = some (.ok (.int (j : Int)) sA) := by
      refine q2 (by rfl) (x := .dic true K V) (y := dS c) (qv rfl) (qv rfl) ?_ rfl
      show ((keyOf (dS c)).bind fun k => (look K V k).bind okA) = _
      rw [show keyOf (dS c) = some (ky c) from rfl, Option.bind_some, hk]
      rfl
    rw [ev_prg _ _ _ (by rfl), evA_cons (.pr .ixd _) _ _ (fun _ h => nomatch h), e0, b_ok, evA_cons (.con _) [] _ (fun _ h => nomatch h), ev_con]
    simp only [okF, allF, if_true, b_ok, evA_nil, AV.gets, AV.get, gR_some, Pr.fn, fn2, frz, addD_ii, Option.map_some]
    rfl
  have e3 : ev T (.slc (.var 1) [.pr .add [.pr .ixd [.var 2, .var 4], .con (.int 1)]] [.frv 3]) sA = some (.ok (.lst true ((btw row j i).map dS)) sA) := by
    rw [ev_slcv]
    show sR (some (some (.lst false (row.map dS)))) _ = _
    rw [sR_some, evP_one, e2, b_ok, iR_i, b_ok, evP_one, frv_same (d := .int (i : Int)) rfl rfl, b_ok, iR_i, b_ok]
    show slR (some (.lst false (row.map dS))) _ _ _ = _
    rw [slR_some, slD_l2 _ _ _ _ (allFs_S _) (by rw [List.length_map]; omega) (by rw [List.length_map]; omega), Option.map_some, map_btw]
  have hg := g3 (T := T) (a := .frv 0) (b := .frv 4) (c := .slc (.var 1) [.pr .add [.pr .ixd [.var 2, .var 4], .con (.int 1)]] [.frv 3]) (s := sA) (fun _ h => nomatch h) (fun _ h => nomatch h) (fun _ h => nomatch h) (frv_same (d := dd) rfl (frz_id _ hr.fr)) (frv_same (d := dS c) rfl rfl) e3
  rw [frz_id _ hr.fr, frzt] at hg
  have hcc := hin c (List.mem_of_getElem? hc)
  refine ok_and_t e1 (ok_not (ok_call hg ?_ (hP dd cells rd c (btw row j i) hr hcc (fun o ho => hin o ?_) ?_) rfl))
  · show (noRef dd && (noRef (dS c) && (noRefs ((btw row j i).map dS) && true))) = true
    rw [hr.nr, noRefs_S]
    rfl
  · exact List.mem_of_mem_take (List.mem_of_mem_drop ho)
  · unfold btw
    rw [List.length_drop, List.length_take]
    omega
theorem tight_ok (T : Tab) (hP : PairS (T.call 14)) : TightS (runF T 2 5 [] c_law_tight) := by
  intro dd cells rd row hr hin hl
  have hlim : lim = 1000000 := rfl
  unfold c_law_tight
  rw [runF_eq 2 5 _ [dd, .lst false (row.map dS)] [] rfl]
  show runR 2 [] (VI.execs T [] _ ⟨[some dd, some (.lst false (row.map dS)), none, none, none], []⟩) = _
  rw [xs_step (s1 := sT dd row [] [] none none) rfl]
  rcases forM_ret (Pn := []) (tg := [3, 4]) (b := VI.execs T [] [.ite (.and (.pr .memd [.var 4, .var 2]) (.not (.call 14 [.frv 0, .frv 4, .slc (.var 1) [.pr .add [.pr .ixd [.var 2, .var 4], .con (.int 1)]] [.frv 3]]))) [.ret (.con (.bl false))] [], .setS .setd 2 (.frv 4) (.frv 3)]) ((List.range (row.map dS).length).zipWith (fun (i : Nat) d => D.tup [.int (i : Int), d]) (row.map dS))
    (fun i s => (∃ K V y3 y4, s = sT dd row K V y3 y4 ∧ LastI row i K V) ∧ ∀ p c j, row[p]? = some c → nextOf row p = some j → j < i → fits rd c (btw row p j) = true)
    (fun i r s => r = .bl false ∧ s.μ = [] ∧ ∃ p j c, row[p]? = some c ∧ nextOf row p = some j ∧ fits rd c (btw row p j) = false) (sT dd row [] [] none none)
    ⟨⟨[], [], none, none, rfl, rfl, Nat.le_refl _, fun c _ j hj => by omega, fun c d h => by simp [look] at h⟩, fun p c j _ _ h => by omega⟩ (by
      rintro i s d hd ⟨⟨K, V, y3, y4, rfl, hL⟩, hT⟩
      obtain ⟨x0, hx, rfl⟩ := enum_at hd
      rw [List.getElem?_map] at hx
      cases hp : row[i]? with
      | none => rw [hp] at hx; cases hx
      | some c =>
        rw [hp] at hx
        cases hx
        have hi : i < row.length := (List.getElem?_eq_some_iff.mp hp).1
        let sA : VS := sT dd row K V (some (.int (i : Int))) (some (dS c))
        refine ⟨by decide, _, rfl, ?_⟩
        obtain ⟨K', V', s1, s2, s3, s4⟩ := setd_any K V c (.int (i : Int)) hL.l1 (by have := hL.l2; omega)
        have hset : VI.exec T [] (.setS .setd 2 (.frv 4) (.frv 3)) sA = some (.ok .nx (sT dd row K' V' (some (.int (i : Int))) (some (dS c)))) :=
          x_setS (m := .setd) (i := 2) (k := .frv 4) (e := .frv 3) (s := sA) (s1 := sA) (o := .dic true K V) (o1 := .dic true K V) (ds := [.int (i : Int), dS c]) rfl rfl (evs_two (frv_same (d := .int (i : Int)) rfl rfl) (frv_same (d := dS c) rfl rfl)) rfl s1
        have hL' := hL.next hp s2 s3 s4
        have go : ev T (.and (.pr .memd [.var 4, .var 2]) (.not (.call 14 [.frv 0, .frv 4, .slc (.var 1) [.pr .add [.pr .ixd [.var 2, .var 4], .con (.int 1)]] [.frv 3]]))) sA = some (.ok (.bl false) sA) → VI.execs T [] [.ite (.and (.pr .memd [.var 4, .var 2]) (.not (.call 14 [.frv 0, .frv 4, .slc (.var 1) [.pr .add [.pr .ixd [.var 2, .var 4], .con (.int 1)]] [.frv 3]]))) [.ret (.con (.bl false))] [], .setS .setd 2 (.frv 4) (.frv 3)] sA = some (.ok .nx (sT dd row K' V' (some (.int (i : Int))) (some (dS c)))) := fun e => by
          rw [xs_step (x_skip e), xs_step hset, xs_nil]
        cases hk : look K V (ky c) with
        | none =>
          have e1 : ev T (.pr .memd [.var 4, .var 2]) sA = some (.ok (.bl false) sA) := by
            refine q2 (by rfl) (x := dS c) (y := .dic true K V) (qv rfl) (qv rfl) ?_ rfl
            show ((keyOf (dS c)).map fun k => (look K V k).isSome).map D.bl = _
            rw [show keyOf (dS c) = some (ky c) from rfl, Option.map_some, hk]
            rfl
          refine .inr ⟨.nx, _, go (ok_and_f e1), .inl rfl, ⟨K', V', _, _, rfl, hL'⟩, fun p a j h1 h2 h3 => ?_⟩
          by_cases hj : j = i
          · subst hj
            obtain ⟨g1, g2, g3, g4⟩ := nextOf_is (List.getElem?_eq_some_iff.mp h1).1 h2
            rw [hp, h1] at g3
            cases g3
            exact absurd h1 (hL.no c hk p g1)
          · exact hT p a j h1 h2 (by omega)
        | some d0 =>
          obtain ⟨j, h1, rfl, h3, h4⟩ := hL.yes c d0 hk
          have et := tight_test T hP hr hin hl hp h1 hk
          have hnx : nextOf row j = some i := nextOf_some (by omega) hi h1 (by rw [hp, h3]) fun q g1 g2 => by rw [h3]; exact h4 q g1 g2
          cases hf : fits rd c (btw row j i) with
          | true =>
            rw [hf] at et
            refine .inr ⟨.nx, _, go et, .inl rfl, ⟨K', V', _, _, rfl, hL'⟩, fun p a j' g1 g2 g3 => ?_⟩
            by_cases hj : j' = i
            · subst hj
              obtain ⟨q1, q2, q3, q4⟩ := nextOf_is (List.getElem?_eq_some_iff.mp g1).1 g2
              rw [hp, g1] at q3
              cases q3
              have : p = j := by
                by_cases hlt : p < j
                · exact absurd (by rw [h3, g1] : row[j]? = row[p]?) (q4 j hlt h1)
                · by_cases hgt : j < p
                  · exact absurd g1 (h4 p hgt q1)
                  · omega
              subst this
              exact hf
            · exact hT p a j' g1 g2 (by omega)
          | false =>
            rw [hf] at et
            refine .inl ⟨.bl false, sA, ?_, rfl, rfl, j, i, c, h3, hnx, hf⟩
            show VI.execs T [] _ sA = _
            rw [xs_cons, x_if_true et, x_retv (d := .bl false) (s1 := sA) rfl, b_ok, seq_rt, ret_app]) with ⟨i, r, s', hi, e, rfl, hμ, p, j, c, g1, g2, g3⟩ | ⟨s', e, ⟨K, V, y3, y4, rfl, hL⟩, hT⟩
  · rw [xs_cons, for_enum (ds := row.map dS) rfl (frzs_S row), e, b_ok, seq_rt, tightB_false g1 g2 g3]
    show some (CR.ok _ _ s'.μ) = _
    rw [hμ]
    rfl
  · rw [enum_len, List.length_map] at hT
    rw [tightB_true fun p c j g1 g2 => hT p c j g1 g2 (nextOf_is (List.getElem?_eq_some_iff.mp g1).1 g2).2.1]
    rw [xs_step ((for_enum (ds := row.map dS) rfl (frzs_S row)).trans e)]
    rfl
end VK

namespace VK
open VI
open PySem (PyData)
def ThinS (m : List D → List RO → Option CR) : Prop := ∀ (dd : D) (cells : List (List Nat)) (rd : List Nat → List (List Nat)) (row : List (List Nat)), RdOk dd cells rd → (∀ x ∈ row, x ∈ cells) → row.length ≤ 900 → ∃ r : List (List Nat), (∀ x ∈ r, x ∈ row) ∧ r.length ≤ row.length ∧ m [dd, .lst false (row.map dS)] [] = some (.ok (.lst true (r.map dS)) [none, none] [])
abbrev sX (dd : D) (row r : List (List Nat)) (y : Option D) : VS := ⟨[some dd, some (.lst false (row.map dS)), some (.lst true (r.map dS)), y], []⟩
theorem thin_ok (T : Tab) (hT : TightS (T.call 15)) : ThinS (runF T 2 4 [] c_law_thinned) := by
  intro dd cells rd row hr hin hl
  have hlim : lim = 1000000 := rfl
  obtain ⟨s', f1, r, y, rfl, hr1, hr2⟩ := forM_inv (Pn := []) (tg := [3]) (b := VI.execs T [] [.ite (.call 15 [.frv 0, .pr .add [.var 2, .lst [.frv 3]]]) [.ex (.mt .app (.var 2) [.frv 3])] []]) (row.map dS) (fun i s => ∃ r y, s = sX dd row r y ∧ (∀ x ∈ r, x ∈ row) ∧ r.length ≤ i) (sX dd row [] none) ⟨[], none, rfl, (fun _ h => nomatch h), Nat.le_refl _⟩ (by
    rintro i s d hd ⟨r, y, rfl, h1, h2⟩
    rw [List.getElem?_map] at hd
    cases hp : row[i]? with
    | none => rw [hp] at hd; cases hd
    | some x =>
      rw [hp] at hd
      cases hd
      have hi : i < row.length := (List.getElem?_eq_some_iff.mp hp).1
      have hx : x ∈ row := List.mem_of_getElem? hp
      let sA : VS := sX dd row r (some (dS x))
      have e1 : ev T (.pr .add [.var 2, .lst [.frv 3]]) sA = some (.ok (.lst true ((r ++ [x]).map dS)) sA) := by
        have e0 : ev T (.lst [.frv 3]) sA = some (.ok (.lst true ([x].map dS)) sA) := by
          rw [ev_lst, evs_one (frv_same (d := dS x) rfl rfl), b_ok]
          rfl
        rw [ev_prg _ _ _ (by rfl), evA_var, show sA.ρ[2]? = some (some (.lst true (r.map dS))) from rfl, sR_some, evA_cons (.lst _) [] _ (fun _ h => nomatch h), e0, b_ok, evA_nil, b_ok, b_ok, b_ok, frzt]
        show gR _ (some [.lst true (r.map dS), .lst false ([x].map dS)]) _ = _
        simp only [gR_some, Pr.fn, fn2]
        rw [addD_l _ _ _ _ (allFs_S _) (allFs_S _) (by simp only [List.length_map, List.length_singleton]; omega), Option.map_some, ← List.map_append]
      have hin2 : ∀ z ∈ r ++ [x], z ∈ cells := fun z hz => by
        rcases List.mem_append.mp hz with h | h
        · exact hin z (h1 z h)
        · rw [List.mem_singleton.mp h]; exact hin x hx
      have hg := g2 (T := T) (a := .frv 0) (b := .pr .add [.var 2, .lst [.frv 3]]) (s := sA) (fun _ h => nomatch h) (fun _ h => nomatch h) (frv_same (d := dd) rfl (frz_id _ hr.fr)) e1
      rw [frz_id _ hr.fr, frzt] at hg
      have e2 := ok_call (T := T) (f := 15) hg (by
        show (noRef dd && (noRefs ((r ++ [x]).map dS) && true)) = true
        rw [hr.nr, noRefs_S]
        rfl) (hT dd cells rd (r ++ [x]) hr hin2 (by rw [List.length_append, List.length_singleton]; omega)) rfl
      refine ⟨by decide, _, rfl, ?_⟩
      show ∃ fl s', VI.execs T [] _ sA = _ ∧ _
      cases ht : tightB rd (r ++ [x]) with
      | true =>
        rw [ht] at e2
        refine ⟨.nx, sX dd row (r ++ [x]) (some (dS x)), ?_, .inl rfl, r ++ [x], _, rfl, fun z hz => ?_, by rw [List.length_append, List.length_singleton]; omega⟩
        · rw [xs_step (s1 := sX dd row (r ++ [x]) (some (dS x))) (by
            rw [x_if_true e2, xs_step (x_exp (ev_mt_ok (o := .lst true (r.map dS)) rfl rfl (evs_one (frv_same (d := dS x) rfl rfl)) rfl (app_ok _ _ (by rw [List.length_map]; omega)))), xs_nil]
            unfold sX
            rw [List.map_append]
            rfl), xs_nil]
        · rcases List.mem_append.mp hz with h | h
          · exact h1 z h
          · rw [List.mem_singleton.mp h]; exact hx
      | false =>
        rw [ht] at e2
        refine ⟨.nx, sA, ?_, .inl rfl, r, _, rfl, h1, by omega⟩
        rw [xs_step (x_skip e2), xs_nil])
  rw [List.length_map] at hr2
  refine ⟨r, hr1, hr2, ?_⟩
  unfold c_law_thinned
  rw [runF_eq 2 4 _ [dd, .lst false (row.map dS)] [] rfl]
  show runR 2 [] (VI.execs T [] _ ⟨[some dd, some (.lst false (row.map dS)), none, none], []⟩) = _
  rw [xs_step (s1 := sX dd row [] none) rfl, xs_step ((for_val (ds := row.map dS) rfl (frzs_S row)).trans f1)]
  rfl
/-! what the entries say of reading -/
def rdOf (es : List En) (c : List Nat) : List (List Nat) := match es with
  | [] => []
  | e :: es => if e.1 = c then e.2 else rdOf es c
theorem look_rdD : ∀ {es : List En} {c : List Nat}, c ∈ es.map (·.1) → look ((es.map (·.1)).map ky) (es.map fun e => D.tup (e.2.map dS)) (ky c) = some (.tup ((rdOf es c).map dS))
  | [], _, h => by simp at h
  | e :: es, c, h => by
    simp only [List.map_cons, look, rdOf]
    by_cases q : e.1 = c
    · rw [if_pos (congrArg ky q), if_pos q]
    · rw [if_neg (fun z => q (ky_inj z)), if_neg q]
      exact look_rdD (by
        rcases List.mem_cons.mp h with h | h
        · exact absurd h.symm q
        · exact h)
theorem look_rdE : ∀ {es : List En} {c : List Nat}, c ∈ es.map (·.1) → look ((es.map (·.1)).map ky) (es.map fun e => D.lst false (e.2.map dS)) (ky c) = some (.lst false ((rdOf es c).map dS))
  | [], _, h => by simp at h
  | e :: es, c, h => by
    simp only [List.map_cons, look, rdOf]
    by_cases q : e.1 = c
    · rw [if_pos (congrArg ky q), if_pos q]
    · rw [if_neg (fun z => q (ky_inj z)), if_neg q]
      exact look_rdE (by
        rcases List.mem_cons.mp h with h | h
        · exact absurd h.symm q
        · exact h)
theorem rdOf_none : ∀ {es : List En} {c : List Nat}, c ∉ es.map (·.1) → rdOf es c = []
  | [], _, _ => rfl
  | e :: es, c, h => by
    unfold rdOf
    rw [if_neg (fun q => h (by rw [← q]; exact List.mem_cons_self))]
    exact rdOf_none fun z => h (List.mem_cons_of_mem _ z)
theorem rdOf_mem : ∀ {es : List En} {c x : List Nat}, x ∈ rdOf es c → ∃ e ∈ es, x ∈ e.2
  | [], _, _, h => by simp [rdOf] at h
  | e :: es, c, x, h => by
    unfold rdOf at h
    by_cases q : e.1 = c
    · rw [if_pos q] at h
      exact ⟨e, List.mem_cons_self, h⟩
    · rw [if_neg q] at h
      obtain ⟨e', h1, h2⟩ := rdOf_mem h
      exact ⟨e', List.mem_cons_of_mem _ h1, h2⟩
theorem look_plain : ∀ {plain : List (List Nat)} {K : List L2.Key} {V : List D} {c : List Nat}, look (plain.map ky ++ K) ((plain.map fun _ => D.lst false []) ++ V) (ky c) = if c ∈ plain then some (.lst false []) else look K V (ky c)
  | [], _, _, _ => by simp
  | a :: plain, K, V, c => by
    simp only [List.map_cons, List.cons_append, look]
    by_cases q : a = c
    · subst q; simp
    · rw [if_neg (fun z => q (ky_inj z)), look_plain]
      have : ¬ c = a := fun z => q z.symm
      simp [this]
theorem allFs_V (plain : List (List Nat)) : ∀ es : List En, allFs ((plain.map fun _ => D.lst false []) ++ es.map fun e => D.lst false (e.2.map dS)) = true := by
  intro es
  induction plain with
  | nil =>
    simp only [List.map_nil, List.nil_append]
    induction es with
    | nil => rfl
    | cons e es ih =>
      show ((!false && allFs (e.2.map dS)) && _) = true
      rw [ih, allFs_S]
      rfl
  | cons a p ih =>
    show (true && _) = true
    rw [Bool.true_and]
    exact ih
theorem noRefs_V (plain : List (List Nat)) : ∀ es : List En, noRefs ((plain.map fun _ => D.lst false []) ++ es.map fun e => D.lst false (e.2.map dS)) = true := by
  intro es
  induction plain with
  | nil =>
    simp only [List.map_nil, List.nil_append]
    induction es with
    | nil => rfl
    | cons e es ih =>
      show (noRefs (e.2.map dS) && _) = true
      rw [ih, noRefs_S]
      rfl
  | cons a p ih =>
    show (true && _) = true
    rw [Bool.true_and]
    exact ih
def dRd (plain : List (List Nat)) (es : List En) : D := .dic false (rdK plain es) (rdV plain es)
theorem rd_ok {plain : List (List Nat)} {es : List En} (h : ShOk plain es) : RdOk (dRd plain es) (plain ++ es.map (·.1)) (rdOf es) where
  at_ := ⟨_, _, rfl, fun c hc => by
    unfold rdK rdV
    rw [List.map_append, look_plain]
    by_cases q : c ∈ plain
    · rw [if_pos q, rdOf_none fun z => (List.nodup_append.mp h.nd).2.2 c q c z rfl]
      rfl
    · rw [if_neg q]
      exact look_rdE ((List.mem_append.mp hc).resolve_left q)⟩
  low := fun c hc => good_low (h.gd c hc)
  sub := fun c hc x hx => by
    obtain ⟨e, h1, h2⟩ := rdOf_mem hx
    rcases List.mem_append.mp ((h.en e h1).2 x h2) with z | z
    · exact List.mem_append_right _ z
    · exact List.mem_append_left _ z
  fr := allFs_V plain es
  nr := noRefs_V plain es
end VK

namespace VK
open VI
open PySem (PyData)
theorem any_filter (t : List Nat → Bool) : ∀ l : List (List Nat), l.any t = !decide (l.filter t = [])
  | [] => rfl
  | a :: l => by
    rw [List.any_cons, any_filter t l, List.filter_cons]
    cases h : t a with
    | true => simp
    | false => simp
theorem boolsD_map {α : Type} (t : α → Bool) : ∀ l : List α, boolsD (l.map fun o => D.bl (t o)) = some (l.map t)
  | [] => rfl
  | a :: l => by simp only [List.map_cons, boolsD, boolsD_map t l, Option.map_some]
theorem frzs_bl {α : Type} (t : α → Bool) : ∀ l : List α, frzs (l.map fun o => D.bl (t o)) = l.map fun o => D.bl (t o)
  | [] => rfl
  | a :: l => by
    show D.bl (t a) :: frzs (l.map fun o => D.bl (t o)) = _
    rw [frzs_bl t l]
    rfl
theorem any_map {α : Type} (t : α → Bool) (l : List α) : (l.map t).any id = l.any t := by
  rw [List.any_map]
  rfl
/-- [t x for x in l]: tests -/
theorem lc_tests {T : Tab} {e : Ex} {tg : Nat} (t : List Nat → Bool) (l : List (List Nat)) (hl : l.length < lim) (I : VS → Prop) (s : VS) (h0 : I s)
    (st : ∀ (s : VS) (x : List Nat), x ∈ l → I s → ∃ s', ev T e ⟨s.ρ.set tg (some (dS x)), s.μ⟩ = some (.ok (.bl (t x)) s') ∧ I s') :
    ∃ s', loopC (lcBody [tg] (evc T []) (ev T e)) (l.map dS) [] s = some (.ok (l.map fun o => .bl (t o)) s') ∧ I s' := by
  obtain ⟨ds, s', e1, rfl, hI⟩ := loopC_inv (f := lcBody [tg] (evc T []) (ev T e)) (l.map dS) (fun i acc s => acc = (l.take i).map (fun o => .bl (t o)) ∧ I s) [] s ⟨rfl, h0⟩ (by
    rintro i acc s d hd ⟨rfl, hI⟩
    rw [List.getElem?_map] at hd
    cases hx : l[i]? with
    | none => rw [hx] at hd; cases hd
    | some x =>
      rw [hx] at hd
      cases hd
      have hi : i < l.length := (List.getElem?_eq_some_iff.mp hx).1
      obtain ⟨s1, e2, h1⟩ := st s x (List.mem_of_getElem? hx) hI
      refine ⟨some (.bl (t x)), s1, ?_, ?_, ?_, h1⟩
      · rw [lcBody_1, evc_nil, b_ok]
        simp only [if_true]
        rw [e2, b_ok]
        rfl
      · rw [List.length_map, List.length_take]; omega
      · rw [take_snoc hx, List.map_append]; rfl)
  rw [List.length_map, List.take_length] at e1
  exact ⟨s', e1, hI⟩
theorem ok_any {T : Tab} {tg : List Nat} {sk : Sk} {src cs : List Ex} {e : Ex} {s s1 : VS} {t : List Nat → Bool} {l : List (List Nat)} (h : ev T (.lc tg sk src cs e) s = some (.ok (.lst true (l.map fun o => .bl (t o))) s1)) : ev T (.pr .any [.lc tg sk src cs e]) s = some (.ok (.bl (l.any t)) s1) := by
  rw [ev_prg _ _ _ (by rfl), evA_cons (.lc _ _ _ _ _) _ _ (fun _ h => nomatch h), h, b_ok, evA_nil, b_ok, b_ok]
  simp only [AV.gets, AV.get, gR_some, Pr.fn, fn1, frz, frzs_bl, anyD, boolsD_map, Option.map_some, any_map]
def ShortS (m : List D → List RO → Option CR) : Prop := ∀ (plain : List (List Nat)) (es : List En) (row : List (List Nat)), ShOk plain es → (∀ x ∈ row, x ∈ es.map (·.1)) → row.length ≤ 120 → ∃ r, m [dSh plain es, .lst false (row.map dS)] [] = some (.ok r [none, none] []) ∧ isNon r = tightB (rdOf es) row
abbrev sH (plain : List (List Nat)) (es : List En) (row : List (List Nat)) (a2 a3 a4 a5 a6 a7 : Option D) : VS := ⟨[some (dSh plain es), some (.lst false (row.map dS)), a2, a3, a4, a5, a6, a7], []⟩
theorem reading_at {plain : List (List Nat)} {es : List En} {c : List Nat} (hc : c ∈ es.map (·.1)) : ixdD (rdD es) (dS c) = some (.tup ((rdOf es c).map dS)) := by
  show ((keyOf (dS c)).bind fun k => (look ((es.map (·.1)).map ky) (es.map fun e => D.tup (e.2.map dS)) k).bind okA) = _
  rw [show keyOf (dS c) = some (ky c) from rfl, Option.bind_some, look_rdD hc, Option.bind_some]
  show (if allFs ((rdOf es c).map dS) then _ else _) = _
  rw [allFs_S]
  rfl
theorem short_tests (T : Tab) {plain : List (List Nat)} {es : List En} {row bt : List (List Nat)} (hs : ShOk plain es) (hb : ∀ o ∈ bt, o ∈ es.map (·.1)) (hl : bt.length ≤ 120) {c : List Nat} (hc : c ∈ es.map (·.1)) (a2 a4 a7 : Option D) (o6 : Bool) :
    ∃ b7, ev T (.not (.pr .any [.lc [7] .val [.frv 6] [] (.pr .mem [.var 7, .var 5])])) (sH plain es row a2 (some (dS c)) a4 (some (.tup ((rdOf es c).map dS))) (some (.lst o6 (bt.map dS))) a7) =
        some (.ok (.bl (!bt.any fun o => decide (o ∈ rdOf es c))) (sH plain es row a2 (some (dS c)) a4 (some (.tup ((rdOf es c).map dS))) (some (.lst false (bt.map dS))) b7)) ∧
      ∃ c7, ev T (.not (.pr .any [.lc [7] .val [.frv 6] [] (.pr .mem [.var 3, .pr .ixd [.fld "Shape" (.var 0) "reading", .var 7]])])) (sH plain es row a2 (some (dS c)) a4 (some (.tup ((rdOf es c).map dS))) (some (.lst o6 (bt.map dS))) a7) =
        some (.ok (.bl (!bt.any fun o => decide (c ∈ rdOf es o))) (sH plain es row a2 (some (dS c)) a4 (some (.tup ((rdOf es c).map dS))) (some (.lst false (bt.map dS))) c7)) := by
  have hlim : lim = 1000000 := rfl
  have hsrc : ∀ x7 : Option D, srcM T .val [.frv 6] (sH plain es row a2 (some (dS c)) a4 (some (.tup ((rdOf es c).map dS))) (some (.lst o6 (bt.map dS))) x7) = some (.ok (bt.map dS) (sH plain es row a2 (some (dS c)) a4 (some (.tup ((rdOf es c).map dS))) (some (.lst false (bt.map dS))) x7)) := fun x7 => by
    rw [src_app, evs_one (d := .lst false (bt.map dS)) (s1 := sH plain es row a2 (some (dS c)) a4 (some (.tup ((rdOf es c).map dS))) (some (.lst false (bt.map dS))) x7) (by
      rw [ev_frv]
      show sR (some (some (.lst o6 (bt.map dS)))) _ = _
      rw [sR_some]
      simp only [frz, frzs_S]
      rfl), b_ok, frzl]
    rfl
  obtain ⟨s1, e1, y1, rfl⟩ := lc_tests (T := T) (e := .pr .mem [.var 7, .var 5]) (tg := 7) (fun o => decide (o ∈ rdOf es c)) bt (by omega) (fun s => ∃ y, s = sH plain es row a2 (some (dS c)) a4 (some (.tup ((rdOf es c).map dS))) (some (.lst false (bt.map dS))) y) (sH plain es row a2 (some (dS c)) a4 (some (.tup ((rdOf es c).map dS))) (some (.lst false (bt.map dS))) none) ⟨_, rfl⟩ (by
    rintro s x hx ⟨y, rfl⟩
    exact ⟨sH plain es row a2 (some (dS c)) a4 (some (.tup ((rdOf es c).map dS))) (some (.lst false (bt.map dS))) (some (dS x)), q2 (by rfl) (x := dS x) (y := .tup ((rdOf es c).map dS)) (qv rfl) (qv rfl) (by simp only [Pr.fn, fn2, memO_tup, Option.map_some]) rfl, _, rfl⟩)
  obtain ⟨s2, e2, y2, rfl⟩ := lc_tests (T := T) (e := .pr .mem [.var 3, .pr .ixd [.fld "Shape" (.var 0) "reading", .var 7]]) (tg := 7) (fun o => decide (c ∈ rdOf es o)) bt (by omega) (fun s => ∃ y, s = sH plain es row a2 (some (dS c)) a4 (some (.tup ((rdOf es c).map dS))) (some (.lst false (bt.map dS))) y) (sH plain es row a2 (some (dS c)) a4 (some (.tup ((rdOf es c).map dS))) (some (.lst false (bt.map dS))) none) ⟨_, rfl⟩ (by
    rintro s x hx ⟨y, rfl⟩
    refine ⟨sH plain es row a2 (some (dS c)) a4 (some (.tup ((rdOf es c).map dS))) (some (.lst false (bt.map dS))) (some (dS x)), q2 (by rfl) (x := dS c) (y := .tup ((rdOf es x).map dS)) (qv rfl) (qp2 (x := rdD es) (y := dS x) (by rfl) (qv rfl) ?_) (by simp only [Pr.fn, fn2, memO_tup, Option.map_some]) rfl, _, rfl⟩
    exact reading_at (plain := plain) (hb x hx))
  refine ⟨none, ok_not (ok_any ?_), none, ok_not (ok_any ?_)⟩
  · rw [ev_lc, hsrc, b_ok, lcM_ok e1]
    rfl
  · rw [ev_lc, hsrc, b_ok, lcM_ok e2]
    rfl
end VK

namespace VK
open VI
open PySem (PyData)
abbrev cSB : List Sm := [.asg [4] (.call 17 [.frv 1, .frv 2]), .asg [5] (.pr .ixd [.fld "Shape" (.var 0) "reading", .var 3]), .ite (.and (.pr .notN [.var 4]) (.pr .nmem [.var 3, .var 5])) [.asg [6] (.slc (.var 1) [.pr .add [.var 2, .con (.int 1)]] [.frv 4]), .ite (.not (.pr .any [.lc [7] .val [.frv 6] [] (.pr .mem [.var 7, .var 5])])) [.ret (.tup [.con (.str "idle"), .frv 4])] [], .ite (.not (.pr .any [.lc [7] .val [.frv 6] [] (.pr .mem [.var 3, .pr .ixd [.fld "Shape" (.var 0) "reading", .var 7]])])) [.ret (.tup [.con (.str "lost"), .frv 2])] []] []]
theorem short_step (T : Tab) (hX : NextS (T.call 17)) {plain : List (List Nat)} {es : List En} {row : List (List Nat)} (hs : ShOk plain es) (hin : ∀ x ∈ row, x ∈ es.map (·.1)) (hl : row.length ≤ 120) {i : Nat} {c : List Nat} (hc : row[i]? = some c) (y4 y5 y6 y7 : Option D) :
    (okAt (rdOf es) row i = false ∧ ∃ r s', VI.execs T [] cSB (sH plain es row (some (.int (i : Int))) (some (dS c)) y4 y5 y6 y7) = some (.ok (.rt r) s') ∧ isNon r = false ∧ s'.μ = []) ∨
    (okAt (rdOf es) row i = true ∧ ∃ z4 z5 z6 z7, VI.execs T [] cSB (sH plain es row (some (.int (i : Int))) (some (dS c)) y4 y5 y6 y7) = some (.ok .nx (sH plain es row (some (.int (i : Int))) (some (dS c)) z4 z5 z6 z7))) := by
  have hi : i < row.length := (List.getElem?_eq_some_iff.mp hc).1
  have hcc := hin c (List.mem_of_getElem? hc)
  have hlow : ∀ x ∈ row, low x := fun x hx => good_low (hs.gd x (List.mem_append_right _ (hin x hx)))
  have e1 : ∀ y4 y5 y6 y7, ev T (.call 17 [.frv 1, .frv 2]) (sH plain es row (some (.int (i : Int))) (some (dS c)) y4 y5 y6 y7) = some (.ok (match nextOf row i with | some j => .int (j : Int) | none => .non) (sH plain es row (some (.int (i : Int))) (some (dS c)) y4 y5 y6 y7)) := fun y4 y5 y6 y7 => by
    have hg := g2 (T := T) (a := .frv 1) (b := .frv 2) (s := sH plain es row (some (.int (i : Int))) (some (dS c)) y4 y5 y6 y7) (fun _ h => nomatch h) (fun _ h => nomatch h) (frv_same (d := .lst false (row.map dS)) rfl (frzl row)) (frv_same (d := .int (i : Int)) rfl rfl)
    rw [frzl] at hg
    exact ok_call hg (by
      show (noRefs (row.map dS) && (noRef (.int (i : Int)) && true)) = true
      rw [noRefs_S]
      rfl) (hX row i hi (by omega) hlow) rfl
  have e2 : ∀ y4 y5 y6 y7, ev T (.pr .ixd [.fld "Shape" (.var 0) "reading", .var 3]) (sH plain es row (some (.int (i : Int))) (some (dS c)) y4 y5 y6 y7) = some (.ok (.tup ((rdOf es c).map dS)) (sH plain es row (some (.int (i : Int))) (some (dS c)) y4 y5 y6 y7)) := fun y4 y5 y6 y7 =>
    q2 (by rfl) (x := rdD es) (y := dS c) (by rfl) (qv rfl) (reading_at (plain := plain) hcc) (allFs_S _)
  rw [xs_step (x_asg1 (e1 y4 y5 y6 y7) (by decide))]
  show _ ∨ _
  cases hn : nextOf row i with
  | none =>
    have hok : okAt (rdOf es) row i = true := by unfold okAt; rw [hc, hn]
    refine .inr ⟨hok, some .non, some (.tup ((rdOf es c).map dS)), y6, y7, ?_⟩
    show VI.execs T [] _ (sH plain es row (some (.int (i : Int))) (some (dS c)) (some .non) y5 y6 y7) = _
    rw [xs_step (x_asg1 (e2 (some .non) y5 y6 y7) (by decide))]
    show VI.execs T [] _ (sH plain es row (some (.int (i : Int))) (some (dS c)) (some .non) (some (.tup ((rdOf es c).map dS))) y6 y7) = _
    rw [xs_step (x_skip (ok_and_f (q1 (by rfl) (x := .non) (qv rfl) rfl rfl))), xs_nil]
  | some j =>
    obtain ⟨h1, h2, h3, h4⟩ := nextOf_is hi hn
    have hok : okAt (rdOf es) row i = fits (rdOf es) c (btw row i j) := by unfold okAt; rw [hc, hn]
    rw [hok]
    have ea : ∀ y5 y6 y7, ev T (.pr .notN [.var 4]) (sH plain es row (some (.int (i : Int))) (some (dS c)) (some (.int (j : Int))) y5 y6 y7) = some (.ok (.bl true) (sH plain es row (some (.int (i : Int))) (some (dS c)) (some (.int (j : Int))) y5 y6 y7)) := fun _ _ _ => q1 (by rfl) (x := .int (j : Int)) (qv rfl) rfl rfl
    let sB : VS := sH plain es row (some (.int (i : Int))) (some (dS c)) (some (.int (j : Int))) (some (.tup ((rdOf es c).map dS))) y6 y7
    have eb : ev T (.and (.pr .notN [.var 4]) (.pr .nmem [.var 3, .var 5])) sB = some (.ok (.bl (!decide (c ∈ rdOf es c))) sB) :=
      ok_and_t (ea _ _ _) (q2 (by rfl) (x := dS c) (y := .tup ((rdOf es c).map dS)) (qv rfl) (qv rfl) (by simp only [Pr.fn, fn2, memO_tup, Option.map_some]) rfl)
    have st : VI.execs T [] [.asg [5] (.pr .ixd [.fld "Shape" (.var 0) "reading", .var 3]), .ite (.and (.pr .notN [.var 4]) (.pr .nmem [.var 3, .var 5])) [.asg [6] (.slc (.var 1) [.pr .add [.var 2, .con (.int 1)]] [.frv 4]), .ite (.not (.pr .any [.lc [7] .val [.frv 6] [] (.pr .mem [.var 7, .var 5])])) [.ret (.tup [.con (.str "idle"), .frv 4])] [], .ite (.not (.pr .any [.lc [7] .val [.frv 6] [] (.pr .mem [.var 3, .pr .ixd [.fld "Shape" (.var 0) "reading", .var 7]])])) [.ret (.tup [.con (.str "lost"), .frv 2])] []] []] (sH plain es row (some (.int (i : Int))) (some (dS c)) (some (.int (j : Int))) y5 y6 y7) =
        VI.execs T [] [.ite (.and (.pr .notN [.var 4]) (.pr .nmem [.var 3, .var 5])) [.asg [6] (.slc (.var 1) [.pr .add [.var 2, .con (.int 1)]] [.frv 4]), .ite (.not (.pr .any [.lc [7] .val [.frv 6] [] (.pr .mem [.var 7, .var 5])])) [.ret (.tup [.con (.str "idle"), .frv 4])] [], .ite (.not (.pr .any [.lc [7] .val [.frv 6] [] (.pr .mem [.var 3, .pr .ixd [.fld "Shape" (.var 0) "reading", .var 7]])])) [.ret (.tup [.con (.str "lost"), .frv 2])] []] []] sB := by
      rw [xs_step (x_asg1 (e2 _ y5 y6 y7) (by decide))]
      rfl
    show (_ ∧ ∃ r s', VI.execs T [] _ (sH plain es row (some (.int (i : Int))) (some (dS c)) (some (.int (j : Int))) y5 y6 y7) = _ ∧ _) ∨ (_ ∧ ∃ z4 z5 z6 z7, VI.execs T [] _ (sH plain es row (some (.int (i : Int))) (some (dS c)) (some (.int (j : Int))) y5 y6 y7) = _)
    rw [st]
    by_cases hself : c ∈ rdOf es c
    · rw [decide_eq_true hself] at eb
      refine .inr ⟨by unfold fits; rw [decide_eq_true hself, Bool.true_or], some (.int (j : Int)), some (.tup ((rdOf es c).map dS)), y6, y7, ?_⟩
      rw [xs_step (x_skip eb), xs_nil]
    · rw [decide_eq_false hself] at eb
      have e3 : ev T (.slc (.var 1) [.pr .add [.var 2, .con (.int 1)]] [.frv 4]) sB = some (.ok (.lst true ((btw row i j).map dS)) sB) := by
        have e0 : ev T (.pr .add [.var 2, .con (.int 1)]) sB = some (.ok (.int ((i + 1 : Nat) : Int)) sB) := by
          rw [ev_prg _ _ _ (by rfl), evA_var, show sB.ρ[2]? = some (some (.int (i : Int))) from rfl, sR_some, evA_cons (.con _) [] _ (fun _ h => nomatch h), ev_con]
          simp only [okF, allF, if_true, b_ok, evA_nil]
          show gR _ (some [.int (i : Int), .int 1]) _ = _
          simp only [gR_some, Pr.fn, fn2, addD_ii, Option.map_some]
          rfl
        rw [ev_slcv, show sB.ρ[1]? = some (some (.lst false (row.map dS))) from rfl, sR_some, evP_one, e0, b_ok, iR_i, b_ok, evP_one, frv_same (d := .int (j : Int)) rfl rfl, b_ok, iR_i, b_ok]
        show slR (some (.lst false (row.map dS))) _ _ _ = _
        rw [slR_some, slD_l2 _ _ _ _ (allFs_S _) (by rw [List.length_map]; omega) (by rw [List.length_map]; omega), Option.map_some, map_btw]
      have hb : ∀ o ∈ btw row i j, o ∈ es.map (·.1) := fun o ho => hin o (List.mem_of_mem_take (List.mem_of_mem_drop ho))
      have hbl : (btw row i j).length ≤ 120 := by unfold btw; rw [List.length_drop, List.length_take]; omega
      obtain ⟨b7, t1, _⟩ := short_tests T (plain := plain) (row := row) hs hb hbl hcc (some (.int (i : Int))) (some (.int (j : Int))) y7 true
      obtain ⟨_, _, c7, t2⟩ := short_tests T (plain := plain) (row := row) hs hb hbl hcc (some (.int (i : Int))) (some (.int (j : Int))) b7 false
      have ef : fits (rdOf es) c (btw row i j) = ((btw row i j).any (fun o => decide (o ∈ rdOf es c)) && (btw row i j).any fun o => decide (c ∈ rdOf es o)) := by
        unfold fits
        rw [decide_eq_false hself, Bool.false_or, any_filter, any_filter]
      rw [ef, xs_cons, x_if_true eb, xs_step (x_asg1 e3 (by decide))]
      show (_ ∧ ∃ r s', bR (VI.execs T [] _ (sH plain es row (some (.int (i : Int))) (some (dS c)) (some (.int (j : Int))) (some (.tup ((rdOf es c).map dS))) (some (.lst true ((btw row i j).map dS))) y7)) _ = _ ∧ _) ∨ (_ ∧ ∃ z4 z5 z6 z7, bR (VI.execs T [] _ (sH plain es row (some (.int (i : Int))) (some (dS c)) (some (.int (j : Int))) (some (.tup ((rdOf es c).map dS))) (some (.lst true ((btw row i j).map dS))) y7)) _ = _)
      cases h5 : (btw row i j).any (fun o => decide (o ∈ rdOf es c)) with
      | false =>
        rw [h5] at t1
        refine .inl ⟨rfl, .tup [.str "idle", .int (j : Int)], sH plain es row (some (.int (i : Int))) (some (dS c)) (some (.int (j : Int))) (some (.tup ((rdOf es c).map dS))) (some (.lst false ((btw row i j).map dS))) b7, ?_, rfl, rfl⟩
        rw [xs_cons, x_if_true t1, x_retv (d := .tup [.str "idle", .int (j : Int)]) (by
          rw [ev_tup, evs_two (x := .str "idle") (y := .int (j : Int)) rfl (frv_same (d := .int (j : Int)) rfl rfl), b_ok]
          rfl), b_ok, seq_rt, ret_app, b_ok, seq_rt, ret_app]
      | true =>
        rw [h5] at t1
        rw [xs_step (x_skip t1)]
        cases h6 : (btw row i j).any (fun o => decide (c ∈ rdOf es o)) with
        | false =>
          rw [h6] at t2
          refine .inl ⟨rfl, .tup [.str "lost", .int (i : Int)], sH plain es row (some (.int (i : Int))) (some (dS c)) (some (.int (j : Int))) (some (.tup ((rdOf es c).map dS))) (some (.lst false ((btw row i j).map dS))) c7, ?_, rfl, rfl⟩
          rw [xs_cons, x_if_true t2, x_retv (d := .tup [.str "lost", .int (i : Int)]) (by
            rw [ev_tup, evs_two (x := .str "lost") (y := .int (i : Int)) rfl (frv_same (d := .int (i : Int)) rfl rfl), b_ok]
            rfl), b_ok, seq_rt, ret_app, b_ok, seq_rt, ret_app]
        | true =>
          rw [h6] at t2
          refine .inr ⟨rfl, some (.int (j : Int)), some (.tup ((rdOf es c).map dS)), some (.lst false ((btw row i j).map dS)), c7, ?_⟩
          rw [xs_step (x_skip t2), xs_nil, b_ok, seq_nx, xs_nil]
theorem short_ok (T : Tab) (hX : NextS (T.call 17)) : ShortS (runF T 2 8 [] c_shortening) := by
  intro plain es row hs hin hl
  unfold c_shortening
  rw [runF_eq 2 8 _ [dSh plain es, .lst false (row.map dS)] [] rfl]
  show ∃ r, runR 2 [] (VI.execs T [] _ (sH plain es row none none none none none none)) = _ ∧ _
  rcases forM_ret (Pn := []) (tg := [2, 3]) (b := VI.execs T [] cSB) ((List.range (row.map dS).length).zipWith (fun (i : Nat) d => D.tup [.int (i : Int), d]) (row.map dS))
    (fun i s => (∃ y2 y3 y4 y5 y6 y7, s = sH plain es row y2 y3 y4 y5 y6 y7) ∧ ∀ p, p < i → okAt (rdOf es) row p = true)
    (fun i r s => isNon r = false ∧ s.μ = [] ∧ i < row.length ∧ okAt (rdOf es) row i = false) (sH plain es row none none none none none none) ⟨⟨_, _, _, _, _, _, rfl⟩, fun p h => by omega⟩ (by
      rintro i s d hd ⟨⟨y2, y3, y4, y5, y6, y7, rfl⟩, hT⟩
      obtain ⟨x0, hx, rfl⟩ := enum_at hd
      rw [List.getElem?_map] at hx
      cases hp : row[i]? with
      | none => rw [hp] at hx; cases hx
      | some c =>
        rw [hp] at hx
        cases hx
        refine ⟨by decide, _, rfl, ?_⟩
        rcases short_step T hX hs hin hl hp y4 y5 y6 y7 with ⟨h1, r, s', e, h2, h3⟩ | ⟨h1, z4, z5, z6, z7, e⟩
        · exact .inl ⟨r, s', e, h2, h3, (List.getElem?_eq_some_iff.mp hp).1, h1⟩
        · refine .inr ⟨.nx, _, e, .inl rfl, ⟨_, _, _, _, _, _, rfl⟩, fun p h => ?_⟩
          by_cases hpi : p = i
          · rw [hpi]; exact h1
          · exact hT p (by omega)) with ⟨i, r, s', hi, e, h1, h2, h3, h4⟩ | ⟨s', e, ⟨y2, y3, y4, y5, y6, y7, rfl⟩, hT⟩
  · refine ⟨r, ?_, ?_⟩
    · rw [xs_cons, for_enum (ds := row.map dS) rfl (frzs_S row), e, b_ok, seq_rt, ret_app]
      show some (CR.ok r _ s'.μ) = _
      rw [h2]
      rfl
    · rw [h1]
      unfold tightB
      symm
      rw [List.all_eq_false]
      exact ⟨i, List.mem_range.mpr h3, by rw [h4]; decide⟩
  · rw [enum_len, List.length_map] at hT
    refine ⟨.non, ?_, ?_⟩
    · rw [xs_step ((for_enum (ds := row.map dS) rfl (frzs_S row)).trans e)]
      rfl
    · unfold tightB
      symm
      rw [show isNon .non = true from rfl, List.all_eq_true]
      exact fun p hp => hT p (List.mem_range.mp hp)
def IsTightS (m : List D → List RO → Option CR) : Prop := ∀ (plain : List (List Nat)) (es : List En) (row : List (List Nat)), ShOk plain es → (∀ x ∈ row, x ∈ es.map (·.1)) → row.length ≤ 120 → m [dSh plain es, .lst false (row.map dS)] [] = some (.ok (.bl (tightB (rdOf es) row)) [none, none] [])
theorem is_tight_ok (T : Tab) (hS : ShortS (T.call 18)) (hC : CRowS (T.call 20)) : IsTightS (runF T 2 2 [] c_is_tight) := by
  intro plain es row hs hin hl
  obtain ⟨r, h1, h2⟩ := hS plain es row hs hin hl
  unfold c_is_tight
  rw [runF_eq 2 2 _ [dSh plain es, .lst false (row.map dS)] [] rfl]
  show runR 2 [] (VI.execs T [] _ ⟨[some (dSh plain es), some (.lst false (row.map dS))], []⟩) = _
  have hn : noRefs [dSh plain es, .lst false (row.map dS)] = true := by
    show (noRef (dSh plain es) && (noRefs (row.map dS) && true)) = true
    rw [noRef_Sh, noRefs_S]
    rfl
  have e1 : ev T (.call 20 [.frv 0, .frv 1]) ⟨[some (dSh plain es), some (.lst false (row.map dS))], []⟩ = some (.ok (.lst true (row.map dS)) ⟨[some (dSh plain es), some (.lst false (row.map dS))], []⟩) := by
    have hg := g2 (T := T) (a := .frv 0) (b := .frv 1) (s := ⟨[some (dSh plain es), some (.lst false (row.map dS))], []⟩) (fun _ h => nomatch h) (fun _ h => nomatch h) (frv_same (d := dSh plain es) rfl (frz_Sh plain es)) (frv_same (d := .lst false (row.map dS)) rfl (frzl row))
    rw [frzl, frz_Sh] at hg
    exact ok_call hg hn (hC plain es row hs hin hl) rfl
  have e2 : ev T (.call 18 [.frv 0, .call 20 [.frv 0, .frv 1]]) ⟨[some (dSh plain es), some (.lst false (row.map dS))], []⟩ = some (.ok r ⟨[some (dSh plain es), some (.lst false (row.map dS))], []⟩) := by
    have hg := g2 (T := T) (a := .frv 0) (b := .call 20 [.frv 0, .frv 1]) (s := ⟨[some (dSh plain es), some (.lst false (row.map dS))], []⟩) (fun _ h => nomatch h) (fun _ h => nomatch h) (frv_same (d := dSh plain es) rfl (frz_Sh plain es)) e1
    rw [frzt, frz_Sh] at hg
    exact ok_call hg hn h1 rfl
  have e3 : isNon (frz r) = isNon r := by cases r <;> rfl
  rw [x_retv (d := .bl (tightB (rdOf es) row)) (s1 := ⟨[some (dSh plain es), some (.lst false (row.map dS))], []⟩) (by
    rw [ev_prg _ _ _ (by rfl), evA_cons (.call 18 _) [] _ (fun _ h => nomatch h), e2, b_ok, evA_nil, b_ok, b_ok]
    simp only [AV.gets, AV.get, gR_some, Pr.fn, fn1, e3, h2, Option.map_some])]
  rfl
end VK

namespace VK
open VI
open PySem (PyData)
section
variable {T : Tab} {Pn : List Nat} {s s1 : VS} {a b e : Ex}
theorem call_ioi {f i : Nat} {as : List Ex} {ds : List D} {d0 d' r : D} {ps : List (Option D)} (h0 : ∃ x, s.ρ[i]? = some (some x)) (ha : evG T as s = some (.ok (ds.map .val) s1)) (h1 : s1.ρ[i]? = some (some d0)) (hno : noRefs (d0 :: ds) = true)
    (hc : T.call f (d0 :: ds) [] = some (.ok r (some d' :: ps) [])) (hl : ps.length = ds.length) : ev T (.call f (.io i :: as)) s = some (.ok r ⟨s1.ρ.set i (some d'), s1.μ⟩) := by
  obtain ⟨x, hx⟩ := h0
  have := callM_io T f i d0 ds s1 r d' ps h1 hno hc hl
  rw [ev_call, evG_io, hx, sR_some, ha, b_ok, b_ok]
  exact this
theorem ok_mk {C : Str} {f : Nat} {as : List Ex} {ds : List D} {ps : List (Option D)} {r : RO} (ha : evG T as s = some (.ok (ds.map .val) s1)) (hn : noRefs ds = true) (hc : T.call f (.ref 0 :: ds) [⟨C, [], []⟩] = some (.ok .non ps [r])) (h1 : r.cls = C) (h2 : noRefs r.ds = true) :
    ev T (.mk C f true as) s = some (.ok (.ins C r.fn (frzs r.ds)) s1) := by
  have e0 : ev T (.mk C f true as) s = bR (evG T as s) (mkM T C f true) := by simp only [ev]; rfl
  rw [e0, ha, b_ok]
  unfold mkM
  rw [hands_v]
  simp only [if_true, hn, hc, h1, h2, and_self]
theorem ok_addl {o o' : Bool} {x y : List (List Nat)} (na : ∀ i, a ≠ .var i) (nb : ∀ i, b ≠ .var i) (ha : ev T a s = some (.ok (.lst o (x.map dS)) s)) (hb : ev T b s = some (.ok (.lst o' (y.map dS)) s)) (hl : x.length + y.length ≤ 1000) : ev T (.pr .add [a, b]) s = some (.ok (.lst true ((x ++ y).map dS)) s) := by
  have hlim : lim = 1000000 := rfl
  rw [ev_prg _ _ _ (by rfl), evA_cons a _ _ na, ha, b_ok, evA_cons b [] _ nb, hb, b_ok, evA_nil, b_ok, b_ok, b_ok]
  simp only [AV.gets, AV.get, gR_some, Pr.fn, fn2]
  rw [show frz (.lst o (x.map dS)) = .lst false (x.map dS) by simp only [frz, frzs_S], show frz (.lst o' (y.map dS)) = .lst false (y.map dS) by simp only [frz, frzs_S], addD_l _ _ _ _ (allFs_S _) (allFs_S _) (by simp only [List.length_map]; omega), Option.map_some, ← List.map_append]
theorem frv_any {i : Nat} {o : Bool} {l : List (List Nat)} (h : s.ρ[i]? = some (some (.lst o (l.map dS)))) : ev T (.frv i) s = some (.ok (.lst false (l.map dS)) ⟨s.ρ.set i (some (.lst false (l.map dS))), s.μ⟩) := by
  rw [ev_frv, h, sR_some]
  simp only [frz, frzs_S]
theorem x_for_ok {tg : List Nat} {sk : Sk} {src : List Ex} {bd : List Sm} {items : List D} {r : Option (Res Fl)} (h : srcM T sk src s = some (.ok items s1)) (h2 : forM Pn tg (VI.execs T Pn bd) items s1 = r) : VI.exec T Pn (.for tg sk src bd) s = r := by
  rw [x_for, h, b_ok, h2]
end
theorem eqD_bl (b : Bool) : eqD (.bl b) (.bl b) = some true := by cases b <;> rfl
abbrev sL (ns : List Int) (a1 a2 a3 a4 a5 a6 a7 a8 a9 a10 a11 a12 a13 a14 : Option D) : VS := ⟨[some (.scr ns), a1, a2, a3, a4, a5, a6, a7, a8, a9, a10, a11, a12, a13, a14], []⟩
abbrev cLB : List Sm := [.asg [14] (.call 21 [.frv 3, .frv 12]), .ite (.or (.not (.pr (.isi "bool") [.var 14])) (.or (.pr .ne [.var 14, .call 15 [.frv 4, .frv 9]]) (.pr .ne [.var 12, .var 9]))) [.ret (.con (.bl false))] []]
/-- one row, asked twice -/
theorem law_row2 (T : Tab) (hI : IsTightS (T.call 21)) (hT : TightS (T.call 15)) {plain : List (List Nat)} {es : List En} (hs : ShOk plain es) {x : List (List Nat)} (hx : ∀ y ∈ x, y ∈ es.map (·.1)) (hl : x.length ≤ 120) (ns : List Int) (a1 a2 a5 a6 a7 a8 a10 a11 a12 a13 a14 : Option D) :
    ∃ b12 b13 b14, VI.execs T [] [.asg [12] (.pr .list [.var 9]), .for [13] .rng1 [.con (.int 2)] cLB] (sL ns a1 a2 (some (dSh plain es)) (some (dRd plain es)) a5 a6 a7 a8 (some (.lst false (x.map dS))) a10 a11 a12 a13 a14) =
      some (.ok .nx (sL ns a1 a2 (some (dSh plain es)) (some (dRd plain es)) a5 a6 a7 a8 (some (.lst false (x.map dS))) a10 a11 b12 b13 b14)) := by
  have hr := rd_ok hs
  have hlow : ∀ y ∈ x, low y := fun y hy => good_low (hs.gd y (List.mem_append_right _ (hx y hy)))
  obtain ⟨s', f1, o, y13, y14, rfl⟩ := forM_inv (Pn := []) (tg := [13]) (b := VI.execs T [] cLB) ((List.range 2).map fun i : Nat => D.int (i : Int)) (fun _ s => ∃ o y13 y14, s = sL ns a1 a2 (some (dSh plain es)) (some (dRd plain es)) a5 a6 a7 a8 (some (.lst false (x.map dS))) a10 a11 (some (.lst o (x.map dS))) y13 y14)
      (sL ns a1 a2 (some (dSh plain es)) (some (dRd plain es)) a5 a6 a7 a8 (some (.lst false (x.map dS))) a10 a11 (some (.lst true (x.map dS))) a13 a14) ⟨_, _, _, rfl⟩ (by
    rintro i s d hd ⟨o, y13, y14, rfl⟩
    let sA : Bool → Option D → VS := fun o y14 => sL ns a1 a2 (some (dSh plain es)) (some (dRd plain es)) a5 a6 a7 a8 (some (.lst false (x.map dS))) a10 a11 (some (.lst o (x.map dS))) (some d) y14
    refine ⟨by decide, _, rfl, .nx, sA false (some (.bl (tightB (rdOf es) x))), ?_, .inl rfl, false, _, _, rfl⟩
    have e1 : ev T (.call 21 [.frv 3, .frv 12]) (sA o y14) = some (.ok (.bl (tightB (rdOf es) x)) (sA false y14)) := by
      have hg := g2 (T := T) (a := .frv 3) (b := .frv 12) (s := sA o y14) (fun _ h => nomatch h) (fun _ h => nomatch h) (frv_same (d := dSh plain es) rfl (frz_Sh plain es)) (frv_any (l := x) rfl)
      rw [frzl, frz_Sh] at hg
      exact ok_call hg (by
        show (noRef (dSh plain es) && (noRefs (x.map dS) && true)) = true
        rw [noRef_Sh, noRefs_S]
        rfl) (hI plain es x hs hx hl) rfl
    have e2 : ev T (.call 15 [.frv 4, .frv 9]) (sA false (some (.bl (tightB (rdOf es) x)))) = some (.ok (.bl (tightB (rdOf es) x)) (sA false (some (.bl (tightB (rdOf es) x))))) := by
      have hg := g2 (T := T) (a := .frv 4) (b := .frv 9) (s := sA false (some (.bl (tightB (rdOf es) x)))) (fun _ h => nomatch h) (fun _ h => nomatch h) (frv_same (d := dRd plain es) rfl (frz_id _ hr.fr)) (frv_same (d := .lst false (x.map dS)) rfl (frzl x))
      rw [frzl, frz_id _ hr.fr] at hg
      exact ok_call hg (by
        show (noRef (dRd plain es) && (noRefs (x.map dS) && true)) = true
        rw [hr.nr, noRefs_S]
        rfl) (hT _ _ _ x hr (fun y hy => List.mem_append_right _ (hx y hy)) (by omega)) rfl
    have e3 : ev T (.pr .ne [.var 14, .call 15 [.frv 4, .frv 9]]) (sA false (some (.bl (tightB (rdOf es) x)))) = some (.ok (.bl false) (sA false (some (.bl (tightB (rdOf es) x))))) := by
      rw [ev_prg _ _ _ (by rfl), evA_var, show (sA false (some (.bl (tightB (rdOf es) x)))).ρ[14]? = some (some (.bl (tightB (rdOf es) x))) from rfl, sR_some, evA_cons (.call 15 _) [] _ (fun _ h => nomatch h), e2, b_ok, evA_nil, b_ok, b_ok, b_ok]
      show gR _ (some [.bl (tightB (rdOf es) x), .bl (tightB (rdOf es) x)]) _ = _
      simp only [gR_some, Pr.fn, fn2, eqD_bl, Option.map_some]
      rfl
    have e4 : ev T (.or (.not (.pr (.isi "bool") [.var 14])) (.or (.pr .ne [.var 14, .call 15 [.frv 4, .frv 9]]) (.pr .ne [.var 12, .var 9]))) (sA false (some (.bl (tightB (rdOf es) x)))) = some (.ok (.bl false) (sA false (some (.bl (tightB (rdOf es) x))))) :=
      ok_or_f (ok_not (k := true) (q1 (d := .bl true) (by rfl) (x := .bl (tightB (rdOf es) x)) (qv rfl) rfl rfl)) (ok_or_f e3 (q2 (by rfl) (x := .lst false (x.map dS)) (y := .lst false (x.map dS)) (qv rfl) (qv rfl) (by simp only [Pr.fn, fn2, eqD_strs false false x x hlow hlow, Option.map_some, decide_true]; rfl) rfl))
    show VI.execs T [] cLB (sA o y14) = _
    rw [xs_step (x_asg1 e1 (by decide))]
    show VI.execs T [] _ (sA false (some (.bl (tightB (rdOf es) x)))) = _
    rw [xs_step (x_skip e4), xs_nil])
  refine ⟨some (.lst o (x.map dS)), y13, y14, ?_⟩
  rw [xs_step (x_asg1 (ok_listv (ds := x.map dS) (o := false) rfl (allFs_S _)) (by decide))]
  refine (xs_step (x_for_ok (s := sL ns a1 a2 (some (dSh plain es)) (some (dRd plain es)) a5 a6 a7 a8 (some (.lst false (x.map dS))) a10 a11 (some (.lst true (x.map dS))) a13 a14) (s1 := sL ns a1 a2 (some (dSh plain es)) (some (dRd plain es)) a5 a6 a7 a8 (some (.lst false (x.map dS))) a10 a11 (some (.lst true (x.map dS))) a13 a14) rfl f1)).trans ?_
  rw [xs_nil]
end VK

namespace VK
open VI
open PySem (PyData)
/-- the five rows of a turn -/
def rows5 (r t : List (List Nat)) (k : Nat) (n : List Nat) : List (List (List Nat)) := [r, t, t.take k ++ [n] ++ t.drop k, t.take k ++ t.drop (k + 1), []]
theorem allFs_L : ∀ ls : List (List (List Nat)), allFs (ls.map fun r => D.lst false (r.map dS)) = true
  | [] => rfl
  | l :: ls => by
    show ((!false && allFs (l.map dS)) && allFs (ls.map fun r => D.lst false (r.map dS))) = true
    rw [allFs_L ls, allFs_S]
    rfl
theorem slv_from1 {T : Tab} {s : VS} {o : Bool} {l : List (List Nat)} {k i j : Nat} (h : s.ρ[i]? = some (some (.lst o (l.map dS)))) (hj : s.ρ[j]? = some (some (.int (k : Int)))) : ev T (.slc (.var i) [.pr .add [.var j, .con (.int 1)]] []) s = some (.ok (.lst true ((l.drop (k + 1)).map dS)) s) := by
  have e0 : ev T (.pr .add [.var j, .con (.int 1)]) s = some (.ok (.int ((k + 1 : Nat) : Int)) s) := by
    rw [ev_prg _ _ _ (by rfl), evA_var, hj, sR_some, evA_cons (.con _) [] _ (fun _ h => nomatch h), ev_con]
    simp only [okF, allF, if_true, b_ok, evA_nil, AV.gets, AV.get, hj, gR_some, frz, Pr.fn, fn2, addD_ii, Option.map_some]
    rfl
  rw [ev_slcv, h, sR_some, evP_one, e0, b_ok, iR_i, b_ok, evP_nil, b_ok]
  simp only [AV.get, h, slR_some]
  rw [slD_lfrom _ _ (k + 1) (allFs_S _), Option.map_some, ← List.map_drop]
theorem law_rows (T : Tab) (ns : List Int) (r t : List (List Nat)) (k : Nat) (n : List Nat) (hr : r.length ≤ 100) (ht : t.length ≤ 100) (a1 a2 a3 a4 a9 a10 a11 a12 a13 a14 : Option D) :
    srcM T .val [.lst [.frv 5, .frv 6, .pr .add [.pr .add [.slc (.var 6) [] [.frv 7], .lst [.frv 8]], .slc (.var 6) [.frv 7] []], .pr .add [.slc (.var 6) [] [.frv 7], .slc (.var 6) [.pr .add [.var 7, .con (.int 1)]] []], .lst []]]
      (sL ns a1 a2 a3 a4 (some (.lst false (r.map dS))) (some (.lst true (t.map dS))) (some (.int (k : Int))) (some (dS n)) a9 a10 a11 a12 a13 a14) =
      some (.ok ((rows5 r t k n).map fun r => D.lst false (r.map dS)) (sL ns a1 a2 a3 a4 (some (.lst false (r.map dS))) (some (.lst false (t.map dS))) (some (.int (k : Int))) (some (dS n)) a9 a10 a11 a12 a13 a14)) := by
  let sA : VS := sL ns a1 a2 a3 a4 (some (.lst false (r.map dS))) (some (.lst true (t.map dS))) (some (.int (k : Int))) (some (dS n)) a9 a10 a11 a12 a13 a14
  let sB : VS := sL ns a1 a2 a3 a4 (some (.lst false (r.map dS))) (some (.lst false (t.map dS))) (some (.int (k : Int))) (some (dS n)) a9 a10 a11 a12 a13 a14
  have e5 : ev T (.frv 5) sA = some (.ok (.lst false (r.map dS)) sA) := frv_same rfl (frzl r)
  have e6 : ev T (.frv 6) sA = some (.ok (.lst false (t.map dS)) sB) := frv_any rfl
  have et : ev T (.slc (.var 6) [] [.frv 7]) sB = some (.ok (.lst true ((t.take k).map dS)) sB) := slv rfl rfl
  have ed : ev T (.slc (.var 6) [.frv 7] []) sB = some (.ok (.lst true ((t.drop k).map dS)) sB) := slv2 rfl rfl
  have ef : ev T (.slc (.var 6) [.pr .add [.var 7, .con (.int 1)]] []) sB = some (.ok (.lst true ((t.drop (k + 1)).map dS)) sB) := slv_from1 rfl rfl
  have e1 : ev T (.lst [.frv 8]) sB = some (.ok (.lst true ([n].map dS)) sB) := by
    rw [ev_lst, evs_one (frv_same (d := dS n) rfl rfl), b_ok]
    rfl
  have l1 : (t.take k).length ≤ 100 := by rw [List.length_take]; omega
  have l2 : (t.drop k).length ≤ 100 := by rw [List.length_drop]; omega
  have l3 : (t.drop (k + 1)).length ≤ 100 := by rw [List.length_drop]; omega
  have f1 := ok_addl (T := T) (a := .slc (.var 6) [] [.frv 7]) (b := .lst [.frv 8]) (fun _ h => nomatch h) (fun _ h => nomatch h) et e1 (by rw [List.length_singleton]; omega)
  have f2 := ok_addl (T := T) (a := .pr .add [.slc (.var 6) [] [.frv 7], .lst [.frv 8]]) (b := .slc (.var 6) [.frv 7] []) (fun _ h => nomatch h) (fun _ h => nomatch h) f1 ed (by rw [List.length_append, List.length_singleton]; omega)
  have f3 := ok_addl (T := T) (a := .slc (.var 6) [] [.frv 7]) (b := .slc (.var 6) [.pr .add [.var 7, .con (.int 1)]] []) (fun _ h => nomatch h) (fun _ h => nomatch h) et ef (by omega)
  have e0 : ev T (.lst []) sB = some (.ok (.lst true []) sB) := by
    rw [ev_lst, evs_nil, b_ok]
    rfl
  have el : ev T (.lst [.frv 5, .frv 6, .pr .add [.pr .add [.slc (.var 6) [] [.frv 7], .lst [.frv 8]], .slc (.var 6) [.frv 7] []], .pr .add [.slc (.var 6) [] [.frv 7], .slc (.var 6) [.pr .add [.var 7, .con (.int 1)]] []], .lst []]) sA =
      some (.ok (.lst true ((rows5 r t k n).map fun r => D.lst false (r.map dS))) sB) := by
    rw [ev_lst, evs_cons, e5, b_ok, evs_cons, e6, b_ok, evs_cons, f2, b_ok, evs_cons, f3, b_ok, evs_one e0]
    simp only [b_ok, frzl, frzt, frz, frzs, frzs_S]
    rfl
  rw [src_app]
  refine (congrArg (fun z => bR z _) (evs_one el)).trans ?_
  rw [b_ok]
  simp only [frz]
  rw [frzs_id _ (allFs_L _)]
  rfl
end VK

namespace VK
open VI
open PySem (PyData)
abbrev cTurn : List Sm := [.asg [2] (.call 1 [.frv 0, .frv 1]), .asg [10, 11] (.call 7 [.io 2, .con (.int 8), .con (.int 6)]), .asg [3] (.mk "Shape" 11 true [.frv 10, .frv 11]), .asg [4] (.call 12 [.frv 10, .frv 11]), .asg [5] (.call 13 [.io 2, .frv 11, .con (.int 40)]), .asg [6] (.call 16 [.frv 4, .frv 5]), .asg [7] (.call 3 [.io 2, .pr .add [.pr .len [.var 6], .con (.int 1)]]), .asg [8] (.pr .ix [.pr .ix [.var 11, .call 3 [.io 2, .pr .len [.var 11]]], .con (.int 0)]), .for [9] .val [.lst [.frv 5, .frv 6, .pr .add [.pr .add [.slc (.var 6) [] [.frv 7], .lst [.frv 8]], .slc (.var 6) [.frv 7] []], .pr .add [.slc (.var 6) [] [.frv 7], .slc (.var 6) [.pr .add [.var 7, .con (.int 1)]] []], .lst []]] [.asg [12] (.pr .list [.var 9]), .for [13] .rng1 [.con (.int 2)] cLB]]
theorem ok_len {T : Tab} {i : Nat} {s : VS} {o : Bool} {ds : List D} (h : s.ρ[i]? = some (some (.lst o ds))) : ev T (.pr .len [.var i]) s = some (.ok (.int (ds.length : Int)) s) := q1 (by rfl) (qv h) rfl rfl
theorem ok_inc {T : Tab} {s : VS} {p : Pr} {as : List Ex} {n : Int} (h : ev T (.pr p as) s = some (.ok (.int n) s)) : ev T (.pr .add [.pr p as, .con (.int 1)]) s = some (.ok (.int (n + 1)) s) := by
  rw [ev_prg _ _ _ (by rfl), evA_cons (.pr p as) _ _ (fun _ h => nomatch h), h, b_ok, evA_cons (.con _) [] _ (fun _ h => nomatch h), ev_con]
  simp only [okF, allF, if_true, b_ok, evA_nil, AV.gets, AV.get, gR_some, frz, Pr.fn, fn2, addD_ii, Option.map_some]
theorem ix_E {es : List En} {j : Nat} (h : j < es.length) : ixD (.lst false (es.map dE)) (.int (j : Int)) = some (dE es[j]) := by
  rw [ix_l, at_nat, List.getElem?_map, show es[j]? = some es[j] by simp [h]]
  simp only [Option.map_some, Option.bind_some, okA, allF_E, if_true]
/-- entries[take(pile, len(entries))][0] -/
theorem pick_name {T : Tab} (hT : TakeS (T.call 3)) {s : VS} {i j : Nat} {es : List En} {d : D} {B : Nat} (hij : i ≠ j) (hi : s.ρ[i]? = some (some d)) (hj : s.ρ[j]? = some (some (.lst false (es.map dE)))) (hp : PileOk d B) (hB : B < 2 ^ 100) (hne : es ≠ []) (hl : es.length ≤ 100) :
    ∃ (c : List Nat) (d' : D), c ∈ es.map (·.1) ∧ PileOk d' (B + 1) ∧ ev T (.pr .ix [.pr .ix [.var j, .call 3 [.io i, .pr .len [.var j]]], .con (.int 0)]) s = some (.ok (dS c) ⟨s.ρ.set i (some d'), s.μ⟩) := by
  have hlen0 : es.length ≠ 0 := fun e => hne (List.length_eq_zero_iff.mp e)
  obtain ⟨r, d', h0, h1, hp', hc⟩ := hT d B (es.map dE).length hp hB (by rw [List.length_map]; omega) (by rw [List.length_map]; omega)
  obtain ⟨r, rfl⟩ := Int.eq_ofNat_of_zero_le h0
  rw [List.length_map] at h1
  have hr : r < es.length := by omega
  have e1 : ev T (.call 3 [.io i, .pr .len [.var j]]) s = some (.ok (.int (r : Int)) ⟨s.ρ.set i (some d'), s.μ⟩) :=
    call_ioi (ds := [.int ((es.map dE).length : Int)]) ⟨_, hi⟩ (g1 (e := .pr .len [.var j]) (fun _ h => nomatch h) (ok_len hj)) hi (by
      show (noRef d && (true && true)) = true
      rw [noRef_pile hp]
      rfl) hc rfl
  have hj' : (s.ρ.set i (some d'))[j]? = some (some (.lst false (es.map dE))) := by
    rw [List.getElem?_set_ne hij]
    exact hj
  have e2 : ev T (.pr .ix [.var j, .call 3 [.io i, .pr .len [.var j]]]) s = some (.ok (dE es[r]) ⟨s.ρ.set i (some d'), s.μ⟩) := by
    rw [ev_prg _ _ _ (by rfl), evA_var, hj, sR_some, evA_cons (.call 3 _) [] _ (fun _ h => nomatch h), e1, b_ok, evA_nil, b_ok, b_ok, b_ok]
    simp only [AV.gets, AV.get, hj', gR_some, frz, Pr.fn, fn2, ix_E hr, Option.map_some]
  refine ⟨es[r].1, d', List.mem_map_of_mem (List.getElem_mem hr), hp', ?_⟩
  rw [ev_prg _ _ _ (by rfl), evA_cons (.pr .ix _) _ _ (fun _ h => nomatch h), e2, b_ok, evA_cons (.con _) [] _ (fun _ h => nomatch h), ev_con]
  simp only [okF, allF, if_true, b_ok, evA_nil, AV.gets, AV.get, gR_some, frz_E, Pr.fn, fn2, frz]
  rw [show ixD (dE es[r]) (.int 0) = some (dS es[r].1) from ix_tup0 _ _ rfl, Option.map_some]
theorem frv_rd {T : Tab} {i : Nat} {s : VS} {plain : List (List Nat)} {es : List En} (h : s.ρ[i]? = some (some (.dic true (rdK plain es) (rdV plain es)))) : ev T (.frv i) s = some (.ok (dRd plain es) ⟨s.ρ.set i (some (dRd plain es)), s.μ⟩) := by
  have e : frz (.dic true (rdK plain es) (rdV plain es)) = dRd plain es := by
    simp only [frz]
    rw [frzs_id (rdV plain es) (allFs_V plain es)]
    rfl
  rw [ev_frv, h, sR_some, e]
/-- all rows of a turn -/
theorem law_for (T : Tab) (hI : IsTightS (T.call 21)) (hT : TightS (T.call 15)) {plain : List (List Nat)} {es : List En} (hs : ShOk plain es) (rows : List (List (List Nat))) (hx : ∀ x ∈ rows, (∀ y ∈ x, y ∈ es.map (·.1)) ∧ x.length ≤ 120) (ns : List Int) (a1 a2 a5 a6 a7 a8 a9 a10 a11 a12 a13 a14 : Option D) :
    ∃ b9 b12 b13 b14, forM [] [9] (VI.execs T [] [.asg [12] (.pr .list [.var 9]), .for [13] .rng1 [.con (.int 2)] cLB]) (rows.map fun r => D.lst false (r.map dS)) (sL ns a1 a2 (some (dSh plain es)) (some (dRd plain es)) a5 a6 a7 a8 a9 a10 a11 a12 a13 a14) =
      some (.ok .nx (sL ns a1 a2 (some (dSh plain es)) (some (dRd plain es)) a5 a6 a7 a8 b9 a10 a11 b12 b13 b14)) := by
  obtain ⟨s', f1, b9, b12, b13, b14, rfl⟩ := forM_inv (Pn := []) (tg := [9]) (b := VI.execs T [] [.asg [12] (.pr .list [.var 9]), .for [13] .rng1 [.con (.int 2)] cLB]) (rows.map fun r => D.lst false (r.map dS)) (fun _ s => ∃ b9 b12 b13 b14, s = sL ns a1 a2 (some (dSh plain es)) (some (dRd plain es)) a5 a6 a7 a8 b9 a10 a11 b12 b13 b14) (sL ns a1 a2 (some (dSh plain es)) (some (dRd plain es)) a5 a6 a7 a8 a9 a10 a11 a12 a13 a14) ⟨_, _, _, _, rfl⟩ (by
    rintro i s d hd ⟨b9, b12, b13, b14, rfl⟩
    rw [List.getElem?_map] at hd
    cases hp : rows[i]? with
    | none => rw [hp] at hd; cases hd
    | some x =>
      rw [hp] at hd
      cases hd
      obtain ⟨h1, h2⟩ := hx x (List.mem_of_getElem? hp)
      obtain ⟨c12, c13, c14, e⟩ := law_row2 T hI hT hs h1 h2 ns a1 a2 a5 a6 a7 a8 a10 a11 b12 b13 b14
      exact ⟨by decide, _, rfl, .nx, _, e, .inl rfl, _, _, _, _, rfl⟩)
  exact ⟨b9, b12, b13, b14, f1⟩
end VK

namespace VK
open VI
open PySem (PyData)
theorem rows5_in {r t : List (List Nat)} {k : Nat} {n : List Nat} {cells : List (List Nat)} (hr : ∀ x ∈ r, x ∈ cells) (ht : ∀ x ∈ t, x ∈ cells) (hn : n ∈ cells) (h1 : r.length ≤ 40) (h2 : t.length ≤ 40) : ∀ x ∈ rows5 r t k n, (∀ y ∈ x, y ∈ cells) ∧ x.length ≤ 120 := by
  intro x hx
  have tk : ∀ y ∈ t.take k, y ∈ cells := fun y hy => ht y (List.mem_of_mem_take hy)
  have dk : ∀ q, ∀ y ∈ t.drop q, y ∈ cells := fun q y hy => ht y (List.mem_of_mem_drop hy)
  simp only [rows5, List.mem_cons, List.mem_nil_iff, or_false] at hx
  rcases hx with rfl | rfl | rfl | rfl | rfl
  · exact ⟨hr, by omega⟩
  · exact ⟨ht, by omega⟩
  · refine ⟨fun y hy => ?_, by simp only [List.length_append, List.length_take, List.length_drop, List.length_singleton]; omega⟩
    simp only [List.mem_append, List.mem_singleton] at hy
    rcases hy with (h | rfl) | h
    · exact tk y h
    · exact hn
    · exact dk k y h
  · refine ⟨fun y hy => ?_, by simp only [List.length_append, List.length_take, List.length_drop]; omega⟩
    rcases List.mem_append.mp hy with h | h
    · exact tk y h
    · exact dk _ y h
  · exact ⟨fun y hy => (nomatch hy), by simp⟩
structure Calls (T : Tab) : Prop where
  pile : PileS (T.call 1)
  take : TakeS (T.call 3)
  shape : ShapeS (T.call 7)
  init : InitS (T.call 11)
  reads : ReadsS (T.call 12)
  row : RowS (T.call 13)
  tight : TightS (T.call 15)
  thin : ThinS (T.call 16)
  isT : IsTightS (T.call 21)
theorem law_turn (T : Tab) (C : Calls T) (ns : List Int) (k : Nat) (hk : k < 6) (a2 a3 a4 a5 a6 a7 a8 a9 a10 a11 a12 a13 a14 : Option D) :
    ∃ b2 b3 b4 b5 b6 b7 b8 b9 b10 b11 b12 b13 b14, VI.execs T [] cTurn (sL ns (some (.int (k : Int))) a2 a3 a4 a5 a6 a7 a8 a9 a10 a11 a12 a13 a14) = some (.ok .nx (sL ns (some (.int (k : Int))) b2 b3 b4 b5 b6 b7 b8 b9 b10 b11 b12 b13 b14)) := by
  have hlim : lim = 1000000 := rfl
  obtain ⟨d0, hp0, c1⟩ := C.pile ns k (by omega)
  obtain ⟨plain, es, d1, hnd, hg, hne, hl1, hl2, hen, hp1, c2⟩ := C.shape d0 _ 8 6 hp0 (by omega) (by decide) (by decide) (by decide) (by decide)
  have hs : ShOk plain es := ⟨hnd, hg, hl2, hen⟩
  have hrd := rd_ok hs
  obtain ⟨r, d2, hr1, hr2, hp2, c5⟩ := C.row d1 _ es 40 hp1 (by omega) hne (by omega) (by decide)
  have hcell : ∀ x ∈ es.map (·.1), x ∈ plain ++ es.map (·.1) := fun x hx => List.mem_append_right _ hx
  obtain ⟨t, ht1, ht2, c6⟩ := C.thin (dRd plain es) _ _ r hrd (fun x hx => hcell x (hr1 x hx)) (by omega)
  obtain ⟨j, d3, hj0, hj1, hp3, c7⟩ := C.take d2 _ ((t.map dS).length + 1) hp2 (by omega) (by omega) (by rw [List.length_map]; omega)
  obtain ⟨j, rfl⟩ := Int.eq_ofNat_of_zero_le hj0
  have sPE : ∀ (a2 a3 a4 a5 a6 a7 a8 : Option D), ev T (.frv 11) (sL ns (some (.int (k : Int))) a2 a3 a4 a5 a6 a7 a8 a9 (some (.lst false (plain.map dS))) (some (.lst false (es.map dE))) a12 a13 a14) = some (.ok (.lst false (es.map dE)) (sL ns (some (.int (k : Int))) a2 a3 a4 a5 a6 a7 a8 a9 (some (.lst false (plain.map dS))) (some (.lst false (es.map dE))) a12 a13 a14)) := fun _ _ _ _ _ _ _ => frv_same rfl (by simp only [frz, frzs_E])
  have fE : frz (.lst false (es.map dE)) = .lst false (es.map dE) := by simp only [frz, frzs_E]
  have nPE : noRefs [.lst false (plain.map dS), .lst false (es.map dE)] = true := by
    show (noRefs (plain.map dS) && (noRefs (es.map dE) && true)) = true
    rw [noRefs_S, noRefs_E]
    rfl
  have gPE : ∀ (a2 a3 a4 a5 a6 a7 a8 : Option D), evG T [.frv 10, .frv 11] (sL ns (some (.int (k : Int))) a2 a3 a4 a5 a6 a7 a8 a9 (some (.lst false (plain.map dS))) (some (.lst false (es.map dE))) a12 a13 a14) = some (.ok ([D.lst false (plain.map dS), .lst false (es.map dE)].map .val) (sL ns (some (.int (k : Int))) a2 a3 a4 a5 a6 a7 a8 a9 (some (.lst false (plain.map dS))) (some (.lst false (es.map dE))) a12 a13 a14)) := fun a2 a3 a4 a5 a6 a7 a8 => by
    have := g2 (T := T) (a := .frv 10) (b := .frv 11) (s := sL ns (some (.int (k : Int))) a2 a3 a4 a5 a6 a7 a8 a9 (some (.lst false (plain.map dS))) (some (.lst false (es.map dE))) a12 a13 a14) (fun _ h => nomatch h) (fun _ h => nomatch h) (frv_same (d := .lst false (plain.map dS)) rfl (frzl plain)) (sPE _ _ _ _ _ _ _)
    rwa [frzl, fE] at this
  have e1 : ev T (.call 1 [.frv 0, .frv 1]) (sL ns (some (.int (k : Int))) a2 a3 a4 a5 a6 a7 a8 a9 a10 a11 a12 a13 a14) = some (.ok d0 (sL ns (some (.int (k : Int))) a2 a3 a4 a5 a6 a7 a8 a9 a10 a11 a12 a13 a14)) :=
    ok_call (g2 (a := .frv 0) (b := .frv 1) (fun _ h => nomatch h) (fun _ h => nomatch h) (frv_same (d := .scr ns) rfl rfl) (frv_same (d := .int (k : Int)) rfl rfl)) rfl c1 rfl
  have e2 : ev T (.call 7 [.io 2, .con (.int 8), .con (.int 6)]) (sL ns (some (.int (k : Int))) (some d0) a3 a4 a5 a6 a7 a8 a9 a10 a11 a12 a13 a14) = some (.ok (.tup [.lst false (plain.map dS), .lst false (es.map dE)]) (sL ns (some (.int (k : Int))) (some d1) a3 a4 a5 a6 a7 a8 a9 a10 a11 a12 a13 a14)) :=
    call_ioi (ds := [.int 8, .int 6]) ⟨_, rfl⟩ (g2 (a := .con (.int 8)) (b := .con (.int 6)) (fun _ h => nomatch h) (fun _ h => nomatch h) rfl rfl) rfl (by
      show (noRef d0 && true) = true
      rw [noRef_pile hp0]
      rfl) c2 rfl
  have e3 : ev T (.mk "Shape" 11 true [.frv 10, .frv 11]) (sL ns (some (.int (k : Int))) (some d1) a3 a4 a5 a6 a7 a8 a9 (some (.lst false (plain.map dS))) (some (.lst false (es.map dE))) a12 a13 a14) = some (.ok (dSh plain es) (sL ns (some (.int (k : Int))) (some d1) a3 a4 a5 a6 a7 a8 a9 (some (.lst false (plain.map dS))) (some (.lst false (es.map dE))) a12 a13 a14)) := by
    have := ok_mk (T := T) (C := "Shape") (f := 11) (gPE (some d1) a3 a4 a5 a6 a7 a8) nPE (C.init plain es hs) rfl (noRefs_shD plain es)
    have q : frzs (shD plain es) = shD plain es := frzs_id _ (by have := allF_Sh plain es; exact this)
    rw [q] at this
    exact this
  have e4 : ev T (.call 12 [.frv 10, .frv 11]) (sL ns (some (.int (k : Int))) (some d1) (some (dSh plain es)) a4 a5 a6 a7 a8 a9 (some (.lst false (plain.map dS))) (some (.lst false (es.map dE))) a12 a13 a14) = some (.ok (.dic true (rdK plain es) (rdV plain es)) (sL ns (some (.int (k : Int))) (some d1) (some (dSh plain es)) a4 a5 a6 a7 a8 a9 (some (.lst false (plain.map dS))) (some (.lst false (es.map dE))) a12 a13 a14)) :=
    ok_call (gPE _ _ _ _ _ _ _) nPE (C.reads plain es hnd (by omega)) rfl
  have e5 : ev T (.call 13 [.io 2, .frv 11, .con (.int 40)]) (sL ns (some (.int (k : Int))) (some d1) (some (dSh plain es)) (some (.dic true (rdK plain es) (rdV plain es))) a5 a6 a7 a8 a9 (some (.lst false (plain.map dS))) (some (.lst false (es.map dE))) a12 a13 a14) = some (.ok (.lst true (r.map dS)) (sL ns (some (.int (k : Int))) (some d2) (some (dSh plain es)) (some (.dic true (rdK plain es) (rdV plain es))) a5 a6 a7 a8 a9 (some (.lst false (plain.map dS))) (some (.lst false (es.map dE))) a12 a13 a14)) := by
    have hg := g2 (T := T) (a := .frv 11) (b := .con (.int 40)) (y := .int 40) (fun _ h => nomatch h) (fun _ h => nomatch h) (sPE (some d1) (some (dSh plain es)) (some (.dic true (rdK plain es) (rdV plain es))) a5 a6 a7 a8) rfl
    rw [fE] at hg
    exact call_ioi (ds := [.lst false (es.map dE), .int 40]) ⟨_, rfl⟩ hg rfl (by
      show (noRef d1 && (noRefs (es.map dE) && true)) = true
      rw [noRef_pile hp1, noRefs_E]
      rfl) c5 rfl
  have e6 : ev T (.call 16 [.frv 4, .frv 5]) (sL ns (some (.int (k : Int))) (some d2) (some (dSh plain es)) (some (.dic true (rdK plain es) (rdV plain es))) (some (.lst true (r.map dS))) a6 a7 a8 a9 (some (.lst false (plain.map dS))) (some (.lst false (es.map dE))) a12 a13 a14) = some (.ok (.lst true (t.map dS)) (sL ns (some (.int (k : Int))) (some d2) (some (dSh plain es)) (some (dRd plain es)) (some (.lst false (r.map dS))) a6 a7 a8 a9 (some (.lst false (plain.map dS))) (some (.lst false (es.map dE))) a12 a13 a14)) := by
    have hg := g2 (T := T) (a := .frv 4) (b := .frv 5) (s := sL ns (some (.int (k : Int))) (some d2) (some (dSh plain es)) (some (.dic true (rdK plain es) (rdV plain es))) (some (.lst true (r.map dS))) a6 a7 a8 a9 (some (.lst false (plain.map dS))) (some (.lst false (es.map dE))) a12 a13 a14) (fun _ h => nomatch h) (fun _ h => nomatch h) (frv_rd (plain := plain) (es := es) rfl) (frv_any (l := r) rfl)
    rw [frzl, frz_id _ hrd.fr] at hg
    exact ok_call hg (by
      show (noRef (dRd plain es) && (noRefs (r.map dS) && true)) = true
      rw [hrd.nr, noRefs_S]
      rfl) c6 rfl
  have e7 : ev T (.call 3 [.io 2, .pr .add [.pr .len [.var 6], .con (.int 1)]]) (sL ns (some (.int (k : Int))) (some d2) (some (dSh plain es)) (some (dRd plain es)) (some (.lst false (r.map dS))) (some (.lst true (t.map dS))) a7 a8 a9 (some (.lst false (plain.map dS))) (some (.lst false (es.map dE))) a12 a13 a14) = some (.ok (.int (j : Int)) (sL ns (some (.int (k : Int))) (some d3) (some (dSh plain es)) (some (dRd plain es)) (some (.lst false (r.map dS))) (some (.lst true (t.map dS))) a7 a8 a9 (some (.lst false (plain.map dS))) (some (.lst false (es.map dE))) a12 a13 a14)) :=
    call_ioi (ds := [.int ((t.map dS).length + 1)]) ⟨_, rfl⟩ (g1 (e := .pr .add [.pr .len [.var 6], .con (.int 1)]) (fun _ h => nomatch h) (ok_inc (ok_len (ds := t.map dS) (o := true) rfl))) rfl (by
      show (noRef d2 && true) = true
      rw [noRef_pile hp2]
      rfl) c7 rfl
  obtain ⟨c, d4, hc, hp4, e8⟩ := pick_name (T := T) C.take (s := sL ns (some (.int (k : Int))) (some d3) (some (dSh plain es)) (some (dRd plain es)) (some (.lst false (r.map dS))) (some (.lst true (t.map dS))) (some (.int (j : Int))) a8 a9 (some (.lst false (plain.map dS))) (some (.lst false (es.map dE))) a12 a13 a14) (i := 2) (j := 11) (es := es) (d := d3) (by decide) rfl rfl hp3 (by omega) hne (by omega)
  obtain ⟨b9, b12, b13, b14, e9⟩ := law_for T C.isT C.tight hs (rows5 r t j c) (rows5_in hr1 (fun x hx => hr1 x (ht1 x hx)) hc hr2 (by omega)) ns (some (.int (k : Int))) (some d4) (some (.lst false (r.map dS))) (some (.lst false (t.map dS))) (some (.int (j : Int))) (some (dS c)) a9 (some (.lst false (plain.map dS))) (some (.lst false (es.map dE))) a12 a13 a14
  refine ⟨some d4, some (dSh plain es), some (dRd plain es), some (.lst false (r.map dS)), some (.lst false (t.map dS)), some (.int (j : Int)), some (dS c), b9, some (.lst false (plain.map dS)), some (.lst false (es.map dE)), b12, b13, b14, ?_⟩
  refine (xs_step (x_asg1 e1 (by decide))).trans ?_
  refine (xs_step (x_asg2 e2 (by decide))).trans ?_
  refine (xs_step (x_asg1 e3 (by decide))).trans ?_
  refine (xs_step (x_asg1 e4 (by decide))).trans ?_
  refine (xs_step (x_asg1 e5 (by decide))).trans ?_
  refine (xs_step (x_asg1 e6 (by decide))).trans ?_
  refine (xs_step (x_asg1 e7 (by decide))).trans ?_
  refine (xs_step (x_asg1 e8 (by decide))).trans ?_
  refine (xs_step (x_for_ok (law_rows T ns r t j c (by omega) (by omega) (some (.int (k : Int))) (some d4) (some (dSh plain es)) (some (dRd plain es)) a9 (some (.lst false (plain.map dS))) (some (.lst false (es.map dE))) a12 a13 a14) e9)).trans ?_
  exact xs_nil _
theorem law_plain (T : Tab) (C : Calls T) (ns : List Int) : ∃ s, VI.execs T [] c_law ⟨some (.scr ns) :: List.replicate 14 none, []⟩ = some (.ok (.rt (.bl true)) s) := by
  obtain ⟨s', f1, b1, b2, b3, b4, b5, b6, b7, b8, b9, b10, b11, b12, b13, b14, rfl⟩ := forM_inv (Pn := []) (tg := [1]) (b := VI.execs T [] cTurn) ((List.range 6).map fun i : Nat => D.int (i : Int)) (fun _ s => ∃ b1 b2 b3 b4 b5 b6 b7 b8 b9 b10 b11 b12 b13 b14, s = sL ns b1 b2 b3 b4 b5 b6 b7 b8 b9 b10 b11 b12 b13 b14) (sL ns none none none none none none none none none none none none none none) ⟨_, _, _, _, _, _, _, _, _, _, _, _, _, _, rfl⟩ (by
    rintro i s d hd ⟨b1, b2, b3, b4, b5, b6, b7, b8, b9, b10, b11, b12, b13, b14, rfl⟩
    obtain ⟨hi, rfl⟩ := rng_get hd
    obtain ⟨c2, c3, c4, c5, c6, c7, c8, c9, c10, c11, c12, c13, c14, e⟩ := law_turn T C ns i hi b2 b3 b4 b5 b6 b7 b8 b9 b10 b11 b12 b13 b14
    exact ⟨by decide, _, rfl, .nx, _, e, .inl rfl, _, _, _, _, _, _, _, _, _, _, _, _, _, _, rfl⟩)
  refine ⟨sL ns b1 b2 b3 b4 b5 b6 b7 b8 b9 b10 b11 b12 b13 b14, (xs_step (x_for_ok (s1 := sL ns none none none none none none none none none none none none none none) rfl f1)).trans ?_⟩
  exact x_retv rfl
end VK

namespace VK
open VI
open PySem (PyData)
/-! steps: what they do, in plain words -/
abbrev Row := List (List Nat)
abbrev Rd := List Nat → List (List Nat)
def linkedB (rd : Rd) (a b : List Nat) : Bool := decide (a = b) || (decide (a ∈ rd b) || decide (b ∈ rd a))
/-- the places of the same command ahead -/
def ahead (row : Row) (k : Nat) : List Nat := (List.range k).filter fun j => decide (row[j]? = row[k]?)
/-- and behind -/
def behind (row : Row) (k : Nat) : List Nat := ((List.range (row.length - (k + 1))).map (k + 1 + ·)).filter fun j => decide (row[j]? = row[k]?)
def idleB (rd : Rd) (row : Row) (k : Nat) : Bool := match row[k]?, (ahead row k).getLast? with
  | some c, some p => !decide (c ∈ rd c) && !(btw row p k).any fun o => decide (o ∈ rd c)
  | _, _ => false
def lostB (rd : Rd) (row : Row) (k : Nat) : Bool := match row[k]?, (behind row k).head? with
  | some c, some j => !decide (c ∈ rd c) && !(btw row k j).any fun o => decide (c ∈ rd o)
  | _, _ => false
/-- what a step's word and index say: idle, lost, swap, the index -/
abbrev Wk := Option (Bool × Bool × Bool × Int)
def swapR (row : Row) (k : Nat) : Row := match row[k]?, row[k + 1]? with
  | some a, some b => row.take k ++ [b, a] ++ row.drop (k + 2)
  | _, _ => row
def linkAt (rd : Rd) (row : Row) (k : Nat) : Bool := match row[k]?, row[k + 1]? with
  | some a, some b => linkedB rd a b
  | _, _ => true
def afterK (rd : Rd) (row : Row) : Wk → Option Row
  | none => none
  | some (i, l, s, k) =>
    if 0 ≤ k ∧ k < (row.length : Int) then
      if (i && idleB rd row k.toNat) || (l && lostB rd row k.toNat) then some (row.take k.toNat ++ row.drop (k.toNat + 1))
      else if s && (decide (k + 1 < (row.length : Int)) && !linkAt rd row k.toNat) then some (swapR row k.toNat)
      else none
    else none
def words : D := .tup [.str "idle", .str "lost", .str "swap"]
/-- a step's word -/
structure Wd3 (a : D) (i l s : Bool) : Prop where
  e1 : eqD a (.str "idle") = some i
  e2 : eqD a (.str "lost") = some l
  e3 : eqD a (.str "swap") = some s
  me : memO a words = some (i || l || s)
  fr : allF a = true
  nr : noRef a = true
  x1 : (i && l) = false
  x2 : (i && s) = false
  x3 : (l && s) = false
def kindOf : D → Wk
  | .tup [a, .int k] => match eqD a (.str "idle"), eqD a (.str "lost"), eqD a (.str "swap") with
    | some i, some l, some s => some (i, l, s, k)
    | _, _, _ => none
  | _ => none
inductive Kind : D → Prop
  | good {a : D} {i l s : Bool} (k : Int) (h : Wd3 a i l s) : Kind (.tup [a, .int k])
  | nontup {d : D} (h : isiD "tuple" d = some false) (h1 : allF d = true) (h2 : noRef d = true) (h3 : kindOf d = none) : Kind d
  | len {ds : List D} (h : ds.length ≠ 2) (h1 : allFs ds = true) (h2 : noRefs ds = true) : Kind (.tup ds)
  | noint {a b : D} {p q m : Bool} (h1 : isiD "bool" b = some p) (h2 : isiD "int" b = some q) (h3 : p = true ∨ q = false) (h4 : memO a words = some m) (h5 : allF a = true) (h6 : allF b = true) (h7 : noRef a = true) (h8 : noRef b = true) (h9 : ∀ k, b ≠ .int k) : Kind (.tup [a, b])
def Lay (d : D) : Prop := ∃ x, toPy d = some x ∧ x.canLay0 = true ∧ x.depth ≤ 5
structure StepD (d : D) : Prop where
  k : Kind d
  y : Lay d
theorem Kind.fr {d : D} (h : Kind d) : allF d = true := by
  cases h with
  | good k h => show (allF _ && (true && true)) = true; rw [h.fr]; rfl
  | nontup h h1 h2 h3 => exact h1
  | len h h1 h2 => exact h1
  | noint h1 h2 h3 h4 h5 h6 h7 h8 h9 => show (allF _ && (allF _ && true)) = true; rw [h5, h6]; rfl
theorem Kind.nr {d : D} (h : Kind d) : noRef d = true := by
  cases h with
  | good k h => show (noRef _ && (true && true)) = true; rw [h.nr]; rfl
  | nontup h h1 h2 h3 => exact h2
  | len h h1 h2 => exact h2
  | noint h1 h2 h3 h4 h5 h6 h7 h8 h9 => show (noRef _ && (noRef _ && true)) = true; rw [h7, h8]; rfl
theorem kind_good {a : D} {i l s : Bool} {k : Int} (h : Wd3 a i l s) : kindOf (.tup [a, .int k]) = some (i, l, s, k) := by
  simp only [kindOf, h.e1, h.e2, h.e3]
theorem kind_len {ds : List D} (h : ds.length ≠ 2) : kindOf (.tup ds) = none := by
  unfold kindOf
  split
  · rename_i e
    cases e
    exact absurd rfl h
  · rfl
theorem kind_noint {a b : D} (h : ∀ k, b ≠ .int k) : kindOf (.tup [a, b]) = none := by
  unfold kindOf
  split
  · rename_i a' k e
    cases e
    exact absurd rfl (h k)
  · rfl
theorem allFs_K {ds : List D} (h : ∀ d ∈ ds, Kind d) : allFs ds = true := by
  induction ds with
  | nil => rfl
  | cons d ds ih =>
    show (allF d && allFs ds) = true
    rw [(h d List.mem_cons_self).fr, ih fun e he => h e (List.mem_cons_of_mem _ he)]
    rfl
theorem noRefs_K {ds : List D} (h : ∀ d ∈ ds, Kind d) : noRefs ds = true := by
  induction ds with
  | nil => rfl
  | cons d ds ih =>
    show (noRef d && noRefs ds) = true
    rw [(h d List.mem_cons_self).nr, ih fun e he => h e (List.mem_cons_of_mem _ he)]
    rfl
def runD (rd : Rd) : List D → Row → Option Row
  | [], row => some row
  | d :: ds, row => (afterK rd row (kindOf d)).bind (runD rd ds)
/-! rows stay within the cells -/
theorem swapR_mem {row : Row} {k : Nat} {x : List Nat} (h : x ∈ swapR row k) : x ∈ row := by
  unfold swapR at h
  split at h
  · rename_i a b ha hb
    simp only [List.mem_append, List.mem_cons, List.mem_nil_iff, or_false] at h
    rcases h with (h | rfl | rfl) | h
    · exact List.mem_of_mem_take h
    · exact List.mem_of_getElem? hb
    · exact List.mem_of_getElem? ha
    · exact List.mem_of_mem_drop h
  · exact h
theorem swapR_len {row : Row} {k : Nat} : (swapR row k).length = row.length := by
  unfold swapR
  split
  · rename_i a b ha hb
    have h1 := (List.getElem?_eq_some_iff.mp hb).1
    simp only [List.length_append, List.length_take, List.length_drop, List.length_cons, List.length_nil]
    omega
  · rfl
theorem afterK_mem {rd : Rd} {row row' : Row} {w : Wk} (h : afterK rd row w = some row') : (∀ x ∈ row', x ∈ row) ∧ row'.length ≤ row.length := by
  match w, h with
  | some (i, l, s, k), h =>
    simp only [afterK] at h
    split at h
    · split at h
      · cases h
        refine ⟨fun x hx => ?_, by simp only [List.length_append, List.length_take, List.length_drop]; omega⟩
        rcases List.mem_append.mp hx with hx | hx
        · exact List.mem_of_mem_take hx
        · exact List.mem_of_mem_drop hx
      · split at h
        · cases h
          exact ⟨fun x hx => swapR_mem hx, by rw [swapR_len]; exact Nat.le_refl _⟩
        · cases h
    · cases h
end VK

namespace VK
open VI
open PySem (PyData)
/-- [j for j in places if row[j] == cell]: exactly -/
theorem place_filt {T : Tab} {tg : Nat} {cs : List Ex} (t : Nat → Bool) (l : List Nat) (hl : l.length < lim) (I : VS → Prop) (s : VS) (h0 : I s)
    (st : ∀ (s : VS) (x : Nat), x ∈ l → I s → ∃ s', evc T cs ⟨s.ρ.set tg (some (.int (x : Int))), s.μ⟩ = some (.ok (t x) s') ∧ s'.ρ[tg]? = some (some (.int (x : Int))) ∧ I s') :
    ∃ s', loopC (lcBody [tg] (evc T cs) (ev T (.frv tg))) (l.map fun j : Nat => D.int (j : Int)) [] s = some (.ok ((l.filter t).map fun j : Nat => D.int (j : Int)) s') ∧ I s' := by
  obtain ⟨ds, s', e, hI, rfl⟩ := loopC_inv (f := lcBody [tg] (evc T cs) (ev T (.frv tg))) (l.map fun j : Nat => D.int (j : Int)) (fun i acc s => I s ∧ acc = ((l.take i).filter t).map fun j : Nat => D.int (j : Int)) [] s ⟨h0, rfl⟩ (by
    rintro i acc s d hd ⟨hI, rfl⟩
    rw [List.getElem?_map] at hd
    cases hx : l[i]? with
    | none => rw [hx] at hd; cases hd
    | some x =>
      rw [hx] at hd
      cases hd
      obtain ⟨s1, e1, e2, e3⟩ := st s x (List.mem_of_getElem? hx) hI
      have htk : l.take (i + 1) = l.take i ++ [x] := by rw [List.take_add_one, hx]; rfl
      have e4 : lcBody [tg] (evc T cs) (ev T (.frv tg)) (.int (x : Int)) s = if t x = true then some (.ok (some (.int (x : Int))) s1) else some (.ok none s1) := by
        rw [lcBody_1, e1, b_ok]
        cases t x with
        | true =>
          simp only [if_true]
          rw [frv_same e2 rfl, b_ok]
          rfl
        | false => rfl
      cases ht : t x with
      | true =>
        rw [ht, if_pos rfl] at e4
        refine ⟨some (.int (x : Int)), s1, e4, ?_, e3, ?_⟩
        · have h1 := List.length_filter_le t (l.take i)
          rw [List.length_take] at h1
          rw [List.length_map]
          omega
        · rw [htk, List.filter_append, List.map_append, List.filter_cons, if_pos ht]
          rfl
      | false =>
        rw [ht, if_neg (by decide)] at e4
        refine ⟨none, s1, e4, e3, ?_⟩
        rw [htk, List.filter_append, List.map_append, List.filter_cons, if_neg (by rw [ht]; decide)]
        simp)
  rw [List.length_map, List.take_length] at e
  exact ⟨s', e, hI⟩
section
variable {T : Tab} {s : VS}
/-- row[i] -/
theorem ok_ixv {i j k : Nat} {o : Bool} {row : Row} (h : s.ρ[i]? = some (some (.lst o (row.map dS)))) (hj : s.ρ[j]? = some (some (.int (k : Int)))) (hk : k < row.length) : ev T (.pr .ix [.var i, .var j]) s = some (.ok (dS row[k]) s) :=
  q2 (by rfl) (qv h) (qv hj) (ix_strs o row k hk) rfl
theorem qixv {i j k : Nat} {o : Bool} {row : Row} (h : s.ρ[i]? = some (some (.lst o (row.map dS)))) (hj : s.ρ[j]? = some (some (.int (k : Int)))) (hk : k < row.length) : evq T s (.pr .ix [.var i, .var j]) = some (dS row[k]) :=
  qp2 (qv h) (qv hj) (ix_strs o row k hk)
/-- row[i] == cell -/
theorem ok_ixeq {i j c k : Nat} {o : Bool} {row : Row} {x : List Nat} (h : s.ρ[i]? = some (some (.lst o (row.map dS)))) (hj : s.ρ[j]? = some (some (.int (k : Int)))) (hc : s.ρ[c]? = some (some (dS x))) (hk : k < row.length) (lx : low x) (lr : ∀ l ∈ row, low l) :
    ev T (.pr .eq [.pr .ix [.var i, .var j], .var c]) s = some (.ok (.bl (decide (row[k] = x))) s) :=
  q2 (by rfl) (qixv h hj hk) (qv hc) (by simp only [Pr.fn, fn2, eqD_str _ _ (lr _ (List.getElem_mem hk)) lx, Option.map_some]) rfl
/-- xs == [] for places -/
theorem ints_nil {i : Nat} {o : Bool} {l : List Nat} (h : s.ρ[i]? = some (some (.lst o (l.map fun j : Nat => D.int (j : Int))))) : ev T (.pr .eq [.var i, .lst []]) s = some (.ok (.bl (decide (l = []))) s) := by
  have e := eqD_ints o false (l.map fun j : Nat => (j : Int)) []
  rw [List.map_nil, List.map_map] at e
  rw [ev_prg _ _ _ (by rfl), evA_var, h, sR_some, evA_cons (.lst []) [] _ (fun _ h => nomatch h)]
  rw [show ev T (.lst []) s = some (.ok (.lst true []) s) by rw [ev_lst, evs_nil, b_ok]; rfl, b_ok, evA_nil, b_ok, b_ok, b_ok]
  simp only [AV.gets, AV.get, h, gR_some, Pr.fn, fn2, frz, frzs]
  rw [show eqD (.lst o (l.map fun j : Nat => D.int (j : Int))) (.lst false []) = some (decide (l = [])) by
    refine (show _ = _ from e).trans ?_
    congr 1
    cases l <;> simp, Option.map_some]
  rfl
theorem ints_nnil {i : Nat} {o : Bool} {l : List Nat} (h : s.ρ[i]? = some (some (.lst o (l.map fun j : Nat => D.int (j : Int))))) : ev T (.pr .ne [.var i, .lst []]) s = some (.ok (.bl (!decide (l = []))) s) := by
  have e := eqD_ints o false (l.map fun j : Nat => (j : Int)) []
  rw [List.map_nil, List.map_map] at e
  rw [ev_prg _ _ _ (by rfl), evA_var, h, sR_some, evA_cons (.lst []) [] _ (fun _ h => nomatch h)]
  rw [show ev T (.lst []) s = some (.ok (.lst true []) s) by rw [ev_lst, evs_nil, b_ok]; rfl, b_ok, evA_nil, b_ok, b_ok, b_ok]
  simp only [AV.gets, AV.get, h, gR_some, Pr.fn, fn2, frz, frzs]
  rw [show eqD (.lst o (l.map fun j : Nat => D.int (j : Int))) (.lst false []) = some (decide (l = [])) by
    refine (show _ = _ from e).trans ?_
    congr 1
    cases l <;> simp, Option.map_some]
  rfl
theorem low_at {rd : Rd} {cells : List (List Nat)} {dd : D} (h : RdOk dd cells rd) {c : List Nat} (hc : c ∈ cells) : low c := h.low c hc
/-- c in reads[x] -/
theorem ok_memrd {i j d : Nat} {dd : D} {cells : List (List Nat)} {rd : Rd} {c x : List Nat} (hr : RdOk dd cells rd) (hd : s.ρ[d]? = some (some dd)) (hi : s.ρ[i]? = some (some (dS c))) (hj : s.ρ[j]? = some (some (dS x))) (hc : c ∈ cells) (hx : x ∈ cells) :
    ev T (.pr .mem [.var i, .pr .ixd [.var d, .var j]]) s = some (.ok (.bl (decide (c ∈ rd x))) s) :=
  q2 (by rfl) (qv hi) (qp2 (qv hd) (qv hj) (hr.ixd hx)) (by simp only [Pr.fn, fn2, memO_strs false c (rd x) (hr.low c hc) (hr.lows hx), Option.map_some]) rfl
theorem filt_nil (t : List Nat → Bool) (l : Row) : decide (l.filter t = []) = !l.any t := by
  rw [any_filter, Bool.not_not]
end
end VK

namespace VK
open VI
open PySem (PyData)
section
variable {T : Tab} {s s1 : VS} {a b : Ex}
theorem ok_orp {x y : Bool} (h : ev T a s = some (.ok (.bl x) s)) (h2 : ev T b s = some (.ok (.bl y) s)) : ev T (.or a b) s = some (.ok (.bl (x || y)) s) := by
  cases x with
  | true => exact ok_or_t h
  | false => exact ok_or_f h h2
theorem ok_andp {x y : Bool} (h : ev T a s = some (.ok (.bl x) s)) (h2 : ev T b s = some (.ok (.bl y) s)) : ev T (.and a b) s = some (.ok (.bl (x && y)) s) := by
  cases x with
  | true => exact ok_and_t h h2
  | false => exact ok_and_f h
/-- [..] == [] -/
theorem ok_lcnil {tg : List Nat} {sk : Sk} {src cs : List Ex} {e : Ex} {l : Row} (h : ev T (.lc tg sk src cs e) s = some (.ok (.lst true (l.map dS)) s1)) (hl : ∀ x ∈ l, low x) : ev T (.pr .eq [.lc tg sk src cs e, .lst []]) s = some (.ok (.bl (decide (l = []))) s1) := by
  have q := eqD_strs false false l [] hl (fun _ h => nomatch h)
  rw [List.map_nil] at q
  rw [ev_prg _ _ _ (by rfl), evA_cons (.lc _ _ _ _ _) _ _ (fun _ h => nomatch h), h, b_ok, evA_cons (.lst []) [] _ (fun _ h => nomatch h)]
  rw [show ev T (.lst []) s1 = some (.ok (.lst true []) s1) by rw [ev_lst, evs_nil, b_ok]; rfl, b_ok, evA_nil, b_ok, b_ok, b_ok]
  simp only [AV.gets, AV.get, gR_some, Pr.fn, fn2, frz, frzs, frzs_S, q, Option.map_some]
/-- row[i:j] with any two places -/
theorem slc_btw {i p k : Nat} {o : Bool} {row : Row} {lo hi : Ex} (h : s.ρ[i]? = some (some (.lst o (row.map dS)))) (h1 : ev T lo s = some (.ok (.int (p : Int)) s)) (h2 : ev T hi s = some (.ok (.int (k : Int)) s)) (l1 : p ≤ row.length) (l2 : k ≤ row.length) :
    ev T (.slc (.var i) [lo] [hi]) s = some (.ok (.lst true (((row.take k).drop p).map dS)) s) := by
  rw [ev_slcv, h, sR_some, evP_one, h1, b_ok, iR_i, b_ok, evP_one, h2, b_ok, iR_i, b_ok]
  simp only [AV.get, h]
  rw [slR_some, slD_l2 _ _ _ _ (allFs_S _) (by rw [List.length_map]; exact l1) (by rw [List.length_map]; exact l2), Option.map_some, List.map_drop, List.map_take]
end
theorem ix_ints0 (o : Bool) (l : List Nat) (i : Nat) (h : i < l.length) : ixD (.lst o (l.map fun j : Nat => D.int (j : Int))) (.int (i : Int)) = some (.int (l[i] : Int)) := by
  rw [ix_l, at_nat, List.getElem?_map, show l[i]? = some l[i] by simp [h]]
  rfl
theorem ix_last (o : Bool) (l : List Nat) (p : Nat) (h : l.getLast? = some p) : ixD (.lst o (l.map fun j : Nat => D.int (j : Int))) (.int (-1)) = some (.int (p : Int)) := by
  have hne : l ≠ [] := fun e => by rw [e] at h; cases h
  have hl : 0 < l.length := List.length_pos_iff.mpr hne
  rw [List.getLast?_eq_getElem?] at h
  rw [ix_l]
  have e : L2.atI (l.map fun j : Nat => D.int (j : Int)) (-1) = some (.int (p : Int)) := by
    unfold L2.atI L2.ixN
    rw [List.length_map, if_neg (by omega), if_pos (by omega)]
    have : ((l.length : Int) + -1).toNat = l.length - 1 := by omega
    simp only [Option.bind_some]
    rw [show (-1 + (l.length : Int)).toNat = l.length - 1 by omega, List.getElem?_map, h]
    rfl
  rw [e]
  rfl
abbrev sA7 (dd : D) (row : Row) (k : Nat) (a3 a4 a5 a6 : Option D) : VS := ⟨[some dd, some (.lst false (row.map dS)), some (.int (k : Int)), a3, a4, a5, a6], []⟩
abbrev Dj (l : List Nat) : List D := l.map fun j : Nat => D.int (j : Int)
theorem same_at {row : Row} {j k : Nat} (hj : j < row.length) (hk : k < row.length) : decide (row[j]? = row[k]?) = decide (row[j] = row[k]) := by
  rw [List.getElem?_eq_getElem hj, List.getElem?_eq_getElem hk]
  by_cases h : row[j] = row[k] <;> simp [h]
/-- the filter of places in the law's own tests -/
theorem places7 {T : Tab} {dd : D} {row : Row} {k : Nat} (hk : k < row.length) (lr : ∀ l ∈ row, low l) (l : List Nat) (hl : ∀ j ∈ l, j < row.length) (hll : l.length < lim) (a4 a6 : Option D) :
    ∃ y, loopC (lcBody [5] (evc T [.pr .eq [.pr .ix [.var 1, .var 5], .var 3]]) (ev T (.frv 5))) (Dj l) [] (sA7 dd row k (some (dS row[k])) a4 none a6) =
      some (.ok (Dj (l.filter fun j => decide (row[j]? = row[k]?))) (sA7 dd row k (some (dS row[k])) a4 y a6)) := by
  obtain ⟨s', e, y, rfl⟩ := place_filt (T := T) (tg := 5) (cs := [.pr .eq [.pr .ix [.var 1, .var 5], .var 3]]) (fun j => decide (row[j]? = row[k]?)) l hll (fun s => ∃ y, s = sA7 dd row k (some (dS row[k])) a4 y a6) (sA7 dd row k (some (dS row[k])) a4 none a6) ⟨none, rfl⟩ (by
    rintro s x hx ⟨y, rfl⟩
    refine ⟨sA7 dd row k (some (dS row[k])) a4 (some (.int (x : Int))) a6, ?_, rfl, _, rfl⟩
    show evc T _ (sA7 dd row k (some (dS row[k])) a4 (some (.int (x : Int))) a6) = _
    rw [evc_one, ok_ixeq (i := 1) (j := 5) (c := 3) (k := x) (o := false) (row := row) (x := row[k]) rfl rfl rfl (hl x hx) (lr _ (List.getElem_mem hk)) lr, b_ok, tR_bl, ret_app, same_at (hl x hx) hk])
  exact ⟨y, e⟩
theorem ahead_lt {row : Row} {k p : Nat} (h : p ∈ ahead row k) : p < k := List.mem_range.mp (List.mem_filter.mp h).1
theorem behind_lt {row : Row} {k p : Nat} (h : p ∈ behind row k) : k < p ∧ p < row.length := by
  obtain ⟨i, hi, rfl⟩ := List.mem_map.mp (List.mem_filter.mp h).1
  have := List.mem_range.mp hi
  omega
def IdleS (m : List D → List RO → Option CR) : Prop := ∀ (dd : D) (cells : List (List Nat)) (rd : Rd) (row : Row) (k : Nat), RdOk dd cells rd → (∀ x ∈ row, x ∈ cells) → row.length ≤ 1000 → k < row.length → m [dd, .lst false (row.map dS), .int (k : Int)] [] = some (.ok (.bl (idleB rd row k)) [none, none, none] [])
theorem idle_ok (T : Tab) : IdleS (runF T 3 7 [] c_law_idle) := by
  intro dd cells rd row k hr hin hl hk
  have hlim : lim = 1000000 := rfl
  have hcm : row[k] ∈ cells := hin _ (List.getElem_mem hk)
  have lr : ∀ l ∈ row, low l := fun l h => hr.low l (hin l h)
  obtain ⟨y, e2⟩ := places7 (T := T) (dd := dd) hk lr (List.range k) (fun j h => by have := List.mem_range.mp h; omega) (by rw [List.length_range]; omega) none none
  unfold c_law_idle
  rw [runF_eq 3 7 _ [dd, .lst false (row.map dS), .int k] [] rfl]
  show runR 3 [] (VI.execs T [] _ (sA7 dd row k none none none none)) = _
  rw [xs_step (x_asg1 (ok_ixv (o := false) (row := row) (k := k) rfl rfl hk) (by decide))]
  have e3 : ev T (.lc [5] .rng1 [.frv 2] [.pr .eq [.pr .ix [.var 1, .var 5], .var 3]] (.frv 5)) (sA7 dd row k (some (dS row[k])) none none none) = some (.ok (.lst true (Dj (ahead row k))) (sA7 dd row k (some (dS row[k])) none none none)) := by
    rw [ev_lc, src_app, evs_one (frv_same (d := .int (k : Int)) rfl rfl), b_ok]
    simp only [frz]
    rw [srcD_r1 k (by omega), oR_some, b_ok, lcM_ok e2]
    rfl
  refine (congrArg (runR 3 []) (xs_step (x_asg1 e3 (by decide)))).trans ?_
  show runR 3 [] (VI.execs T [] _ (sA7 dd row k (some (dS row[k])) (some (.lst true (Dj (ahead row k)))) none none)) = _
  have e4 := ok_orp (ints_nil (T := T) (i := 4) (s := sA7 dd row k (some (dS row[k])) (some (.lst true (Dj (ahead row k)))) none none) (l := ahead row k) rfl) (ok_memrd (T := T) (i := 3) (j := 3) (d := 0) hr rfl rfl rfl hcm hcm)
  have hgc : row[k]? = some row[k] := by simp [hk]
  cases hq : (ahead row k).getLast? with
  | none =>
    have hnil : ahead row k = [] := List.getLast?_eq_none_iff.mp hq
    rw [decide_eq_true hnil, Bool.true_or] at e4
    rw [xs_cons, x_if_true e4, x_retv (d := .bl false) rfl]
    have : idleB rd row k = false := by unfold idleB; rw [hgc, hq]
    rw [this]
    rfl
  | some p =>
    have hne : ¬ ahead row k = [] := fun e => by rw [e] at hq; cases hq
    have hp : p < k := ahead_lt (List.mem_of_getLast? hq)
    rw [decide_eq_false hne, Bool.false_or] at e4
    have hI : idleB rd row k = (!decide (row[k] ∈ rd row[k]) && !(btw row p k).any fun o => decide (o ∈ rd row[k])) := by unfold idleB; rw [hgc, hq]
    by_cases hself : row[k] ∈ rd row[k]
    · rw [decide_eq_true hself] at e4
      rw [xs_cons, x_if_true e4, x_retv (d := .bl false) rfl, hI, decide_eq_true hself]
      rfl
    · rw [decide_eq_false hself] at e4
      rw [xs_step (x_skip e4), hI, decide_eq_false hself]
      let sB : VS := sA7 dd row k (some (dS row[k])) (some (.lst true (Dj (ahead row k)))) none none
      have l1 : ev T (.pr .add [.pr .ix [.var 4, .pr .neg [.con (.int 1)]], .con (.int 1)]) sB = some (.ok (.int ((p + 1 : Nat) : Int)) sB) :=
        ok_inc (p := .ix) (as := [.var 4, .pr .neg [.con (.int 1)]]) (q2 (p := .ix) (a := .var 4) (b := .pr .neg [.con (.int 1)]) (by rfl) (x := .lst true (Dj (ahead row k))) (y := .int (-1)) (qv rfl) (by rfl) (ix_last true _ p hq) rfl)
      have l2 := slc_btw (T := T) (s := sB) (i := 1) (row := row) (o := false) (lo := .pr .add [.pr .ix [.var 4, .pr .neg [.con (.int 1)]], .con (.int 1)]) (hi := .frv 2) rfl l1 (frv_same (d := .int (k : Int)) rfl rfl) (by omega) (by omega)
      have hb : ∀ o ∈ btw row p k, o ∈ cells := fun o ho => hin o (List.mem_of_mem_take (List.mem_of_mem_drop ho))
      have hbl : (btw row p k).length < lim := by unfold btw; rw [List.length_drop, List.length_take]; omega
      obtain ⟨s', f1, y6, rfl⟩ := filt_exact (T := T) (cs := [.pr .mem [.var 6, .pr .ixd [.var 0, .var 3]]]) (tg := 6) (fun o => decide (o ∈ rd row[k])) (btw row p k) hbl (fun s => ∃ y, s = sA7 dd row k (some (dS row[k])) (some (.lst true (Dj (ahead row k)))) none y) (sA7 dd row k (some (dS row[k])) (some (.lst true (Dj (ahead row k)))) none none) ⟨none, rfl⟩ (by
        rintro s x hx ⟨y, rfl⟩
        refine ⟨sA7 dd row k (some (dS row[k])) (some (.lst true (Dj (ahead row k)))) none (some (dS x)), ?_, rfl, _, rfl⟩
        show evc T _ (sA7 dd row k (some (dS row[k])) (some (.lst true (Dj (ahead row k)))) none (some (dS x))) = _
        rw [evc_one, ok_memrd (i := 6) (j := 3) (d := 0) hr rfl rfl rfl (hb x hx) hcm, b_ok, tR_bl, ret_app])
      have l3 : ev T (.lc [6] .val [.slc (.var 1) [.pr .add [.pr .ix [.var 4, .pr .neg [.con (.int 1)]], .con (.int 1)]] [.frv 2]] [.pr .mem [.var 6, .pr .ixd [.var 0, .var 3]]] (.frv 6)) sB = some (.ok (.lst true (((btw row p k).filter fun o => decide (o ∈ rd row[k])).map dS)) sB) := by
        rw [ev_lc, src_app, evs_one l2, b_ok, frzt]
        rw [show srcD .val [.lst false (((row.take k).drop (p + 1)).map dS)] = some ((btw row p k).map dS) from rfl, oR_some, b_ok, lcM_ok f1]
        rfl
      have l4 := ok_lcnil l3 fun x hx => hr.low x (hb x (List.mem_filter.mp hx).1)
      rw [filt_nil] at l4
      rw [x_retv l4]
      rfl
end VK

namespace VK
open VI
open PySem (PyData)
def LostS (m : List D → List RO → Option CR) : Prop := ∀ (dd : D) (cells : List (List Nat)) (rd : Rd) (row : Row) (k : Nat), RdOk dd cells rd → (∀ x ∈ row, x ∈ cells) → row.length ≤ 1000 → k < row.length → m [dd, .lst false (row.map dS), .int (k : Int)] [] = some (.ok (.bl (lostB rd row k)) [none, none, none] [])
theorem ok_incv {T : Tab} {i k : Nat} {s : VS} (h : s.ρ[i]? = some (some (.int (k : Int)))) : ev T (.pr .add [.var i, .con (.int 1)]) s = some (.ok (.int ((k + 1 : Nat) : Int)) s) := by
  rw [ev_prg _ _ _ (by rfl), evA_var, h, sR_some, evA_cons (.con _) [] _ (fun _ h => nomatch h), ev_con]
  simp only [okF, allF, if_true, b_ok, evA_nil, AV.gets, AV.get, h, gR_some, frz, Pr.fn, fn2, addD_ii, Option.map_some]
  rfl
theorem lost_ok (T : Tab) : LostS (runF T 3 7 [] c_law_lost) := by
  intro dd cells rd row k hr hin hl hk
  have hlim : lim = 1000000 := rfl
  have hlimI : (lim : Int) = 1000000 := rfl
  have hcm : row[k] ∈ cells := hin _ (List.getElem_mem hk)
  have lr : ∀ l ∈ row, low l := fun l h => hr.low l (hin l h)
  obtain ⟨y, e2⟩ := places7 (T := T) (dd := dd) hk lr ((List.range (row.length - (k + 1))).map (k + 1 + ·)) (fun j h => by
    obtain ⟨i, hi, rfl⟩ := List.mem_map.mp h
    have := List.mem_range.mp hi
    omega) (by rw [List.length_map, List.length_range]; omega) none none
  unfold c_law_lost
  rw [runF_eq 3 7 _ [dd, .lst false (row.map dS), .int k] [] rfl]
  show runR 3 [] (VI.execs T [] _ (sA7 dd row k none none none none)) = _
  rw [xs_step (x_asg1 (ok_ixv (o := false) (row := row) (k := k) rfl rfl hk) (by decide))]
  have e3 : ev T (.lc [5] .rng2 [.pr .add [.var 2, .con (.int 1)], .pr .len [.var 1]] [.pr .eq [.pr .ix [.var 1, .var 5], .var 3]] (.frv 5)) (sA7 dd row k (some (dS row[k])) none none none) = some (.ok (.lst true (Dj (behind row k))) (sA7 dd row k (some (dS row[k])) none none none)) := by
    rw [ev_lc, src_app, evs_two (ok_incv (k := k) rfl) (ok_len (ds := row.map dS) (o := false) rfl), b_ok]
    have e : srcD .rng2 [.int ((k + 1 : Nat) : Int), .int ((row.map dS).length : Int)] = some (Dj ((List.range (row.length - (k + 1))).map (k + 1 + ·))) := by
      rw [List.length_map]
      simp only [srcD]
      rw [if_pos (by omega)]
      have e1 : ((row.length : Int) - ((k + 1 : Nat) : Int)).toNat = row.length - (k + 1) := by omega
      rw [e1]
      unfold Dj
      rw [List.map_map]
      congr 1
    simp only [frz]
    rw [e, oR_some, b_ok, lcM_ok e2]
    rfl
  refine (congrArg (runR 3 []) (xs_step (x_asg1 e3 (by decide)))).trans ?_
  show runR 3 [] (VI.execs T [] _ (sA7 dd row k (some (dS row[k])) (some (.lst true (Dj (behind row k)))) none none)) = _
  have e4 := ok_orp (ints_nil (T := T) (i := 4) (s := sA7 dd row k (some (dS row[k])) (some (.lst true (Dj (behind row k)))) none none) (l := behind row k) rfl) (ok_memrd (T := T) (i := 3) (j := 3) (d := 0) hr rfl rfl rfl hcm hcm)
  have hgc : row[k]? = some row[k] := by simp [hk]
  cases hq : (behind row k).head? with
  | none =>
    have hnil : behind row k = [] := List.head?_eq_none_iff.mp hq
    rw [decide_eq_true hnil, Bool.true_or] at e4
    rw [xs_cons, x_if_true e4, x_retv (d := .bl false) rfl]
    have : lostB rd row k = false := by unfold lostB; rw [hgc, hq]
    rw [this]
    rfl
  | some p =>
    have hne : ¬ behind row k = [] := fun e => by rw [e] at hq; cases hq
    obtain ⟨hp, hp2⟩ := behind_lt (List.mem_of_head? hq)
    rw [decide_eq_false hne, Bool.false_or] at e4
    have hI : lostB rd row k = (!decide (row[k] ∈ rd row[k]) && !(btw row k p).any fun o => decide (row[k] ∈ rd o)) := by unfold lostB; rw [hgc, hq]
    by_cases hself : row[k] ∈ rd row[k]
    · rw [decide_eq_true hself] at e4
      rw [xs_cons, x_if_true e4, x_retv (d := .bl false) rfl, hI, decide_eq_true hself]
      rfl
    · rw [decide_eq_false hself] at e4
      rw [xs_step (x_skip e4), hI, decide_eq_false hself]
      let sB : VS := sA7 dd row k (some (dS row[k])) (some (.lst true (Dj (behind row k)))) none none
      have hb0 : 0 < (behind row k).length := List.length_pos_iff.mpr hne
      have hp0 : (behind row k)[0] = p := by
        have := List.head?_eq_getElem? (l := behind row k)
        rw [hq, List.getElem?_eq_getElem hb0] at this
        exact (Option.some.inj this).symm
      have l0 : ev T (.pr .ix [.var 4, .con (.int 0)]) sB = some (.ok (.int (p : Int)) sB) := by
        refine q2 (p := .ix) (a := .var 4) (b := .con (.int 0)) (by rfl) (x := .lst true (Dj (behind row k))) (y := .int 0) (qv rfl) rfl ?_ rfl
        have := ix_ints0 true (behind row k) 0 hb0
        rw [hp0] at this
        exact this
      have l2 := slc_btw (T := T) (s := sB) (i := 1) (row := row) (o := false) (lo := .pr .add [.var 2, .con (.int 1)]) (hi := .pr .ix [.var 4, .con (.int 0)]) rfl (ok_incv (k := k) rfl) l0 (by omega) (by omega)
      have hb : ∀ o ∈ btw row k p, o ∈ cells := fun o ho => hin o (List.mem_of_mem_take (List.mem_of_mem_drop ho))
      have hbl : (btw row k p).length < lim := by unfold btw; rw [List.length_drop, List.length_take]; omega
      obtain ⟨s', f1, y6, rfl⟩ := filt_exact (T := T) (cs := [.pr .mem [.var 3, .pr .ixd [.var 0, .var 6]]]) (tg := 6) (fun o => decide (row[k] ∈ rd o)) (btw row k p) hbl (fun s => ∃ y, s = sA7 dd row k (some (dS row[k])) (some (.lst true (Dj (behind row k)))) none y) (sA7 dd row k (some (dS row[k])) (some (.lst true (Dj (behind row k)))) none none) ⟨none, rfl⟩ (by
        rintro s x hx ⟨y, rfl⟩
        refine ⟨sA7 dd row k (some (dS row[k])) (some (.lst true (Dj (behind row k)))) none (some (dS x)), ?_, rfl, _, rfl⟩
        show evc T _ (sA7 dd row k (some (dS row[k])) (some (.lst true (Dj (behind row k)))) none (some (dS x))) = _
        rw [evc_one, ok_memrd (i := 3) (j := 6) (d := 0) hr rfl rfl rfl hcm (hb x hx), b_ok, tR_bl, ret_app])
      have l3 : ev T (.lc [6] .val [.slc (.var 1) [.pr .add [.var 2, .con (.int 1)]] [.pr .ix [.var 4, .con (.int 0)]]] [.pr .mem [.var 3, .pr .ixd [.var 0, .var 6]]] (.frv 6)) sB = some (.ok (.lst true (((btw row k p).filter fun o => decide (row[k] ∈ rd o)).map dS)) sB) := by
        rw [ev_lc, src_app, evs_one l2, b_ok, frzt]
        rw [show srcD .val [.lst false (((row.take p).drop (k + 1)).map dS)] = some ((btw row k p).map dS) from rfl, oR_some, b_ok, lcM_ok f1]
        rfl
      have l4 := ok_lcnil l3 fun x hx => hr.low x (hb x (List.mem_filter.mp hx).1)
      rw [filt_nil] at l4
      rw [x_retv l4]
      rfl
def LinkS (m : List D → List RO → Option CR) : Prop := ∀ (dd : D) (cells : List (List Nat)) (rd : Rd) (a b : List Nat), RdOk dd cells rd → a ∈ cells → b ∈ cells → m [dd, dS a, dS b] [] = some (.ok (.bl (linkedB rd a b)) [none, none, none] [])
theorem link_ok (T : Tab) : LinkS (runF T 3 3 [] c_law_linked) := by
  intro dd cells rd a b hr ha hb
  unfold c_law_linked
  rw [runF_eq 3 3 _ [dd, dS a, dS b] [] rfl]
  show runR 3 [] (VI.execs T [] _ ⟨[some dd, some (dS a), some (dS b)], []⟩) = _
  rw [x_retv (ok_orp (x := decide (a = b)) (q2 (p := .eq) (by rfl) (x := dS a) (y := dS b) (qv rfl) (qv rfl) (by simp only [Pr.fn, fn2, eqD_str a b (hr.low a ha) (hr.low b hb), Option.map_some]) rfl) (ok_orp (ok_memrd (i := 1) (j := 2) (d := 0) hr rfl rfl rfl ha hb) (ok_memrd (i := 2) (j := 1) (d := 0) hr rfl rfl rfl hb ha)))]
  rfl
end VK

namespace VK
open VI
open PySem (PyData)
def outR : Option Row → D
  | some r => .lst true (r.map dS)
  | none => .non
def AfterS (m : List D → List RO → Option CR) : Prop := ∀ (dd : D) (cells : List (List Nat)) (rd : Rd) (row : Row) (d : D), RdOk dd cells rd → (∀ x ∈ row, x ∈ cells) → row.length ≤ 400 → Kind d → m [dd, .lst false (row.map dS), d] [] = some (.ok (outR (afterK rd row (kindOf d))) [none, none, none] [])
abbrev sF (dd : D) (row : Row) (d : D) (a3 a4 : Option D) : VS := ⟨[some dd, some (.lst false (row.map dS)), some d, a3, a4], []⟩
theorem tup_frz2 {a b : D} (ha : allF a = true) (hb : allF b = true) : allF (.tup [a, b]) = true := by
  show (allF a && (allF b && true)) = true
  rw [ha, hb]
  rfl
theorem ix_tup1 {a b : D} (h : allF b = true) : ixD (.tup [a, b]) (.int 1) = some b := by
  show ((L2.atI [a, b] ((1 : Nat) : Int)).bind okA) = _
  rw [at_nat]
  simp only [List.getElem?_cons_succ, List.getElem?_cons_zero, Option.bind_some, okA, h, if_true]
section
variable {T : Tab} {s : VS}
theorem ok_isi {t : String} {a : Ex} {x : D} {b : Bool} (hq : isQ a = true) (h : evq T s a = some x) (hb : isiD t x = some b) : ev T (.pr (.isi t) [a]) s = some (.ok (.bl b) s) :=
  q1 (by simp [Pr.quiet, hq]) h (by simp only [Pr.fn, fn1, hb, Option.map_some]) rfl
theorem ok_len2 {i : Nat} {ds : List D} (h : s.ρ[i]? = some (some (.tup ds))) : ev T (.pr .ne [.pr .len [.var i], .con (.int 2)]) s = some (.ok (.bl (!decide (ds.length = 2))) s) := by
  refine q2 (p := .ne) (by rfl) (x := .int (ds.length : Int)) (y := .int 2) (qp1 (x := .tup ds) (qv h) rfl) rfl ?_ rfl
  simp only [Pr.fn, fn2, eqD_int, Option.map_some]
  by_cases h : ds.length = 2
  · simp [h]
  · have : ¬ (ds.length : Int) = 2 := by omega
    simp [h, this]
theorem ok_addk {i k m : Nat} (h : s.ρ[i]? = some (some (.int (k : Int)))) : ev T (.pr .add [.var i, .con (.int (m : Int))]) s = some (.ok (.int ((k + m : Nat) : Int)) s) := by
  rw [ev_prg _ _ _ (by rfl), evA_var, h, sR_some, evA_cons (.con _) [] _ (fun _ h => nomatch h), ev_con]
  simp only [okF, allF, if_true, b_ok, evA_nil, AV.gets, AV.get, h, gR_some, frz, Pr.fn, fn2, addD_ii, Option.map_some]
  rfl
theorem slv_from {o : Bool} {l : Row} {k i j m : Nat} (h : s.ρ[i]? = some (some (.lst o (l.map dS)))) (hj : s.ρ[j]? = some (some (.int (k : Int)))) : ev T (.slc (.var i) [.pr .add [.var j, .con (.int (m : Int))]] []) s = some (.ok (.lst true ((l.drop (k + m)).map dS)) s) := by
  rw [ev_slcv, h, sR_some, evP_one, ok_addk hj, b_ok, iR_i, b_ok, evP_nil, b_ok]
  simp only [AV.get, h, slR_some]
  rw [slD_lfrom _ _ (k + m) (allFs_S _), Option.map_some, ← List.map_drop]
/-- row[k + 1] -/
theorem ok_ix1 {i j k : Nat} {o : Bool} {row : Row} (h : s.ρ[i]? = some (some (.lst o (row.map dS)))) (hj : s.ρ[j]? = some (some (.int (k : Int)))) (hk : k + 1 < row.length) : ev T (.pr .ix [.var i, .pr .add [.var j, .con (.int 1)]]) s = some (.ok (dS row[k + 1]) s) := by
  rw [ev_prg _ _ _ (by rfl), evA_var, h, sR_some, evA_cons (.pr .add _) [] _ (fun _ h => nomatch h), ok_incv hj, b_ok, evA_nil, b_ok, b_ok, b_ok]
  simp only [AV.gets, AV.get, h, gR_some, frz, Pr.fn, fn2, ix_strs o row (k + 1) hk, Option.map_some]
theorem ok_lt1 {i j k : Nat} {o : Bool} {row : Row} (h : s.ρ[i]? = some (some (.lst o (row.map dS)))) (hj : s.ρ[j]? = some (some (.int (k : Int)))) : ev T (.pr .lt [.pr .add [.var j, .con (.int 1)], .pr .len [.var i]]) s = some (.ok (.bl (decide (k + 1 < row.length))) s) := by
  rw [ev_prg _ _ _ (by rfl), evA_cons (.pr .add _) _ _ (fun _ h => nomatch h), ok_incv hj, b_ok, evA_cons (.pr .len _) [] _ (fun _ h => nomatch h), ok_len h, b_ok, evA_nil, b_ok, b_ok, b_ok]
  simp only [AV.gets, AV.get, gR_some, frz, Pr.fn, fn2, cmpD_ii, Option.map_some, List.length_map]
  congr 4
  apply propext
  omega
theorem ok_eqw {i : Nat} {a : D} {w : Str} {b : Bool} (h : s.ρ[i]? = some (some a)) (he : eqD a (.str w) = some b) : ev T (.pr .eq [.var i, .con (.str w)]) s = some (.ok (.bl b) s) :=
  q2 (p := .eq) (by rfl) (qv h) rfl (by simp only [Pr.fn, fn2, he, Option.map_some]) rfl
end
theorem after_ok (T : Tab) (hI : IdleS (T.call 23)) (hL : LostS (T.call 24)) (hK : LinkS (T.call 25)) : AfterS (runF T 3 5 [] c_law_after) := by
  intro dd cells rd row d hr hin hl hkd
  have hlim : lim = 1000000 := rfl
  have lr : ∀ l ∈ row, low l := fun l h => hr.low l (hin l h)
  unfold c_law_after
  rw [runF_eq 3 5 _ [dd, .lst false (row.map dS), d] [] rfl]
  show runR 3 [] (VI.execs T [] _ (sF dd row d none none)) = _
  cases hkd with
  | nontup h h1 h2 h3 =>
    rw [xs_cons, x_if_true (ok_or_t (ok_not (k := false) (ok_isi (by rfl) (qv rfl) h))), x_retv (d := .non) rfl, h3]
    rfl
  | @len ds h h1 h2 =>
    have e1 := ok_len2 (T := T) (i := 2) (s := sF dd row (.tup ds) none none) (ds := ds) rfl
    rw [decide_eq_false h] at e1
    rw [xs_cons, x_if_true (ok_or_f (ok_not (k := true) (ok_isi (by rfl) (qv rfl) (by rfl))) (ok_or_t e1)), x_retv (d := .non) rfl, kind_len h]
    rfl
  | @noint a b p q m h1 h2 h3 h4 h5 h6 h7 h8 h9 =>
    have e1 := ok_len2 (T := T) (i := 2) (s := sF dd row (.tup [a, b]) none none) (ds := [a, b]) rfl
    have qi : evq T (sF dd row (.tup [a, b]) none none) (.pr .ix [.var 2, .con (.int 1)]) = some b := qp2 (p := .ix) (x := .tup [a, b]) (y := .int 1) (qv rfl) rfl (ix_tup1 (a := a) h6)
    have e2 := ok_orp (ok_isi (T := T) (t := "bool") (a := .pr .ix [.var 2, .con (.int 1)]) (by rfl) qi h1) (ok_not (ok_isi (T := T) (t := "int") (a := .pr .ix [.var 2, .con (.int 1)]) (by rfl) qi h2))
    have e3 : (p || !q) = true := by rcases h3 with rfl | rfl <;> simp
    rw [e3] at e2
    rw [xs_cons, x_if_true (ok_or_f (ok_not (k := true) (ok_isi (by rfl) (qv rfl) (by rfl))) (ok_or_f e1 e2)), x_retv (d := .non) rfl, kind_noint h9]
    rfl
  | @good a i l s k h =>
    have e1 := ok_len2 (T := T) (i := 2) (s := sF dd row (.tup [a, .int k]) none none) (ds := [a, .int k]) rfl
    have qi : evq T (sF dd row (.tup [a, .int k]) none none) (.pr .ix [.var 2, .con (.int 1)]) = some (.int k) := qp2 (p := .ix) (x := .tup [a, .int k]) (y := .int 1) (qv rfl) rfl (ix_tup1 (a := a) (b := .int k) rfl)
    have e2 := ok_or_f (T := T) (ok_isi (T := T) (t := "bool") (a := .pr .ix [.var 2, .con (.int 1)]) (b := false) (by rfl) qi (by rfl)) (ok_not (ok_isi (T := T) (t := "int") (a := .pr .ix [.var 2, .con (.int 1)]) (b := true) (by rfl) qi (by rfl)))
    rw [xs_step (x_skip (ok_or_f (ok_not (k := true) (ok_isi (by rfl) (qv rfl) (by rfl))) (ok_or_f e1 e2)))]
    have e3 : VI.exec T [] (.asg [3, 4] (.frv 2)) (sF dd row (.tup [a, .int k]) none none) = some (.ok .nx (sF dd row (.tup [a, .int k]) (some a) (some (.int k)))) :=
      x_asg2 (frv_same (d := .tup [a, .int k]) rfl (frz_id _ (tup_frz2 h.fr rfl))) (by decide)
    rw [xs_step e3, kind_good h]
    have e4 : ev T (.or (.pr .lt [.var 4, .con (.int 0)]) (.pr .ge [.var 4, .pr .len [.var 1]])) (sF dd row (.tup [a, .int k]) (some a) (some (.int k))) = some (.ok (.bl (decide (k < 0) || decide ((row.length : Int) ≤ k))) (sF dd row (.tup [a, .int k]) (some a) (some (.int k)))) := by
      refine ok_orp (q2 (p := .lt) (by rfl) (x := .int k) (y := .int 0) (qv rfl) rfl rfl rfl) (q2 (p := .ge) (by rfl) (x := .int k) (y := .int ((row.map dS).length : Int)) (qv rfl) (qp1 (x := .lst false (row.map dS)) (qv rfl) rfl) ?_ rfl)
      simp only [Pr.fn, fn2, cmpD_ii, List.length_map]
    by_cases hrange : 0 ≤ k ∧ k < (row.length : Int)
    · obtain ⟨k, rfl⟩ := Int.eq_ofNat_of_zero_le hrange.1
      have hk : k < row.length := by have := hrange.2; omega
      rw [decide_eq_false (by omega), decide_eq_false (by omega)] at e4
      rw [xs_step (x_skip e4)]
      let sA : VS := sF dd row (.tup [a, .int (k : Int)]) (some a) (some (.int (k : Int)))
      have hg := g3 (T := T) (a := .frv 0) (b := .frv 1) (c := .frv 4) (s := sA) (fun _ h => nomatch h) (fun _ h => nomatch h) (fun _ h => nomatch h) (frv_same (d := dd) rfl (frz_id _ hr.fr)) (frv_same (d := .lst false (row.map dS)) rfl (frzl row)) (frv_same (d := .int (k : Int)) rfl rfl)
      rw [frz_id _ hr.fr, frzl] at hg
      have hno : noRefs [dd, .lst false (row.map dS), frz (.int (k : Int))] = true := by
        show (noRef dd && (noRefs (row.map dS) && (true && true))) = true
        rw [hr.nr, noRefs_S]
        rfl
      have c1 := ok_call (T := T) (f := 23) hg hno (hI dd cells rd row k hr hin (by omega) hk) rfl
      have c2 := ok_call (T := T) (f := 24) hg hno (hL dd cells rd row k hr hin (by omega) hk) rfl
      have e5 := ok_orp (ok_andp (ok_eqw (T := T) (i := 3) (s := sA) rfl h.e1) c1) (ok_andp (ok_eqw (T := T) (i := 3) (s := sA) rfl h.e2) c2)
      have hA : afterK rd row (some (i, l, s, (k : Int))) = if ((i && idleB rd row k) || (l && lostB rd row k)) = true then some (row.take k ++ row.drop (k + 1)) else if (s && (decide (k + 1 < row.length) && !linkAt rd row k)) = true then some (swapR row k) else none := by
        simp only [afterK]
        rw [if_pos hrange]
        simp only [Int.toNat_natCast]
        have : decide ((k : Int) + 1 < (row.length : Int)) = decide (k + 1 < row.length) := by
          by_cases q : k + 1 < row.length
          · rw [decide_eq_true q, decide_eq_true (by omega)]
          · rw [decide_eq_false q, decide_eq_false (by omega)]
        rw [this]
      rw [hA]
      have tk : ev T (.slc (.var 1) [] [.frv 4]) sA = some (.ok (.lst true ((row.take k).map dS)) sA) := slv rfl rfl
      cases h5 : ((i && idleB rd row k) || (l && lostB rd row k)) with
      | true =>
        rw [h5] at e5
        have dr : ev T (.slc (.var 1) [.pr .add [.var 4, .con (.int 1)]] []) sA = some (.ok (.lst true ((row.drop (k + 1)).map dS)) sA) := slv_from1 rfl rfl
        rw [xs_cons, x_if_true e5, x_retv (ok_addl (a := .slc (.var 1) [] [.frv 4]) (b := .slc (.var 1) [.pr .add [.var 4, .con (.int 1)]] []) (fun _ h => nomatch h) (fun _ h => nomatch h) tk dr (by rw [List.length_take, List.length_drop]; omega))]
        rfl
      | false =>
        rw [h5] at e5
        rw [xs_step (x_skip e5), if_neg (by decide)]
        have e6 : ev T (.and (.pr .eq [.var 3, .con (.str "swap")]) (.and (.pr .lt [.pr .add [.var 4, .con (.int 1)], .pr .len [.var 1]]) (.not (.call 25 [.frv 0, .pr .ix [.var 1, .var 4], .pr .ix [.var 1, .pr .add [.var 4, .con (.int 1)]]])))) sA = some (.ok (.bl (s && (decide (k + 1 < row.length) && !linkAt rd row k))) sA) := by
          by_cases h6 : k + 1 < row.length
          · have hlk : linkAt rd row k = linkedB rd row[k] row[k + 1] := by
              unfold linkAt
              rw [List.getElem?_eq_getElem hk, List.getElem?_eq_getElem h6]
            have hg2 := g3 (T := T) (a := .frv 0) (b := .pr .ix [.var 1, .var 4]) (c := .pr .ix [.var 1, .pr .add [.var 4, .con (.int 1)]]) (s := sA) (fun _ h => nomatch h) (fun _ h => nomatch h) (fun _ h => nomatch h) (frv_same (d := dd) rfl (frz_id _ hr.fr)) (ok_ixv (o := false) (row := row) (k := k) rfl rfl hk) (ok_ix1 (o := false) (row := row) (k := k) rfl rfl h6)
            rw [frz_id _ hr.fr] at hg2
            have c3 := ok_call (T := T) (f := 25) hg2 (by
              show (noRef dd && true) = true
              rw [hr.nr]
              rfl) (hK dd cells rd row[k] row[k + 1] hr (hin _ (List.getElem_mem hk)) (hin _ (List.getElem_mem h6))) rfl
            rw [hlk]
            exact ok_andp (ok_eqw (i := 3) rfl h.e3) (ok_andp (ok_lt1 (i := 1) (j := 4) (o := false) rfl rfl) (ok_not c3))
          · have q := ok_lt1 (T := T) (s := sA) (i := 1) (j := 4) (o := false) (row := row) (k := k) rfl rfl
            rw [decide_eq_false h6] at q ⊢
            exact ok_andp (ok_eqw (i := 3) rfl h.e3) (ok_and_f q)
        cases h7 : (s && (decide (k + 1 < row.length) && !linkAt rd row k)) with
        | false =>
          rw [h7] at e6
          rw [xs_step (x_skip e6), x_retv (d := .non) rfl, if_neg (by decide)]
          rfl
        | true =>
          rw [h7] at e6
          have h6 : k + 1 < row.length := by
            simp only [Bool.and_eq_true, decide_eq_true_eq] at h7
            exact h7.2.1
          have e8 : ev T (.lst [.pr .ix [.var 1, .pr .add [.var 4, .con (.int 1)]], .pr .ix [.var 1, .var 4]]) sA = some (.ok (.lst true ([row[k + 1], row[k]].map dS)) sA) := by
            rw [ev_lst, evs_two (ok_ix1 (o := false) (row := row) (k := k) rfl rfl h6) (ok_ixv (o := false) (row := row) (k := k) rfl rfl hk), b_ok]
            rfl
          have dr : ev T (.slc (.var 1) [.pr .add [.var 4, .con (.int 2)]] []) sA = some (.ok (.lst true ((row.drop (k + 2)).map dS)) sA) := slv_from (m := 2) rfl rfl
          have f1 := ok_addl (T := T) (a := .slc (.var 1) [] [.frv 4]) (b := .lst [.pr .ix [.var 1, .pr .add [.var 4, .con (.int 1)]], .pr .ix [.var 1, .var 4]]) (fun _ h => nomatch h) (fun _ h => nomatch h) tk e8 (by rw [List.length_take]; simp only [List.length_cons, List.length_nil]; omega)
          have f2 := ok_addl (T := T) (a := .pr .add [.slc (.var 1) [] [.frv 4], .lst [.pr .ix [.var 1, .pr .add [.var 4, .con (.int 1)]], .pr .ix [.var 1, .var 4]]]) (b := .slc (.var 1) [.pr .add [.var 4, .con (.int 2)]] []) (fun _ h => nomatch h) (fun _ h => nomatch h) f1 dr (by rw [List.length_append, List.length_take, List.length_drop]; simp only [List.length_cons, List.length_nil]; omega)
          have hsw : swapR row k = row.take k ++ [row[k + 1], row[k]] ++ row.drop (k + 2) := by
            unfold swapR
            rw [List.getElem?_eq_getElem hk, List.getElem?_eq_getElem h6]
          rw [xs_cons, x_if_true e6, x_retv f2, if_pos rfl, hsw]
          rfl
    · have e5 : (decide (k < 0) || decide ((row.length : Int) ≤ k)) = true := by
        by_cases q : k < 0
        · rw [decide_eq_true q, Bool.true_or]
        · have : (row.length : Int) ≤ k := by
            by_cases q2 : (row.length : Int) ≤ k
            · exact q2
            · exact absurd ⟨by omega, by omega⟩ hrange
          rw [decide_eq_true this, Bool.or_true]
      rw [e5] at e4
      rw [xs_cons, x_if_true e4, x_retv (d := .non) rfl]
      simp only [afterK]
      rw [if_neg hrange]
      rfl
end VK

namespace VK
open VI
open PySem (PyData)
def NextS2 (m : List D → List RO → Option CR) : Prop := ∀ (o : Bool) (row : List (List Nat)) (p : Nat), p < row.length → row.length ≤ 1000 → (∀ l ∈ row, low l) →
  m [.lst o (row.map dS), .int (p : Int)] [] = some (.ok (match nextOf row p with | some j => .int (j : Int) | none => .non) [some (.lst o (row.map dS)), none] [])
abbrev sN2 (o : Bool) (row : List (List Nat)) (p : Nat) (y : Option D) : VS := ⟨[some (.lst o (row.map dS)), some (.int (p : Int)), y], []⟩
theorem next2_ok (T : Tab) : NextS2 (runF T 2 3 [0] c_next_of_2) := by
  intro o row p hp hl hlow
  have hlim : (lim : Int) = 1000000 := rfl
  have hsrc : srcM T .rng2 [.pr .add [.var 1, .con (.int 1)], .pr .len [.var 0]] (sN2 o row p none) = some (.ok ((List.range (row.length - (p + 1))).map fun i : Nat => D.int (((p + 1 + i : Nat)) : Int)) (sN2 o row p none)) := by
    have ea : ev T (.pr .add [.var 1, .con (.int 1)]) (sN2 o row p none) = some (.ok (.int ((p : Int) + 1)) (sN2 o row p none)) := by
      simp (disch := first | decide | with_unfolding_all rfl | (with_unfolding_all (intro _ h; cases h; done)) | omega) only [List.map_cons, List.map_nil, List.length_cons, List.length_nil, List.cons_append, List.nil_append, List.replicate_succ, List.replicate_zero, Nat.reduceAdd, Nat.reduceSub, if_true, xs_nil, xs_cons, seq_nx, seq_rt, x_asg, x_ex, x_ret, x_retN, x_pass, x_ite, x_set, b_app, b_ok, ret_app, ev_con, ev_var, ev_frv, ev_mov, ev_lst, ev_tup, ev_dic0, ev_not, ev_and, ev_or, ev_ife, ev_call, evs_nil, evs_cons, evA_nil, evA_var, evG_nil, evG_io, ev_mt, mR_some, tR_bl, qR_some, sR_some, gR_some, evq, evqs, okF, allF, allFs, frz, frzs, AV.gets, AV.get, Pr.fn, fn1, fn2, fn3, Option.bind_some, Option.map_some, List.getElem?_cons_zero, List.getElem?_cons_succ, List.set_cons_zero, List.set_cons_succ, ite_true, reduceIte, Mp.kind, ev_prq, ev_prg, evA_cons, evG_cons, bnd_asg1, Bool.and_self, Bool.false_eq_true, if_false, Int.reduceLT, Int.reduceLE, addD_ii, subD_ii, mulD_ii, modD_ii, fdivD_ii, int1D_i, runR_rt, runR_nx, runF_eq, bR_ex, ix_l, okA_i, kind_l, eqD_int]
    have el : ev T (.pr .len [.var 0]) (sN2 o row p none) = some (.ok (.int (row.length)) (sN2 o row p none)) := by
      rw [ev_prq _ _ _ (by decide)]
      simp only [evqs, evq, List.getElem?_cons_succ, List.getElem?_cons_zero, Option.bind_some, Pr.fn, fn1, lenD_l, List.length_map, Option.map_some, qR_some, okF, allF, if_true]
    rw [src_app, evs_two ea el, b_ok]
    have e : srcD .rng2 [.int ((p : Int) + 1), .int (row.length : Int)] = some ((List.range (row.length - (p + 1))).map fun i : Nat => D.int (((p + 1 + i : Nat)) : Int)) := by
      simp only [srcD]
      rw [if_pos (by omega)]
      have e1 : ((row.length : Int) - ((p : Int) + 1)).toNat = row.length - (p + 1) := by omega
      rw [e1]
      congr 1
    simp only [frz]
    rw [e, oR_some]
  unfold c_next_of_2
  rw [runF_eq 2 3 _ [.lst o (row.map dS), .int p] [] rfl]
  show runR 2 [0] (VI.execs T [0] _ (sN2 o row p none)) = _
  rcases forM_ret (Pn := [0]) (tg := [2]) (b := VI.execs T [0] [.ite (.pr .eq [.pr .ix [.var 0, .var 2], .pr .ix [.var 0, .var 1]]) [.ret (.mov 2)] []]) ((List.range (row.length - (p + 1))).map fun i : Nat => D.int (((p + 1 + i : Nat)) : Int))
    (fun i s => (∀ j, p < j → j < p + 1 + i → row[j]? ≠ row[p]?) ∧ ∃ y, s = sN2 o row p y) (fun i r s => r = .int ((p + 1 + i : Nat) : Int) ∧ row[p + 1 + i]? = row[p]? ∧ (∀ j, p < j → j < p + 1 + i → row[j]? ≠ row[p]?) ∧ ∃ y, s = sN2 o row p y) (sN2 o row p none) ⟨fun j h1 h2 => by omega, none, rfl⟩ (by
      rintro i s d hd ⟨hI, y, rfl⟩
      rw [List.getElem?_map] at hd
      by_cases hi : i < row.length - (p + 1)
      · rw [List.getElem?_range hi] at hd
        cases hd
        have hj : p + 1 + i < row.length := by omega
        have i1 := ix_strs o row (p + 1 + i) hj
        have i2 := ix_strs o row p hp
        have he := eqD_str row[p + 1 + i] row[p] (hlow _ (List.getElem_mem hj)) (hlow _ (List.getElem_mem hp))
        have hc : ev T (.pr .eq [.pr .ix [.var 0, .var 2], .pr .ix [.var 0, .var 1]]) (sN2 o row p (some (.int ((p + 1 + i : Nat) : Int)))) = some (.ok (.bl (decide (row[p + 1 + i] = row[p]))) (sN2 o row p (some (.int ((p + 1 + i : Nat) : Int))))) := by
          rw [ev_prq _ _ _ (by rfl)]
          simp only [evqs, evq, List.getElem?_cons_succ, List.getElem?_cons_zero, Option.bind_some, Pr.fn, fn2, i1, i2, he, Option.map_some, qR_some, okF, allF, if_true]
        have q1 : row[p + 1 + i]? = some row[p + 1 + i] := by simp [hj]
        have q2 : row[p]? = some row[p] := by simp [hp]
        refine ⟨by decide, _, rfl, ?_⟩
        by_cases hq : row[p + 1 + i] = row[p]
        · rw [decide_eq_true hq] at hc
          refine .inl ⟨.int ((p + 1 + i : Nat) : Int), sN2 o row p none, ?_, rfl, by rw [q1, q2, hq], hI, none, rfl⟩
          show VI.execs T [0] [.ite (.pr .eq [.pr .ix [.var 0, .var 2], .pr .ix [.var 0, .var 1]]) [.ret (.mov 2)] []] (sN2 o row p (some (.int ((p + 1 + i : Nat) : Int)))) = _
          rw [xs_cons, x_if_true hc]
          rfl
        · rw [decide_eq_false hq] at hc
          refine .inr ⟨.nx, sN2 o row p (some (.int ((p + 1 + i : Nat) : Int))), ?_, .inl rfl, fun j h1 h2 => ?_, _, rfl⟩
          · show VI.execs T [0] [.ite (.pr .eq [.pr .ix [.var 0, .var 2], .pr .ix [.var 0, .var 1]]) [.ret (.mov 2)] []] (sN2 o row p (some (.int ((p + 1 + i : Nat) : Int)))) = _
            rw [xs_step (s1 := sN2 o row p (some (.int ((p + 1 + i : Nat) : Int)))) (by rw [x_if_false hc, xs_nil]), xs_nil]
          · by_cases hji : j = p + 1 + i
            · subst hji
              rw [q1, q2]
              exact fun z => hq (Option.some.inj z)
            · exact hI j h1 (by omega)
      · rw [List.getElem?_eq_none (l := List.range _) (by simpa using hi)] at hd
        cases hd) with ⟨i, r, s', hi, e, rfl, hr, hI, y, rfl⟩ | ⟨s', e, hI, y, rfl⟩
  · rw [List.length_map, List.length_range] at hi
    rw [nextOf_some hp (by omega) (by omega) hr hI, xs_cons, x_for, hsrc, b_ok, e, b_ok, seq_rt]
    rfl
  · rw [List.length_map, List.length_range] at hI
    rw [nextOf_none (fun j h1 h2 => hI j h1 (by omega)), xs_step (s1 := sN2 o row p y) (by rw [x_for, hsrc, b_ok, e])]
    rfl
end VK

namespace VK
open VI
open PySem (PyData)
def fitsB (row : Row) : Wk → Bool
  | none => false
  | some (i, l, s, k) => (i || l || s) && (decide (0 ≤ k) && decide (k < (row.length : Int) - (if s then 1 else 0)))
def FitsS (m : List D → List RO → Option CR) : Prop := ∀ (o : Bool) (row : Row) (d : D), Kind d → m [.lst o (row.map dS), d] [] = some (.ok (.bl (fitsB row (kindOf d))) [some (.lst o (row.map dS)), none] [])
abbrev sG (o : Bool) (row : Row) (d : D) (a2 a3 : Option D) : VS := ⟨[some (.lst o (row.map dS)), some d, a2, a3], []⟩
theorem ok_chn_f {T : Tab} {s s1 s2 : VS} {p q : Pr} {a b c : Ex} {x y : D} (h : (p.quiet && q.quiet) = true) (ha : ev T a s = some (.ok x s1)) (hb : ev T b s1 = some (.ok y s2)) (hp : p.fn [frz x, frz y] = some (.bl false)) : ev T (.chn p q a b c) s = some (.ok (.bl false) s2) := by
  simp only [ev]
  rw [if_pos h, b_app, ha, b_ok, b_app, hb, b_ok]
  simp only [hp, ret_app]
theorem ok_nmemw {T : Tab} {s : VS} {i : Nat} {a b : D} {m : Bool} (h : s.ρ[i]? = some (some (.tup [a, b]))) (ha : allF a = true) (hm : memO a words = some m) : ev T (.pr .nmem [.pr .ix [.var i, .con (.int 0)], .tup [.con (.str "idle"), .con (.str "lost"), .con (.str "swap")]]) s = some (.ok (.bl (!m)) s) := by
  have e1 : ev T (.pr .ix [.var i, .con (.int 0)]) s = some (.ok a s) := q2 (p := .ix) (by rfl) (x := .tup [a, b]) (y := .int 0) (qv h) rfl (ix_tup0 a [b] ha) ha
  have e2 : ev T (.tup [.con (.str "idle"), .con (.str "lost"), .con (.str "swap")]) s = some (.ok words s) := by
    rw [ev_tup, evs_cons, ev_con]
    simp only [okF, allF, if_true, b_ok]
    rw [evs_two (x := .str "lost") (y := .str "swap") (by rw [ev_con]; rfl) (by rw [ev_con]; rfl), b_ok, b_ok]
    rfl
  rw [ev_prg _ _ _ (by rfl), evA_cons (.pr .ix _) _ _ (fun _ h => nomatch h), e1, b_ok, evA_cons (.tup _) [] _ (fun _ h => nomatch h), e2, b_ok, evA_nil, b_ok, b_ok, b_ok, frz_id _ ha]
  simp only [AV.gets, AV.get, gR_some, Pr.fn, fn2]
  rw [show frz words = words from rfl, hm]
  rfl
theorem fits_ok (T : Tab) : FitsS (runF T 2 4 [0] c_step_fits) := by
  intro o row d hkd
  unfold c_step_fits
  rw [runF_eq 2 4 _ [.lst o (row.map dS), d] [] rfl]
  show runR 2 [0] (VI.execs T [0] _ (sG o row d none none)) = _
  cases hkd with
  | nontup h h1 h2 h3 =>
    rw [xs_cons, x_if_true (ok_or_t (ok_not (k := false) (ok_isi (by rfl) (qv rfl) h))), x_retv (d := .bl false) rfl, h3]
    rfl
  | @len ds h h1 h2 =>
    have e1 := ok_len2 (T := T) (i := 1) (s := sG o row (.tup ds) none none) (ds := ds) rfl
    rw [decide_eq_false h] at e1
    rw [xs_cons, x_if_true (ok_or_f (ok_not (k := true) (ok_isi (by rfl) (qv rfl) (by rfl))) (ok_or_t e1)), x_retv (d := .bl false) rfl, kind_len h]
    rfl
  | @noint a b p q m h1 h2 h3 h4 h5 h6 h7 h8 h9 =>
    have e1 := ok_len2 (T := T) (i := 1) (s := sG o row (.tup [a, b]) none none) (ds := [a, b]) rfl
    have e2 := ok_or_f (ok_not (k := true) (ok_isi (T := T) (s := sG o row (.tup [a, b]) none none) (t := "tuple") (a := .var 1) (by rfl) (qv rfl) (by rfl))) (ok_or_f e1 (ok_nmemw (i := 1) rfl h5 h4))
    rw [kind_noint h9]
    cases m with
    | false =>
      rw [xs_cons, x_if_true e2, x_retv (d := .bl false) rfl]
      rfl
    | true =>
      rw [xs_step (x_skip e2)]
      have e3 : VI.exec T [0] (.asg [2, 3] (.frv 1)) (sG o row (.tup [a, b]) none none) = some (.ok .nx (sG o row (.tup [a, b]) (some a) (some b))) := x_asg2 (frv_same (d := .tup [a, b]) rfl (frz_id _ (tup_frz2 h5 h6))) (by decide)
      rw [xs_step e3]
      have e4 := ok_orp (ok_isi (T := T) (s := sG o row (.tup [a, b]) (some a) (some b)) (t := "bool") (a := .var 3) (by rfl) (qv rfl) h1) (ok_not (ok_isi (T := T) (t := "int") (a := .var 3) (by rfl) (qv rfl) h2))
      have e5 : (p || !q) = true := by rcases h3 with rfl | rfl <;> simp
      rw [e5] at e4
      rw [xs_cons, x_if_true e4, x_retv (d := .bl false) rfl]
      rfl
  | @good a i l s k h =>
    have e1 := ok_len2 (T := T) (i := 1) (s := sG o row (.tup [a, .int k]) none none) (ds := [a, .int k]) rfl
    have e2 := ok_or_f (ok_not (k := true) (ok_isi (T := T) (s := sG o row (.tup [a, .int k]) none none) (t := "tuple") (a := .var 1) (by rfl) (qv rfl) (by rfl))) (ok_or_f e1 (ok_nmemw (i := 1) rfl h.fr h.me))
    rw [kind_good h]
    cases hw : (i || l || s) with
    | false =>
      rw [hw] at e2
      rw [xs_cons, x_if_true e2, x_retv (d := .bl false) rfl]
      simp only [fitsB, hw, Bool.false_and]
      rfl
    | true =>
      rw [hw] at e2
      rw [xs_step (x_skip e2)]
      have e3 : VI.exec T [0] (.asg [2, 3] (.frv 1)) (sG o row (.tup [a, .int k]) none none) = some (.ok .nx (sG o row (.tup [a, .int k]) (some a) (some (.int k)))) := x_asg2 (frv_same (d := .tup [a, .int k]) rfl (frz_id _ (tup_frz2 h.fr rfl))) (by decide)
      rw [xs_step e3]
      let sA : VS := sG o row (.tup [a, .int k]) (some a) (some (.int k))
      have e4 := ok_or_f (ok_isi (T := T) (s := sA) (t := "bool") (a := .var 3) (b := false) (by rfl) (qv rfl) (by rfl)) (ok_not (ok_isi (T := T) (s := sA) (t := "int") (a := .var 3) (b := true) (by rfl) (qv rfl) (by rfl)))
      rw [xs_step (x_skip e4)]
      have e5 : ev T (.pr .sub [.pr .len [.var 0], .pr .int1 [.pr .eq [.var 2, .con (.str "swap")]]]) sA = some (.ok (.int ((row.length : Int) - (if s then 1 else 0))) sA) := by
        refine q2 (p := .sub) (by rfl) (x := .int ((row.map dS).length : Int)) (y := .int (if s then 1 else 0)) (qp1 (x := .lst o (row.map dS)) (qv rfl) rfl) (qp1 (x := .bl s) (qp2 (x := a) (y := .str "swap") (qv rfl) rfl (by simp only [Pr.fn, fn2, h.e3, Option.map_some])) rfl) ?_ rfl
        simp only [Pr.fn, fn2, subD_ii, List.length_map]
      have e6 : ev T (.chn .le .lt (.con (.int 0)) (.frv 3) (.pr .sub [.pr .len [.var 0], .pr .int1 [.pr .eq [.var 2, .con (.str "swap")]]])) sA = some (.ok (.bl (decide (0 ≤ k) && decide (k < (row.length : Int) - (if s then 1 else 0)))) sA) := by
        by_cases h0 : 0 ≤ k
        · rw [decide_eq_true h0, Bool.true_and]
          exact ok_chn (by rfl) (x := .int 0) rfl (y := .int k) (frv_same (d := .int k) rfl rfl) (by show some (D.bl (decide ((0 : Int) ≤ k))) = _; rw [decide_eq_true h0]) e5 rfl rfl
        · rw [decide_eq_false h0, Bool.false_and]
          exact ok_chn_f (by rfl) (x := .int 0) rfl (y := .int k) (frv_same (d := .int k) rfl rfl) (by show some (D.bl (decide ((0 : Int) ≤ k))) = _; rw [decide_eq_false h0])
      rw [x_retv e6]
      simp only [fitsB, hw, Bool.true_and]
      rfl
/-! are_related -/
def RelS (m : List D → List RO → Option CR) : Prop := ∀ (plain : List (List Nat)) (es : List En) (a b : List Nat), ShOk plain es → a ∈ es.map (·.1) → b ∈ es.map (·.1) → m [dSh plain es, dS a, dS b] [] = some (.ok (.bl (linkedB (rdOf es) a b)) [none, none, none] [])
theorem ok_mdgt {T : Tab} {s : VS} {plain : List (List Nat)} {es : List En} {i j : Nat} {x c : List Nat} (h0 : s.ρ[0]? = some (some (dSh plain es))) (hi : s.ρ[i]? = some (some (dS x))) (hj : s.ρ[j]? = some (some (dS c))) (hc : c ∈ es.map (·.1)) :
    ev T (.pr .mem [.var i, .dgt (.fld "Shape" (.var 0) "reading") (.frv j) (.tup [])]) s = some (.ok (.bl (decide (x ∈ rdOf es c))) s) := by
  have e1 : ev T (.dgt (.fld "Shape" (.var 0) "reading") (.frv j) (.tup [])) s = some (.ok (.tup ((rdOf es c).map dS)) s) := by
    have e2 : ev T (.fld "Shape" (.var 0) "reading") s = some (.ok (rdD es) s) := ok_fld (by simp only [evq, h0]; rfl) (allF_rdD es)
    simp only [ev] at e2 ⊢
    rw [b_app, e2, b_ok]
    show M.bnd (ev T (.frv j)) _ s = _
    rw [b_app, frv_same (d := dS c) hj rfl, b_ok, b_app]
    rw [show ((evs T []).bnd (fun ds => if ds.length ≤ lim then M.ret (D.tup ds) else M.fail) s) = some (.ok (.tup []) s) by rw [b_app, evs_nil, b_ok]; rfl, b_ok]
    show M.opt (get2D (rdD es) (dS c) (frz (.tup []))) s = _
    have e3 : get2D (rdD es) (dS c) (frz (.tup [])) = some (.tup ((rdOf es c).map dS)) := by
      show ((keyOf (dS c)).bind fun k => match look ((es.map (·.1)).map ky) (es.map fun e => D.tup (e.2.map dS)) k with | some d => okA d | none => okA (frz (.tup []))) = _
      rw [show keyOf (dS c) = some (ky c) from rfl, Option.bind_some, look_rdD hc]
      show (if allFs ((rdOf es c).map dS) then _ else _) = _
      rw [allFs_S]
      rfl
    rw [e3]
    rfl
  rw [ev_prg _ _ _ (by rfl), evA_var, hi, sR_some, evA_cons (.dgt _ _ _) [] _ (fun _ h => nomatch h), e1, b_ok, evA_nil, b_ok, b_ok, b_ok]
  simp only [AV.gets, AV.get, hi, gR_some, Pr.fn, fn2, frz, frzs_S, memO_tup, Option.map_some]
theorem rel_ok (T : Tab) : RelS (runF T 3 3 [] c_are_related) := by
  intro plain es a b hs ha hb
  have la := good_low (hs.gd a (List.mem_append_right _ ha))
  have lb := good_low (hs.gd b (List.mem_append_right _ hb))
  unfold c_are_related
  rw [runF_eq 3 3 _ [dSh plain es, dS a, dS b] [] rfl]
  show runR 3 [] (VI.execs T [] _ ⟨[some (dSh plain es), some (dS a), some (dS b)], []⟩) = _
  have e1 : ev T (.pr .eq [.var 1, .var 2]) ⟨[some (dSh plain es), some (dS a), some (dS b)], []⟩ = some (.ok (.bl (decide (a = b))) ⟨[some (dSh plain es), some (dS a), some (dS b)], []⟩) :=
    q2 (p := .eq) (by rfl) (x := dS a) (y := dS b) (qv rfl) (qv rfl) (by simp only [Pr.fn, fn2, eqD_str a b la lb, Option.map_some]) rfl
  by_cases h : a = b
  · rw [decide_eq_true h] at e1
    rw [xs_cons, x_if_true e1, x_retv (d := .bl true) rfl]
    unfold linkedB
    rw [decide_eq_true h, Bool.true_or]
    rfl
  · rw [decide_eq_false h] at e1
    rw [xs_step (x_skip e1), x_retv (ok_orp (ok_mdgt (i := 2) (j := 1) rfl rfl rfl ha) (ok_mdgt (i := 1) (j := 2) rfl rfl rfl hb))]
    unfold linkedB
    rw [decide_eq_false h, Bool.false_or, Bool.or_comm]
    rfl
end VK

namespace VK
open VI
open PySem (PyData)
theorem behind_head (row : Row) (k : Nat) (hk : k < row.length) : (behind row k).head? = nextOf row k := by
  unfold behind nextOf
  have e : List.range row.length = List.range (k + 1) ++ (List.range (row.length - (k + 1))).map (k + 1 + ·) := by
    have := List.range_add (n := k + 1) (m := row.length - (k + 1))
    rwa [show k + 1 + (row.length - (k + 1)) = row.length by omega] at this
  rw [e, List.filter_append]
  have h0 : (List.range (k + 1)).filter (fun i => decide (k < i) && decide (row[i]? = row[k]?)) = [] := by
    rw [List.filter_eq_nil_iff]
    intro i hi
    have := List.mem_range.mp hi
    simp only [Bool.and_eq_true, decide_eq_true_eq, not_and]
    intro h
    omega
  rw [h0, List.nil_append]
  congr 1
  apply List.filter_congr
  intro i hi
  obtain ⟨j, hj, rfl⟩ := List.mem_map.mp hi
  rw [decide_eq_true (show k < k + 1 + j by omega), Bool.true_and]
theorem drop_btw {row : Row} {p k : Nat} (h : p < k) (hk : k ≤ row.length) : (row.take k).drop p = row[p]'(by omega) :: btw row p k := by
  unfold btw
  rw [List.drop_eq_getElem_cons (by rw [List.length_take]; omega), List.getElem_take]
abbrev sW (plain : List (List Nat)) (es : List En) (o : Bool) (row : Row) (a : D) (k : Nat) (a4 a5 a6 a7 a8 a9 : Option D) : VS := ⟨[some (dSh plain es), some (.lst o (row.map dS)), some a, some (.int (k : Int)), a4, a5, a6, a7, a8, a9], []⟩
def allowB (rd : Rd) (row : Row) (i s : Bool) (k : Nat) : Bool := if s then !linkAt rd row k else if i then idleB rd row k else lostB rd row k
def AllowS (m : List D → List RO → Option CR) : Prop := ∀ (plain : List (List Nat)) (es : List En) (o : Bool) (row : Row) (a : D) (i l s : Bool) (k : Nat), ShOk plain es → (∀ x ∈ row, x ∈ es.map (·.1)) → row.length ≤ 400 → Wd3 a i l s → k < row.length → (s = true → k + 1 < row.length) →
  m [dSh plain es, .lst o (row.map dS), a, .int (k : Int)] [] = some (.ok (.bl (allowB (rdOf es) row i s k)) [none, some (.lst o (row.map dS)), none, none] [])
theorem allow_ok (T : Tab) (hR : RelS (T.call 31)) (hX : NextS2 (T.call 30)) : AllowS (runF T 4 10 [1] c_step_allowed) := by
  intro plain es o row a i l s k hs hin hl hw hk hsk
  have hlim : lim = 1000000 := rfl
  have lr : ∀ x ∈ row, low x := fun x hx => good_low (hs.gd x (List.mem_append_right _ (hin x hx)))
  have hcm : row[k] ∈ es.map (·.1) := hin _ (List.getElem_mem hk)
  have hgc : row[k]? = some row[k] := by simp [hk]
  unfold c_step_allowed
  rw [runF_eq 4 10 _ [dSh plain es, .lst o (row.map dS), a, .int (k : Int)] [] rfl]
  show runR 4 [1] (VI.execs T [1] _ (sW plain es o row a k none none none none none none)) = _
  rw [xs_step (x_asg1 (ok_ixv (o := o) (row := row) (k := k) rfl rfl hk) (by decide))]
  refine (congrArg (runR 4 [1]) (xs_step (x_asg1 (q2 (p := .ixd) (by rfl) (x := rdD es) (y := dS row[k]) (by rfl) (qv rfl) (reading_at (plain := plain) hcm) (allFs_S _)) (by decide)))).trans ?_
  show runR 4 [1] (VI.execs T [1] _ (sW plain es o row a k (some (dS row[k])) (some (.tup ((rdOf es row[k]).map dS))) none none none none)) = _
  let sA : VS := sW plain es o row a k (some (dS row[k])) (some (.tup ((rdOf es row[k]).map dS))) none none none none
  have e1 := ok_eqw (T := T) (i := 2) (s := sA) rfl hw.e3
  have e2 := ok_eqw (T := T) (i := 2) (s := sA) rfl hw.e1
  have mem5 : ∀ (x : List Nat) (j : Nat) (st : VS), st.ρ[j]? = some (some (dS x)) → st.ρ[5]? = some (some (.tup ((rdOf es row[k]).map dS))) → ev T (.pr .mem [.var j, .var 5]) st = some (.ok (.bl (decide (x ∈ rdOf es row[k]))) st) := fun x j st h1 h2 =>
    q2 (p := .mem) (by rfl) (qv h1) (qv h2) (by simp only [Pr.fn, fn2, memO_tup, Option.map_some]) rfl
  cases hsv : s with
  | true =>
    rw [hsv] at e1
    have h6 := hsk hsv
    have hlk : linkAt (rdOf es) row k = linkedB (rdOf es) row[k] row[k + 1] := by
      unfold linkAt
      rw [hgc, List.getElem?_eq_getElem h6]
    have hg := g3 (T := T) (a := .frv 0) (b := .frv 4) (c := .pr .ix [.var 1, .pr .add [.var 3, .con (.int 1)]]) (s := sA) (fun _ h => nomatch h) (fun _ h => nomatch h) (fun _ h => nomatch h) (frv_same (d := dSh plain es) rfl (frz_Sh plain es)) (frv_same (d := dS row[k]) rfl rfl) (ok_ix1 (o := o) (row := row) (k := k) rfl rfl h6)
    rw [frz_Sh] at hg
    have c3 := ok_call (T := T) (f := 31) hg (by
      show (noRef (dSh plain es) && true) = true
      rw [noRef_Sh]
      rfl) (hR plain es row[k] row[k + 1] hs hcm (hin _ (List.getElem_mem h6))) rfl
    rw [xs_cons, x_if_true e1, x_retv (ok_not c3), ← hlk]
    rfl
  | false =>
    rw [hsv] at e1
    rw [xs_step (x_skip e1)]
    cases hiv : i with
    | true =>
      rw [hiv] at e2
      rw [xs_cons, x_if_true e2]
      obtain ⟨s', f1, y, rfl⟩ := place_filt (T := T) (tg := 8) (cs := [.pr .eq [.pr .ix [.var 1, .var 8], .var 4]]) (fun j => decide (row[j]? = row[k]?)) (List.range k) (by rw [List.length_range]; omega) (fun st => ∃ y, st = sW plain es o row a k (some (dS row[k])) (some (.tup ((rdOf es row[k]).map dS))) none none y none) sA ⟨none, rfl⟩ (by
        rintro st x hx ⟨y, rfl⟩
        have hxk := List.mem_range.mp hx
        refine ⟨sW plain es o row a k (some (dS row[k])) (some (.tup ((rdOf es row[k]).map dS))) none none (some (.int (x : Int))) none, ?_, rfl, _, rfl⟩
        show evc T _ (sW plain es o row a k (some (dS row[k])) (some (.tup ((rdOf es row[k]).map dS))) none none (some (.int (x : Int))) none) = _
        rw [evc_one, ok_ixeq (i := 1) (j := 8) (c := 4) (k := x) (o := o) (row := row) (x := row[k]) rfl rfl rfl (by omega) (lr _ (List.getElem_mem hk)) lr, b_ok, tR_bl, ret_app, same_at (by omega) hk])
      have e3 : ev T (.lc [8] .rng1 [.frv 3] [.pr .eq [.pr .ix [.var 1, .var 8], .var 4]] (.frv 8)) sA = some (.ok (.lst true (Dj (ahead row k))) sA) := by
        rw [ev_lc, src_app, evs_one (frv_same (d := .int (k : Int)) rfl rfl), b_ok]
        simp only [frz]
        rw [srcD_r1 k (by omega), oR_some, b_ok, lcM_ok f1]
        rfl
      rw [xs_step (x_asg1 e3 (by decide))]
      let sB : VS := sW plain es o row a k (some (dS row[k])) (some (.tup ((rdOf es row[k]).map dS))) none (some (.lst true (Dj (ahead row k)))) none none
      show runR 4 [1] (bR (VI.execs T [1] _ sB) _) = _
      have e4 : ev T (.and (.pr .ne [.var 7, .lst []]) (.and (.pr .nmem [.var 4, .var 5]) (.not (.pr .any [.lc [9] .val [.slc (.var 1) [.pr .ix [.var 7, .pr .neg [.con (.int 1)]]] [.frv 3]] [] (.pr .mem [.var 9, .var 5])])))) sB = some (.ok (.bl (idleB (rdOf es) row k)) sB) := by
        have n1 := ints_nnil (T := T) (i := 7) (s := sB) (o := true) (l := ahead row k) rfl
        cases hq : (ahead row k).getLast? with
        | none =>
          have hnil : ahead row k = [] := List.getLast?_eq_none_iff.mp hq
          rw [decide_eq_true hnil] at n1
          have : idleB (rdOf es) row k = false := by unfold idleB; rw [hgc, hq]
          rw [this]
          exact ok_and_f n1
        | some p =>
          have hne : ¬ ahead row k = [] := fun e => by rw [e] at hq; cases hq
          have hpm := List.mem_of_getLast? hq
          have hp : p < k := ahead_lt hpm
          have hpe : row[p]'(by omega) = row[k] := by
            have := (List.mem_filter.mp hpm).2
            simp only [decide_eq_true_eq] at this
            rw [List.getElem?_eq_getElem (by omega), hgc] at this
            exact Option.some.inj this
          rw [decide_eq_false hne] at n1
          have hI : idleB (rdOf es) row k = (!decide (row[k] ∈ rdOf es row[k]) && !(btw row p k).any fun o => decide (o ∈ rdOf es row[k])) := by unfold idleB; rw [hgc, hq]
          rw [hI]
          have n2 : ev T (.pr .nmem [.var 4, .var 5]) sB = some (.ok (.bl (!decide (row[k] ∈ rdOf es row[k]))) sB) := q2 (p := .nmem) (by rfl) (x := dS row[k]) (y := .tup ((rdOf es row[k]).map dS)) (qv rfl) (qv rfl) (by simp only [Pr.fn, fn2, memO_tup, Option.map_some]) rfl
          refine ok_and_t n1 ?_
          by_cases hself : row[k] ∈ rdOf es row[k]
          · rw [decide_eq_true hself] at n2 ⊢
            exact ok_and_f n2
          · rw [decide_eq_false hself] at n2 ⊢
            refine ok_and_t n2 ?_
            have l0 : ev T (.pr .ix [.var 7, .pr .neg [.con (.int 1)]]) sB = some (.ok (.int (p : Int)) sB) := q2 (p := .ix) (a := .var 7) (b := .pr .neg [.con (.int 1)]) (by rfl) (x := .lst true (Dj (ahead row k))) (y := .int (-1)) (qv rfl) (by rfl) (ix_last true _ p hq) rfl
            have l2 := slc_btw (T := T) (s := sB) (i := 1) (row := row) (o := o) (lo := .pr .ix [.var 7, .pr .neg [.con (.int 1)]]) (hi := .frv 3) rfl l0 (frv_same (d := .int (k : Int)) rfl rfl) (by omega) (by omega)
            have hbl : ((row.take k).drop p).length < lim := by rw [List.length_drop, List.length_take]; omega
            obtain ⟨s', f2, y9, rfl⟩ := lc_tests (T := T) (e := .pr .mem [.var 9, .var 5]) (tg := 9) (fun o => decide (o ∈ rdOf es row[k])) ((row.take k).drop p) hbl (fun st => ∃ y, st = sW plain es o row a k (some (dS row[k])) (some (.tup ((rdOf es row[k]).map dS))) none (some (.lst true (Dj (ahead row k)))) none y) sB ⟨none, rfl⟩ (by
              rintro st x hx ⟨y, rfl⟩
              exact ⟨sW plain es o row a k (some (dS row[k])) (some (.tup ((rdOf es row[k]).map dS))) none (some (.lst true (Dj (ahead row k)))) none (some (dS x)), mem5 x 9 _ rfl rfl, _, rfl⟩)
            have l3 : ev T (.lc [9] .val [.slc (.var 1) [.pr .ix [.var 7, .pr .neg [.con (.int 1)]]] [.frv 3]] [] (.pr .mem [.var 9, .var 5])) sB = some (.ok (.lst true (((row.take k).drop p).map fun o => .bl (decide (o ∈ rdOf es row[k])))) sB) := by
              rw [ev_lc, src_app, evs_one l2, b_ok, frzt]
              rw [show srcD .val [.lst false (((row.take k).drop p).map dS)] = some (((row.take k).drop p).map dS) from rfl, oR_some, b_ok, lcM_ok f2]
              rfl
            have l4 := ok_not (ok_any l3)
            rw [drop_btw hp (by omega), List.any_cons, hpe, decide_eq_false hself, Bool.false_or] at l4
            exact l4
      rw [x_retv e4]
      rfl
    | false =>
      rw [hiv] at e2
      rw [xs_step (x_skip e2)]
      have hcall : ev T (.call 30 [.io 1, .frv 3]) sA = some (.ok (match nextOf row k with | some j => .int (j : Int) | none => .non) sA) :=
        call_ioi (ds := [.int (k : Int)]) ⟨_, rfl⟩ (g1 (e := .frv 3) (fun _ h => nomatch h) (frv_same (d := .int (k : Int)) rfl rfl)) rfl (by
          show (noRefs (row.map dS) && (true && true)) = true
          rw [noRefs_S]
          rfl) (hX o row k hk (by omega) lr) rfl
      rw [xs_step (x_asg1 hcall (by decide))]
      have hB := behind_head row k hk
      cases hn : nextOf row k with
      | none =>
        rw [hn] at hB
        let sB : VS := sW plain es o row a k (some (dS row[k])) (some (.tup ((rdOf es row[k]).map dS))) (some .non) none none none
        show runR 4 [1] (VI.execs T [1] _ sB) = _
        have q : ev T (.pr .isN [.var 6]) sB = some (.ok (.bl true) sB) := q1 (by rfl) (x := .non) (qv rfl) rfl rfl
        rw [xs_cons, x_if_true (ok_or_t q), x_retv (d := .bl false) rfl]
        have : lostB (rdOf es) row k = false := by unfold lostB; rw [hgc, hB]
        unfold allowB
        rw [this]
        rfl
      | some j =>
        rw [hn] at hB
        obtain ⟨h1, h2, h3, h4⟩ := nextOf_is hk hn
        let sB : VS := sW plain es o row a k (some (dS row[k])) (some (.tup ((rdOf es row[k]).map dS))) (some (.int (j : Int))) none none none
        show runR 4 [1] (VI.execs T [1] _ sB) = _
        have hI : lostB (rdOf es) row k = (!decide (row[k] ∈ rdOf es row[k]) && !(btw row k j).any fun o => decide (row[k] ∈ rdOf es o)) := by unfold lostB; rw [hgc, hB]
        have q : ev T (.or (.pr .isN [.var 6]) (.pr .mem [.var 4, .var 5])) sB = some (.ok (.bl (decide (row[k] ∈ rdOf es row[k]))) sB) := ok_or_f (q1 (by rfl) (x := .int (j : Int)) (qv rfl) rfl rfl) (mem5 _ 4 _ rfl rfl)
        unfold allowB
        rw [hI]
        by_cases hself : row[k] ∈ rdOf es row[k]
        · rw [decide_eq_true hself] at q ⊢
          rw [xs_cons, x_if_true q, x_retv (d := .bl false) rfl]
          rfl
        · rw [decide_eq_false hself] at q ⊢
          rw [xs_step (x_skip q)]
          have l2 := slc_btw (T := T) (s := sB) (i := 1) (row := row) (o := o) (lo := .frv 3) (hi := .frv 6) rfl (frv_same (d := .int (k : Int)) rfl rfl) (frv_same (d := .int (j : Int)) rfl rfl) (by omega) (by omega)
          have hbl : ((row.take j).drop k).length < lim := by rw [List.length_drop, List.length_take]; omega
          have hb : ∀ x ∈ (row.take j).drop k, x ∈ es.map (·.1) := fun x hx => hin x (List.mem_of_mem_take (List.mem_of_mem_drop hx))
          obtain ⟨s', f2, y9, rfl⟩ := lc_tests (T := T) (e := .pr .mem [.var 4, .pr .ixd [.fld "Shape" (.var 0) "reading", .var 9]]) (tg := 9) (fun o => decide (row[k] ∈ rdOf es o)) ((row.take j).drop k) hbl (fun st => ∃ y, st = sW plain es o row a k (some (dS row[k])) (some (.tup ((rdOf es row[k]).map dS))) (some (.int (j : Int))) none none y) sB ⟨none, rfl⟩ (by
            rintro st x hx ⟨y, rfl⟩
            refine ⟨sW plain es o row a k (some (dS row[k])) (some (.tup ((rdOf es row[k]).map dS))) (some (.int (j : Int))) none none (some (dS x)), q2 (p := .mem) (by rfl) (x := dS row[k]) (y := .tup ((rdOf es x).map dS)) (qv rfl) (qp2 (x := rdD es) (y := dS x) (by rfl) (qv rfl) ?_) (by simp only [Pr.fn, fn2, memO_tup, Option.map_some]) rfl, _, rfl⟩
            exact reading_at (plain := plain) (hb x hx))
          have l3 : ev T (.lc [9] .val [.slc (.var 1) [.frv 3] [.frv 6]] [] (.pr .mem [.var 4, .pr .ixd [.fld "Shape" (.var 0) "reading", .var 9]])) sB = some (.ok (.lst true (((row.take j).drop k).map fun o => .bl (decide (row[k] ∈ rdOf es o)))) sB) := by
            rw [ev_lc, src_app, evs_one l2, b_ok, frzt]
            rw [show srcD .val [.lst false (((row.take j).drop k).map dS)] = some (((row.take j).drop k).map dS) from rfl, oR_some, b_ok, lcM_ok f2]
            rfl
          have l4 := ok_not (ok_any l3)
          rw [drop_btw h1 (by omega), List.any_cons, decide_eq_false hself, Bool.false_or] at l4
          rw [x_retv l4]
          rfl
end VK

namespace VK
open VI
open PySem (PyData)
theorem insr_ok (ds : List D) (i : Nat) (d : D) (h : ds.length < lim) (hi : i < 2 ^ 62) : Mp.fn .insr (.lst true ds) [.int (i : Int), d] = some (.lst true (ds.take i ++ [d] ++ ds.drop i), .non) := by
  simp only [Mp.fn]
  rw [if_pos ⟨h, by omega, by omega⟩]
  rfl
theorem ins_gen {α : Type} (A C : List α) (x y : α) : (A ++ y :: C).take (A.length + 1) ++ [x] ++ (A ++ y :: C).drop (A.length + 1) = A ++ [y, x] ++ C := by
  rw [List.take_length_add_append, List.drop_length_add_append]
  simp
theorem swap_ins {row : Row} {n : Nat} (h : n + 1 < row.length) : (row.take n ++ row.drop (n + 1)).take (n + 1) ++ [row[n]'(by omega)] ++ (row.take n ++ row.drop (n + 1)).drop (n + 1) = swapR row n := by
  have hl : (row.take n).length = n := by rw [List.length_take]; omega
  have hd : row.drop (n + 1) = row[n + 1] :: row.drop (n + 2) := List.drop_eq_getElem_cons h
  have := ins_gen (row.take n) (row.drop (n + 2)) (row[n]'(by omega)) row[n + 1]
  rw [hl, ← hd] at this
  rw [this]
  unfold swapR
  rw [List.getElem?_eq_getElem (show n < row.length by omega), List.getElem?_eq_getElem h]
theorem fits_no {rd : Rd} {row : Row} {i l s : Bool} {k : Int} (x2 : (i && s) = false) (x3 : (l && s) = false) (h : fitsB row (some (i, l, s, k)) = false) : afterK rd row (some (i, l, s, k)) = none := by
  simp only [fitsB, Bool.and_eq_false_iff, decide_eq_false_iff_not] at h
  simp only [afterK]
  by_cases hr : 0 ≤ k ∧ k < (row.length : Int)
  · rw [if_pos hr]
    rcases h with h | h | h
    · simp only [Bool.or_eq_false_iff] at h
      obtain ⟨⟨rfl, rfl⟩, rfl⟩ := h
      rfl
    · exact absurd hr.1 h
    · cases s with
      | false => exact absurd (by simpa using hr.2) h
      | true =>
        have hh : ¬ k + 1 < (row.length : Int) := fun z => h (by simp only [if_true]; omega)
        have hi : i = false := by simpa using x2
        have hl : l = false := by simpa using x3
        subst hi hl
        rw [decide_eq_false hh]
        rfl
  · rw [if_neg hr]
theorem fits_yes {rd : Rd} {row : Row} {i l s : Bool} {k : Int} (x1 : (i && l) = false) (x2 : (i && s) = false) (x3 : (l && s) = false) (h : fitsB row (some (i, l, s, k)) = true) :
    ∃ n : Nat, k = (n : Int) ∧ n < row.length ∧ (s = true → n + 1 < row.length) ∧ afterK rd row (some (i, l, s, k)) = if allowB rd row i s n then some (if s then swapR row n else row.take n ++ row.drop (n + 1)) else none := by
  simp only [fitsB, Bool.and_eq_true, decide_eq_true_eq] at h
  obtain ⟨h1, h2, h3⟩ := h
  obtain ⟨n, rfl⟩ := Int.eq_ofNat_of_zero_le h2
  have hn : n < row.length := by
    cases s <;> simp at h3 <;> omega
  have hs : s = true → n + 1 < row.length := fun e => by
    subst e
    simp only [if_true] at h3
    omega
  refine ⟨n, rfl, hn, hs, ?_⟩
  simp only [afterK]
  rw [if_pos ⟨h2, by omega⟩]
  simp only [Int.toNat_natCast]
  unfold allowB
  cases s with
  | true =>
    have hi : i = false := by simpa using x2
    have hl : l = false := by simpa using x3
    subst hi hl
    have := hs rfl
    rw [decide_eq_true (show (n : Int) + 1 < (row.length : Int) by omega)]
    simp
  | false =>
    cases i with
    | true =>
      have hl : l = false := by simpa using x1
      subst hl
      simp
    | false =>
      have hl : l = true := by simpa using h1
      subst hl
      simp
abbrev sY (plain : List (List Nat)) (es : List En) (row0 : Row) (ds : List D) (row : Row) (a4 a5 a6 a7 : Option D) : VS := ⟨[some (dSh plain es), some (.lst false (row0.map dS)), some (.lst false ds), some (.lst true (row.map dS)), a4, a5, a6, a7], []⟩
abbrev cAB : List Sm := [.ite (.not (.call 29 [.io 3, .frv 4])) [.ret (.con .non)] [], .asg [6, 7] (.frv 4), .ite (.not (.call 32 [.frv 0, .io 3, .frv 6, .frv 7])) [.ret (.con .non)] [], .asg [5] (.mt .popa (.var 3) [.frv 7]), .ite (.pr .eq [.var 6, .con (.str "swap")]) [.ex (.mt .insr (.var 3) [.pr .add [.var 7, .con (.int 1)], .frv 5])] []]
theorem callM_vio {T : Tab} {f i : Nat} {w d0 d d' : D} {p0 : Option D} {ds : List D} {ps : List (Option D)} {s : VS} (hs : s.ρ[i]? = some (some d0)) (hn : noRefs (w :: d0 :: ds) = true) (h : T.call f (w :: d0 :: ds) [] = some (.ok d (p0 :: some d' :: ps) [])) (hl : ps.length = ds.length) :
    callM T f (.val w :: .sl i :: ds.map .val) s = some (.ok d ⟨s.ρ.set i (some d'), s.μ⟩) := by
  have il : i < s.ρ.length := (List.getElem?_eq_some_iff.mp hs).1
  unfold callM
  simp only [hands, hs, hands_v, Option.map_some, hn, if_true, h, backs]
  rw [show (s.ρ.set i none)[i]? = some none by simp [il]]
  simp only [backs_v ds ps _ hl, Option.map_some, List.set_set]
theorem after_step (T : Tab) (hF : FitsS (T.call 29)) (hA : AllowS (T.call 32)) {plain : List (List Nat)} {es : List En} (hs : ShOk plain es) {row : Row} (hin : ∀ x ∈ row, x ∈ es.map (·.1)) (hl : row.length ≤ 120) {d : D} (hd : Kind d) (row0 : Row) (ds : List D) (a5 a6 a7 : Option D) :
    (afterK (rdOf es) row (kindOf d) = none ∧ ∃ s', VI.execs T [] cAB (sY plain es row0 ds row (some d) a5 a6 a7) = some (.ok (.rt .non) s') ∧ s'.μ = []) ∨
    (∃ row' b5 b6 b7, afterK (rdOf es) row (kindOf d) = some row' ∧ VI.execs T [] cAB (sY plain es row0 ds row (some d) a5 a6 a7) = some (.ok .nx (sY plain es row0 ds row' (some d) b5 b6 b7))) := by
  have hlim : lim = 1000000 := rfl
  let sA : VS := sY plain es row0 ds row (some d) a5 a6 a7
  have c1 : ev T (.call 29 [.io 3, .frv 4]) sA = some (.ok (.bl (fitsB row (kindOf d))) sA) := by
    have hg := g1 (T := T) (e := .frv 4) (s := sA) (fun _ h => nomatch h) (frv_same (d := d) rfl (frz_id _ hd.fr))
    rw [frz_id _ hd.fr] at hg
    exact call_ioi (ds := [d]) ⟨_, rfl⟩ hg rfl (by
      show (noRefs (row.map dS) && (noRef d && true)) = true
      rw [noRefs_S, hd.nr]
      rfl) (hF true row d hd) rfl
  have c1 := ok_not c1
  show (_ ∧ ∃ s', VI.execs T [] cAB sA = _ ∧ _) ∨ ∃ row' b5 b6 b7, _ ∧ VI.execs T [] cAB sA = _
  cases hf : fitsB row (kindOf d) with
  | false =>
    rw [hf] at c1
    refine .inl ⟨?_, sA, by rw [xs_cons, x_if_true c1, x_retv (d := .non) rfl, b_ok, seq_rt, ret_app], rfl⟩
    cases hd with
    | good k h => rw [kind_good h] at hf ⊢; exact fits_no h.x2 h.x3 hf
    | nontup h h1 h2 h3 => rw [h3]; rfl
    | len h h1 h2 => rw [kind_len h]; rfl
    | noint h1 h2 h3 h4 h5 h6 h7 h8 h9 => rw [kind_noint h9]; rfl
  | true =>
    rw [hf] at c1
    rw [xs_step (x_skip c1)]
    cases hd with
    | nontup h h1 h2 h3 => rw [h3] at hf; cases hf
    | len h h1 h2 => rw [kind_len h] at hf; cases hf
    | noint h1 h2 h3 h4 h5 h6 h7 h8 h9 => rw [kind_noint h9] at hf; cases hf
    | @good a i l s k h =>
      rw [kind_good h] at hf ⊢
      obtain ⟨n, rfl, hn, hsn, hK⟩ := fits_yes (rd := rdOf es) h.x1 h.x2 h.x3 hf
      rw [hK]
      have e2 : VI.exec T [] (.asg [6, 7] (.frv 4)) sA = some (.ok .nx (sY plain es row0 ds row (some (.tup [a, .int (n : Int)])) a5 (some a) (some (.int (n : Int))))) :=
        x_asg2 (frv_same (d := .tup [a, .int (n : Int)]) rfl (frz_id _ (tup_frz2 h.fr rfl))) (by decide)
      rw [xs_step e2]
      let sB : VS := sY plain es row0 ds row (some (.tup [a, .int (n : Int)])) a5 (some a) (some (.int (n : Int)))
      have c2 : ev T (.call 32 [.frv 0, .io 3, .frv 6, .frv 7]) sB = some (.ok (.bl (allowB (rdOf es) row i s n)) sB) := by
        have hg : evG T [.frv 0, .io 3, .frv 6, .frv 7] sB = some (.ok (.val (dSh plain es) :: .sl 3 :: [a, .int (n : Int)].map .val) sB) := by
          rw [evG_cons (.frv 0) _ _ (fun _ h => nomatch h), frv_same (d := dSh plain es) rfl (frz_Sh plain es), b_ok, evG_io, show sB.ρ[3]? = some (some (.lst true (row.map dS))) from rfl, sR_some]
          rw [g2 (T := T) (a := .frv 6) (b := .frv 7) (s := sB) (fun _ h => nomatch h) (fun _ h => nomatch h) (frv_same (d := a) rfl (frz_id _ h.fr)) (frv_same (d := .int (n : Int)) rfl rfl), b_ok, b_ok, frz_Sh, frz_id _ h.fr]
          rfl
        rw [ev_call, hg, b_ok]
        exact callM_vio (T := T) (f := 32) (i := 3) (s := sB) rfl (by
          show (noRef (dSh plain es) && (noRefs (row.map dS) && (noRef a && (true && true)))) = true
          rw [noRef_Sh, noRefs_S, h.nr]
          rfl) (hA plain es true row a i l s n hs hin (by omega) h hn hsn) rfl
      have c2 := ok_not c2
      cases hal : allowB (rdOf es) row i s n with
      | false =>
        rw [hal] at c2
        refine .inl ⟨by simp, sB, by rw [xs_cons, x_if_true c2, x_retv (d := .non) rfl, b_ok, seq_rt, ret_app], rfl⟩
      | true =>
        rw [hal] at c2
        refine .inr ⟨_, some (dS row[n]), some a, some (.int (n : Int)), by rw [if_pos rfl], ?_⟩
        rw [xs_step (x_skip c2)]
        have hpop := popa_ok (row.map dS) n (dS row[n]) (by rw [List.getElem?_map, List.getElem?_eq_getElem hn]; rfl) rfl (by omega)
        have er : (row.map dS).eraseIdx n = (row.take n ++ row.drop (n + 1)).map dS := by
          rw [erase_map, List.eraseIdx_eq_take_drop_succ]
        rw [er] at hpop
        let E : Row := row.take n ++ row.drop (n + 1)
        refine (xs_step (x_asg1 (ev_mt_ok (T := T) (m := .popa) (i := 3) (as := [.frv 7]) (s := sB) (s1 := sB) (o := .lst true (row.map dS)) rfl rfl (evs_one (frv_same (d := .int (n : Int)) rfl rfl)) rfl hpop) (by decide))).trans ?_
        let sC : VS := sY plain es row0 ds E (some (.tup [a, .int (n : Int)])) (some (dS row[n])) (some a) (some (.int (n : Int)))
        show VI.execs T [] _ sC = _
        have e5 := ok_eqw (T := T) (i := 6) (s := sC) rfl h.e3
        have hEl : E.length ≤ row.length := by show (row.take n ++ row.drop (n + 1)).length ≤ _; rw [List.length_append, List.length_take, List.length_drop]; omega
        cases hsv : s with
        | false =>
          rw [hsv] at e5
          rw [xs_step (x_skip e5), xs_nil]
          rfl
        | true =>
          rw [hsv] at e5
          have hn1 := hsn hsv
          have hins := insr_ok (E.map dS) (n + 1) (dS row[n]) (by rw [List.length_map]; omega) (by omega)
          have e6 : (E.map dS).take (n + 1) ++ [dS row[n]] ++ (E.map dS).drop (n + 1) = (swapR row n).map dS := by
            rw [← swap_ins hn1]
            show ((row.take n ++ row.drop (n + 1)).map dS).take (n + 1) ++ [dS row[n]] ++ ((row.take n ++ row.drop (n + 1)).map dS).drop (n + 1) = _
            simp only [List.map_append, List.map_take, List.map_drop, List.map_cons, List.map_nil]
          rw [e6] at hins
          rw [xs_step (s1 := sY plain es row0 ds (swapR row n) (some (.tup [a, .int (n : Int)])) (some (dS row[n])) (some a) (some (.int (n : Int)))) (by
            rw [x_if_true e5, xs_step (x_exp (ev_mt_ok (T := T) (m := .insr) (i := 3) (s := sC) (s1 := sC) (o := .lst true (E.map dS)) rfl rfl (evs_two (ok_incv (k := n) rfl) (frv_same (d := dS row[n]) rfl rfl)) rfl hins)), xs_nil]
            rfl), xs_nil]
          rfl
def StepsS (m : List D → List RO → Option CR) : Prop := ∀ (plain : List (List Nat)) (es : List En) (row : Row) (ds : List D), ShOk plain es → (∀ x ∈ row, x ∈ es.map (·.1)) → row.length ≤ 120 → (∀ d ∈ ds, Kind d) → m [dSh plain es, .lst false (row.map dS), .lst false ds] [] = some (.ok (outR (runD (rdOf es) ds row)) [none, none, none] [])
theorem steps_ok (T : Tab) (hC : CRowS (T.call 20)) (hF : FitsS (T.call 29)) (hA : AllowS (T.call 32)) : StepsS (runF T 3 8 [] c_after_steps) := by
  intro plain es row ds hs hin hl hk
  unfold c_after_steps
  rw [runF_eq 3 8 _ [dSh plain es, .lst false (row.map dS), .lst false ds] [] rfl]
  show runR 3 [] (VI.execs T [] _ ⟨[some (dSh plain es), some (.lst false (row.map dS)), some (.lst false ds), none, none, none, none, none], []⟩) = _
  have e1 : ev T (.call 20 [.frv 0, .frv 1]) ⟨[some (dSh plain es), some (.lst false (row.map dS)), some (.lst false ds), none, none, none, none, none], []⟩ = some (.ok (.lst true (row.map dS)) ⟨[some (dSh plain es), some (.lst false (row.map dS)), some (.lst false ds), none, none, none, none, none], []⟩) := by
    have hg := g2 (T := T) (a := .frv 0) (b := .frv 1) (s := ⟨[some (dSh plain es), some (.lst false (row.map dS)), some (.lst false ds), none, none, none, none, none], []⟩) (fun _ h => nomatch h) (fun _ h => nomatch h) (frv_same (d := dSh plain es) rfl (frz_Sh plain es)) (frv_same (d := .lst false (row.map dS)) rfl (frzl row))
    rw [frzl, frz_Sh] at hg
    exact ok_call hg (by
      show (noRef (dSh plain es) && (noRefs (row.map dS) && true)) = true
      rw [noRef_Sh, noRefs_S]
      rfl) (hC plain es row hs hin hl) rfl
  refine (congrArg (runR 3 []) (xs_step (x_asg1 e1 (by decide)))).trans ?_
  show runR 3 [] (VI.execs T [] _ (sY plain es row ds row none none none none)) = _
  rcases forM_ret (Pn := []) (tg := [4]) (b := VI.execs T [] cAB) ds
    (fun i s => ∃ row' y4 y5 y6 y7, s = sY plain es row ds row' y4 y5 y6 y7 ∧ runD (rdOf es) (ds.drop i) row' = runD (rdOf es) ds row ∧ (∀ x ∈ row', x ∈ es.map (·.1)) ∧ row'.length ≤ 120)
    (fun i r s => r = .non ∧ s.μ = [] ∧ runD (rdOf es) ds row = none) (sY plain es row ds row none none none none) ⟨row, _, _, _, _, rfl, rfl, hin, hl⟩ (by
      rintro i s d hd ⟨row', y4, y5, y6, y7, rfl, hr, h1, h2⟩
      have hdm := List.mem_of_getElem? hd
      have hdr : ds.drop i = d :: ds.drop (i + 1) := by
        obtain ⟨hi, he⟩ := List.getElem?_eq_some_iff.mp hd
        rw [List.drop_eq_getElem_cons hi, he]
      rw [hdr] at hr
      refine ⟨by decide, _, rfl, ?_⟩
      rcases after_step T hF hA hs h1 h2 (hk d hdm) row ds y5 y6 y7 with ⟨g1, s', e, g2⟩ | ⟨row2, b5, b6, b7, g1, e⟩
      · refine .inl ⟨.non, s', e, rfl, g2, ?_⟩
        rw [← hr]
        show (afterK (rdOf es) row' (kindOf d)).bind _ = none
        rw [g1]
        rfl
      · obtain ⟨m1, m2⟩ := afterK_mem g1
        refine .inr ⟨.nx, _, e, .inl rfl, row2, _, _, _, _, rfl, ?_, fun x hx => h1 x (m1 x hx), by omega⟩
        rw [← hr]
        show _ = (afterK (rdOf es) row' (kindOf d)).bind _
        rw [g1]
        rfl) with ⟨i, r, s', hi, e, rfl, hμ, hn⟩ | ⟨s', e, row', y4, y5, y6, y7, rfl, hr, h1, h2⟩
  · rw [xs_cons, for_val (ds := ds) rfl (frzs_id _ (allFs_K hk)), e, b_ok, seq_rt, hn]
    show some (CR.ok _ _ s'.μ) = _
    rw [hμ]
    rfl
  · rw [List.drop_length] at hr
    rw [← hr, xs_step ((for_val (ds := ds) rfl (frzs_id _ (allFs_K hk))).trans e)]
    rfl
end VK

namespace VK
open VI
open PySem (PyData)
theorem toPys_lay : ∀ {ds : List D}, (∀ d ∈ ds, Lay d) → ∃ xs, toPys ds = some xs ∧ PyData.canLayAll0 xs = true ∧ PyData.depthAll xs ≤ 5 ∧ xs.length = ds.length
  | [], _ => ⟨[], rfl, rfl, by simp [PyData.depthAll], rfl⟩
  | d :: ds, h => by
    obtain ⟨x, e1, e2, e3⟩ := h d List.mem_cons_self
    obtain ⟨xs, f1, f2, f3, f4⟩ := toPys_lay fun e he => h e (List.mem_cons_of_mem _ he)
    refine ⟨x :: xs, by simp only [toPys, e1, f1], by simp only [PyData.canLayAll0, e2, f2, Bool.and_self], ?_, by simp [f4]⟩
    simp only [PyData.depthAll]
    omega
theorem shaped_of {x : PyData} (h : x.canLay0 = true) (h2 : x.depth ≤ 60) : PySem.SeqAt.shaped x = true := by
  unfold PySem.SeqAt.shaped
  have : x.depth ≤ 64 := by omega
  simp only [h, this, decide_true, Bool.and_self]
theorem eqD_nilD {ds : List D} (o o' : Bool) (h : ∀ d ∈ ds, Lay d) : eqD (.lst o ds) (.lst o' []) = some (decide (ds = [])) := by
  obtain ⟨xs, e1, e2, e3, e4⟩ := toPys_lay h
  have s1 : PySem.SeqAt.shaped (.list xs) = true := shaped_of (by simp only [PyData.canLay0, e2]) (by simp only [PyData.depth]; omega)
  have s2 : PySem.SeqAt.shaped (.list []) = true := rfl
  simp only [eqD, toPy, e1, toPys, Option.map_some, s1, s2, Bool.and_self, if_true]
  congr 1
  cases ds with
  | nil =>
    cases xs with
    | nil => simp [PyData.eqv, PyData.eqvAll]
    | cons x xs => simp at e4
  | cons d ds =>
    cases xs with
    | nil => simp at e4
    | cons x xs => simp [PyData.eqv, PyData.eqvAll]
/-- [x for x in l if t x] over frozen things, exactly -/
theorem filt_D {T : Tab} {tg : Nat} {cs : List Ex} (t : D → Bool) (l : List D) (hf : ∀ x ∈ l, allF x = true) (hl : l.length < lim) (I : VS → Prop) (s : VS) (h0 : I s)
    (st : ∀ (s : VS) (x : D), x ∈ l → I s → ∃ s', evc T cs ⟨s.ρ.set tg (some x), s.μ⟩ = some (.ok (t x) s') ∧ s'.ρ[tg]? = some (some x) ∧ I s') :
    ∃ s', loopC (lcBody [tg] (evc T cs) (ev T (.frv tg))) l [] s = some (.ok (l.filter t) s') ∧ I s' := by
  obtain ⟨ds, s', e, hI, rfl⟩ := loopC_inv (f := lcBody [tg] (evc T cs) (ev T (.frv tg))) l (fun i acc s => I s ∧ acc = (l.take i).filter t) [] s ⟨h0, rfl⟩ (by
    rintro i acc s x hx ⟨hI, rfl⟩
    have hm := List.mem_of_getElem? hx
    obtain ⟨s1, e1, e2, e3⟩ := st s x hm hI
    have htk : l.take (i + 1) = l.take i ++ [x] := by rw [List.take_add_one, hx]; rfl
    have e4 : lcBody [tg] (evc T cs) (ev T (.frv tg)) x s = if t x = true then some (.ok (some x) s1) else some (.ok none s1) := by
      rw [lcBody_1, e1, b_ok]
      cases t x with
      | true =>
        simp only [if_true]
        rw [frv_same e2 (frz_id _ (hf x hm)), b_ok, frz_id _ (hf x hm)]
      | false => rfl
    cases ht : t x with
    | true =>
      rw [ht, if_pos rfl] at e4
      refine ⟨some x, s1, e4, ?_, e3, ?_⟩
      · have h1 := List.length_filter_le t (l.take i)
        rw [List.length_take] at h1
        omega
      · rw [htk, List.filter_append, List.filter_cons, if_pos ht]
        rfl
    | false =>
      rw [ht, if_neg (by decide)] at e4
      refine ⟨none, s1, e4, e3, ?_⟩
      rw [htk, List.filter_append, List.filter_cons, if_neg (by rw [ht]; decide)]
      simp)
  rw [List.take_length] at e
  exact ⟨s', e, hI⟩
/-! the words -/
def mkS (w : Str) (k : Nat) : D := .tup [.str w, .int (k : Int)]
theorem wI : Wd3 (.str "idle") true false false := ⟨by decide +kernel, by decide +kernel, by decide +kernel, by decide +kernel, rfl, rfl, rfl, rfl, rfl⟩
theorem wL : Wd3 (.str "lost") false true false := ⟨by decide +kernel, by decide +kernel, by decide +kernel, by decide +kernel, rfl, rfl, rfl, rfl, rfl⟩
theorem wS : Wd3 (.str "swap") false false true := ⟨by decide +kernel, by decide +kernel, by decide +kernel, by decide +kernel, rfl, rfl, rfl, rfl, rfl⟩
theorem lay_si (w : Str) (k : Int) (h : PySem.PyData.strOk w = true) : Lay (.tup [.str w, .int k]) := by
  refine ⟨.tuple [.str w, .int k], rfl, ?_, ?_⟩
  · simp [PyData.canLay0, PyData.canLayAll0, h]
  · simp [PyData.depth, PyData.depthAll]
theorem okI : PySem.PyData.strOk "idle" = true := by decide +kernel
theorem okL : PySem.PyData.strOk "lost" = true := by decide +kernel
theorem okS : PySem.PyData.strOk "swap" = true := by decide +kernel
theorem stI (k : Nat) : StepD (mkS "idle" k) := ⟨.good _ wI, lay_si _ _ okI⟩
theorem stL (k : Nat) : StepD (mkS "lost" k) := ⟨.good _ wL, lay_si _ _ okL⟩
theorem stS (k : Nat) : StepD (mkS "swap" k) := ⟨.good _ wS, lay_si _ _ okS⟩
def every (n : Nat) : List D := ((List.range n).map (mkS "idle") ++ (List.range n).map (mkS "lost")) ++ (List.range n).map (mkS "swap")
theorem every_st {n : Nat} {d : D} (h : d ∈ every n) : StepD d := by
  unfold every at h
  rcases List.mem_append.mp h with h | h
  · rcases List.mem_append.mp h with h | h
    · obtain ⟨k, _, rfl⟩ := List.mem_map.mp h; exact stI k
    · obtain ⟨k, _, rfl⟩ := List.mem_map.mp h; exact stL k
  · obtain ⟨k, _, rfl⟩ := List.mem_map.mp h; exact stS k
theorem allFs_mk (w : Str) (l : List Nat) : allFs (l.map (mkS w)) = true := by
  induction l with
  | nil => rfl
  | cons a l ih =>
    show ((true && (true && true)) && allFs (l.map (mkS w))) = true
    rw [ih]
    rfl
abbrev sZ (d dd : D) (row0 : Row) (found : List D) (o : Bool) (row : Row) (a5 a6 a7 a8 a9 : Option D) : VS := ⟨[some d, some dd, some (.lst false (row0.map dS)), some (.lst true found), some (.lst o (row.map dS)), a5, a6, a7, a8, a9], []⟩
/-- [(word, k) for k in range(len(here))] -/
theorem tups_ok {T : Tab} (w : Str) (d dd : D) (row0 : Row) (found : List D) (o : Bool) (row : Row) (a5 a6 a7 a8 a9 : Option D) (hl : row.length ≤ 400) :
    ev T (.lc [9] .rng1 [.pr .len [.var 4]] [] (.tup [.con (.str w), .frv 9])) (sZ d dd row0 found o row a5 a6 a7 a8 a9) = some (.ok (.lst true ((List.range row.length).map (mkS w))) (sZ d dd row0 found o row a5 a6 a7 a8 none)) := by
  have hlim : lim = 1000000 := rfl
  obtain ⟨ds, s', e, rfl, y, rfl⟩ := loopC_inv (f := lcBody [9] (evc T []) (ev T (.tup [.con (.str w), .frv 9]))) ((List.range row.length).map fun i : Nat => D.int (i : Int)) (fun i acc s => acc = (List.range i).map (mkS w) ∧ ∃ y, s = sZ d dd row0 found o row a5 a6 a7 a8 y) [] (sZ d dd row0 found o row a5 a6 a7 a8 none) ⟨rfl, none, rfl⟩ (by
    rintro i acc s x hx ⟨rfl, y, rfl⟩
    obtain ⟨hi, rfl⟩ := rng_get hx
    refine ⟨some (mkS w i), sZ d dd row0 found o row a5 a6 a7 a8 (some (.int (i : Int))), ?_, ?_, ?_, _, rfl⟩
    · rw [lcBody_1, evc_nil, b_ok]
      simp only [if_true]
      have e1 : ev T (.tup [.con (.str w), .frv 9]) (sZ d dd row0 found o row a5 a6 a7 a8 (some (.int (i : Int)))) = some (.ok (mkS w i) (sZ d dd row0 found o row a5 a6 a7 a8 (some (.int (i : Int))))) := by
        rw [ev_tup, evs_two (x := .str w) (y := .int (i : Int)) (by rw [ev_con]; rfl) (frv_same (d := .int (i : Int)) rfl rfl), b_ok]
        rfl
      refine (congrArg (fun z => bR z _) e1).trans ?_
      rfl
    · rw [List.length_map, List.length_range]; omega
    · rw [List.range_succ, List.map_append]; rfl)
  rw [ev_lc, src_app, evs_one (ok_len (ds := row.map dS) (o := o) rfl), b_ok]
  simp only [frz, List.length_map]
  rw [srcD_r1 _ (by omega), oR_some, b_ok, lcM_ok e]
  simp only [List.length_map, List.length_range]
  rfl
theorem ok_addD {T : Tab} {s s1 s2 : VS} {a b : Ex} {x y : List D} (na : ∀ i, a ≠ .var i) (nb : ∀ i, b ≠ .var i) (ha : ev T a s = some (.ok (.lst true x) s1)) (hb : ev T b s1 = some (.ok (.lst true y) s2)) (fx : allFs x = true) (fy : allFs y = true) (hl : x.length + y.length ≤ lim) : ev T (.pr .add [a, b]) s = some (.ok (.lst true (x ++ y)) s2) := by
  rw [ev_prg _ _ _ (by rfl), evA_cons a _ _ na, ha, b_ok, evA_cons b [] _ nb, hb, b_ok, evA_nil, b_ok, b_ok, b_ok]
  simp only [AV.gets, AV.get, gR_some, Pr.fn, fn2, frz]
  rw [frzs_id _ fx, frzs_id _ fy, addD_l _ _ _ _ fx fy hl, Option.map_some]
theorem ok_addDv {T : Tab} {s s2 : VS} {i : Nat} {b : Ex} {x y : List D} {o : Bool} (hi : s.ρ[i]? = some (some (.lst o x))) (hi2 : s2.ρ[i]? = some (some (.lst o x))) (nb : ∀ i, b ≠ .var i) (hb : ev T b s = some (.ok (.lst true y) s2)) (fx : allFs x = true) (fy : allFs y = true) (hl : x.length + y.length ≤ lim) : ev T (.pr .add [.var i, b]) s = some (.ok (.lst true (x ++ y)) s2) := by
  rw [ev_prg _ _ _ (by rfl), evA_var, hi, sR_some, evA_cons b [] _ nb, hb, b_ok, evA_nil, b_ok, b_ok, b_ok]
  simp only [AV.gets, AV.get, hi2, gR_some, Pr.fn, fn2, frz]
  rw [frzs_id _ fy, addD_l _ _ _ _ fx fy hl, Option.map_some]
/-- things[take(pile, len(things))] -/
theorem pick_D {T : Tab} (hT : TakeS (T.call 3)) {s : VS} {i j : Nat} {l : List D} {o : Bool} {d : D} {B : Nat} (hij : i ≠ j) (hi : s.ρ[i]? = some (some d)) (hj : s.ρ[j]? = some (some (.lst o l))) (hf : ∀ x ∈ l, allF x = true) (hp : PileOk d B) (hB : B < 2 ^ 100) (hne : l ≠ []) (hl : l.length ≤ 5000) :
    ∃ (x d' : D), x ∈ l ∧ PileOk d' (B + 1) ∧ ev T (.pr .ix [.var j, .call 3 [.io i, .pr .len [.var j]]]) s = some (.ok x ⟨s.ρ.set i (some d'), s.μ⟩) := by
  have hlen0 : l.length ≠ 0 := fun e => hne (List.length_eq_zero_iff.mp e)
  obtain ⟨r, d', h0, h1, hp', hc⟩ := hT d B l.length hp hB (by omega) (by omega)
  obtain ⟨r, rfl⟩ := Int.eq_ofNat_of_zero_le h0
  have hr : r < l.length := by omega
  have e1 : ev T (.call 3 [.io i, .pr .len [.var j]]) s = some (.ok (.int (r : Int)) ⟨s.ρ.set i (some d'), s.μ⟩) :=
    call_ioi (ds := [.int (l.length : Int)]) ⟨_, hi⟩ (g1 (e := .pr .len [.var j]) (fun _ h => nomatch h) (ok_len hj)) hi (by
      show (noRef d && (true && true)) = true
      rw [noRef_pile hp]
      rfl) hc rfl
  have hj' : (s.ρ.set i (some d'))[j]? = some (some (.lst o l)) := by
    rw [List.getElem?_set_ne hij]
    exact hj
  have hx := hf l[r] (List.getElem_mem hr)
  have e3 : ixD (.lst o l) (.int (r : Int)) = some l[r] := by
    rw [ix_l, at_nat, show l[r]? = some l[r] by simp [hr]]
    simp only [Option.bind_some, okA, hx, if_true]
  refine ⟨l[r], d', List.getElem_mem hr, hp', ?_⟩
  rw [ev_prg _ _ _ (by rfl), evA_var, hj, sR_some, evA_cons (.call 3 _) [] _ (fun _ h => nomatch h), e1, b_ok, evA_nil, b_ok, b_ok, b_ok]
  simp only [AV.gets, AV.get, hj', gR_some, frz, Pr.fn, fn2, e3, Option.map_some]
end VK

namespace VK
open VI
open PySem (PyData)
def DrawS (m : List D → List RO → Option CR) : Prop := ∀ (d : D) (B : Nat) (dd : D) (cells : List (List Nat)) (rd : Rd) (row : Row), PileOk d B → B < 2 ^ 95 → RdOk dd cells rd → (∀ x ∈ row, x ∈ cells) → row.length ≤ 100 →
  ∃ (ds : List D) (d' : D), (∀ x ∈ ds, StepD x) ∧ ds.length ≤ 11 ∧ PileOk d' (B + 50) ∧ m [d, dd, .lst false (row.map dS)] [] = some (.ok (.lst true ds) [some d', none, none] [])
abbrev cDB : List Sm := [.asg [6] (.pr .add [.lc [9] .rng1 [.pr .len [.var 4]] [] (.tup [.con (.str "idle"), .frv 9]), .lc [9] .rng1 [.pr .len [.var 4]] [] (.tup [.con (.str "lost"), .frv 9])]), .asg [6] (.pr .add [.var 6, .lc [9] .rng1 [.pr .len [.var 4]] [] (.tup [.con (.str "swap"), .frv 9])]), .asg [7] (.lc [8] .val [.frv 6] [.pr .notN [.call 26 [.frv 1, .frv 4, .frv 8]]] (.frv 8)), .ite (.pr .ne [.var 7, .lst []]) [.asg [8] (.pr .ix [.var 7, .call 3 [.io 0, .pr .len [.var 7]]]), .ex (.mt .app (.var 3) [.frv 8]), .asg [4] (.call 26 [.frv 1, .frv 4, .frv 8])] []]
theorem after_call {T : Tab} (hA : AfterS (T.call 26)) {dd : D} {cells : List (List Nat)} {rd : Rd} {row : Row} {x : D} (hr : RdOk dd cells rd) (hin : ∀ x ∈ row, x ∈ cells) (hl : row.length ≤ 400) (hx : Kind x) {s : VS} {i j k : Nat} {o : Bool} (h1 : s.ρ[i]? = some (some dd)) (h2 : s.ρ[j]? = some (some (.lst o (row.map dS)))) (h3 : s.ρ[k]? = some (some x)) (hjk : j ≠ k) :
    ev T (.call 26 [.frv i, .frv j, .frv k]) s = some (.ok (outR (afterK rd row (kindOf x))) ⟨s.ρ.set j (some (.lst false (row.map dS))), s.μ⟩) := by
  have h3' : (⟨s.ρ.set j (some (.lst false (row.map dS))), s.μ⟩ : VS).ρ[k]? = some (some x) := by
    show (s.ρ.set j _)[k]? = _
    rw [List.getElem?_set_ne hjk]
    exact h3
  have hg := g3 (T := T) (a := .frv i) (b := .frv j) (c := .frv k) (s := s) (fun _ h => nomatch h) (fun _ h => nomatch h) (fun _ h => nomatch h) (frv_same (d := dd) h1 (frz_id _ hr.fr)) (frv_any h2) (frv_same (d := x) h3' (frz_id _ hx.fr))
  rw [frz_id _ hr.fr, frzl, frz_id _ hx.fr] at hg
  exact ok_call hg (by
    show (noRef dd && (noRefs (row.map dS) && (noRef x && true))) = true
    rw [hr.nr, noRefs_S, hx.nr]
    rfl) (hA dd cells rd row x hr hin hl hx) rfl
theorem isNon_outR (r : Option Row) : isNon (outR r) = r.isNone := by cases r <;> rfl
theorem ok_notN {T : Tab} {s s1 : VS} {f : Nat} {as : List Ex} {x : D} (h : ev T (.call f as) s = some (.ok x s1)) : ev T (.pr .notN [.call f as]) s = some (.ok (.bl (!isNon x)) s1) := by
  have e : isNon (frz x) = isNon x := by cases x <;> rfl
  rw [ev_prg _ _ _ (by rfl), evA_cons (.call f as) [] _ (fun _ h => nomatch h), h, b_ok, evA_nil, b_ok, b_ok]
  simp only [AV.gets, AV.get, gR_some, Pr.fn, fn1, e, Option.map_some]
theorem nnil_D {T : Tab} {i : Nat} {s : VS} {o : Bool} {l : List D} (h : s.ρ[i]? = some (some (.lst o l))) (hl : ∀ x ∈ l, Lay x) : ev T (.pr .ne [.var i, .lst []]) s = some (.ok (.bl (!decide (l = []))) s) := by
  rw [ev_prg _ _ _ (by rfl), evA_var, h, sR_some, evA_cons (.lst []) [] _ (fun _ h => nomatch h)]
  rw [show ev T (.lst []) s = some (.ok (.lst true []) s) by rw [ev_lst, evs_nil, b_ok]; rfl, b_ok, evA_nil, b_ok, b_ok, b_ok]
  simp only [AV.gets, AV.get, h, gR_some, Pr.fn, fn2, frz, frzs, eqD_nilD o false hl, Option.map_some]
theorem draw_step (T : Tab) (hT : TakeS (T.call 3)) (hA : AfterS (T.call 26)) {dd : D} {cells : List (List Nat)} {rd : Rd} (hr : RdOk dd cells rd) {d : D} {B : Nat} (hp : PileOk d B) (hB : B < 2 ^ 98) (row0 : Row) {row : Row} (hin : ∀ x ∈ row, x ∈ cells) (hl : row.length ≤ 100) (found : List D) (hfd : ∀ x ∈ found, StepD x) (hfl : found.length ≤ 100) (o : Bool) (a5 a6 a7 a8 a9 : Option D) :
    ∃ d' found' o' row' b6 b7 b8 b9, VI.execs T [0] cDB (sZ d dd row0 found o row a5 a6 a7 a8 a9) = some (.ok .nx (sZ d' dd row0 found' o' row' a5 b6 b7 b8 b9)) ∧ PileOk d' (B + 1) ∧ (∀ x ∈ found', StepD x) ∧ found'.length ≤ found.length + 1 ∧ (∀ x ∈ row', x ∈ cells) ∧ row'.length ≤ row.length := by
  have hlim : lim = 1000000 := rfl
  have t1 := tups_ok (T := T) "idle" d dd row0 found o row a5 a6 a7 a8 a9 (by omega)
  have t2 := tups_ok (T := T) "lost" d dd row0 found o row a5 a6 a7 a8 none (by omega)
  have lenm : ∀ w : Str, ((List.range row.length).map (mkS w)).length = row.length := fun w => by rw [List.length_map, List.length_range]
  have t3 := ok_addD (T := T) (a := .lc [9] .rng1 [.pr .len [.var 4]] [] (.tup [.con (.str "idle"), .frv 9])) (b := .lc [9] .rng1 [.pr .len [.var 4]] [] (.tup [.con (.str "lost"), .frv 9])) (fun _ h => nomatch h) (fun _ h => nomatch h) t1 t2 (allFs_mk _ _) (allFs_mk _ _) (by rw [lenm, lenm]; omega)
  have f12 : allFs ((List.range row.length).map (mkS "idle") ++ (List.range row.length).map (mkS "lost")) = true := allFs_K fun x hx => by
    rcases List.mem_append.mp hx with h | h
    · obtain ⟨k, _, rfl⟩ := List.mem_map.mp h; exact (stI k).k
    · obtain ⟨k, _, rfl⟩ := List.mem_map.mp h; exact (stL k).k
  have t4 := tups_ok (T := T) "swap" d dd row0 found o row a5 (some (.lst true ((List.range row.length).map (mkS "idle") ++ (List.range row.length).map (mkS "lost")))) a7 a8 none (by omega)
  have t5 := ok_addDv (T := T) (i := 6) (b := .lc [9] .rng1 [.pr .len [.var 4]] [] (.tup [.con (.str "swap"), .frv 9])) rfl rfl (fun _ h => nomatch h) t4 f12 (allFs_mk _ _) (by rw [List.length_append, lenm, lenm, lenm]; omega)
  have hev : ∀ x ∈ every row.length, StepD x := fun x hx => every_st hx
  have hevl : (every row.length).length ≤ 300 := by
    unfold every
    rw [List.length_append, List.length_append, lenm, lenm, lenm]
    omega
  rw [show VI.execs T [0] cDB (sZ d dd row0 found o row a5 a6 a7 a8 a9) = VI.execs T [0] (cDB.drop 2) (sZ d dd row0 found o row a5 (some (.lst true (every row.length))) a7 a8 none) from (xs_step (x_asg1 t3 (by decide))).trans (xs_step (x_asg1 t5 (by decide)))]
  -- the filter
  let t : D → Bool := fun x => (afterK rd row (kindOf x)).isSome
  obtain ⟨s', f1, o2, y, rfl⟩ := filt_D (T := T) (tg := 8) (cs := [.pr .notN [.call 26 [.frv 1, .frv 4, .frv 8]]]) t (every row.length) (fun x hx => (hev x hx).k.fr) (by omega) (fun s => ∃ o2 y, s = sZ d dd row0 found o2 row a5 (some (.lst false (every row.length))) a7 y none) (sZ d dd row0 found o row a5 (some (.lst false (every row.length))) a7 none none) ⟨o, none, rfl⟩ (by
    rintro s x hx ⟨o2, y, rfl⟩
    refine ⟨sZ d dd row0 found false row a5 (some (.lst false (every row.length))) a7 (some x) none, ?_, rfl, _, _, rfl⟩
    have e1 := ok_notN (after_call (T := T) hA hr hin (by omega) (hev x hx).k (s := sZ d dd row0 found o2 row a5 (some (.lst false (every row.length))) a7 (some x) none) (i := 1) (j := 4) (k := 8) (o := o2) rfl rfl rfl (by decide))
    show evc T _ (sZ d dd row0 found o2 row a5 (some (.lst false (every row.length))) a7 (some x) none) = _
    rw [evc_one, e1, b_ok, tR_bl, ret_app, isNon_outR]
    show some (Res.ok (!(afterK rd row (kindOf x)).isNone) _) = some (Res.ok (afterK rd row (kindOf x)).isSome _)
    cases afterK rd row (kindOf x) <;> rfl)
  let good : List D := (every row.length).filter t
  have hgood : ∀ x ∈ good, StepD x := fun x hx => hev x (List.mem_filter.mp hx).1
  have t6 : ev T (.lc [8] .val [.frv 6] [.pr .notN [.call 26 [.frv 1, .frv 4, .frv 8]]] (.frv 8)) (sZ d dd row0 found o row a5 (some (.lst true (every row.length))) a7 a8 none) = some (.ok (.lst true good) (sZ d dd row0 found o2 row a5 (some (.lst false (every row.length))) a7 none none)) := by
    have q : frzs (every row.length) = every row.length := frzs_id _ (allFs_K fun x hx => (hev x hx).k)
    rw [ev_lc, src_app, evs_one (d := .lst false (every row.length)) (s1 := sZ d dd row0 found o row a5 (some (.lst false (every row.length))) a7 a8 none) (by
      rw [ev_frv]
      show sR (some (some (.lst true (every row.length)))) _ = _
      rw [sR_some]
      simp only [frz, q]
      rfl), b_ok]
    simp only [frz, q]
    rw [show srcD .val [.lst false (every row.length)] = some (every row.length) from rfl, oR_some, b_ok, lcM_ok f1]
    rfl
  let sB : VS := sZ d dd row0 found o2 row a5 (some (.lst false (every row.length))) (some (.lst true good)) none none
  rw [show VI.execs T [0] (cDB.drop 2) (sZ d dd row0 found o row a5 (some (.lst true (every row.length))) a7 a8 none) = VI.execs T [0] (cDB.drop 3) sB from xs_step (x_asg1 t6 (by decide))]
  have e7 := nnil_D (T := T) (i := 7) (s := sB) (o := true) (l := good) rfl fun x hx => (hgood x hx).y
  by_cases hne : good = []
  · rw [decide_eq_true hne] at e7
    refine ⟨d, found, o2, row, some (.lst false (every row.length)), some (.lst true good), none, none, ?_, hp.le (by omega), hfd, by omega, hin, Nat.le_refl _⟩
    show VI.execs T [0] [.ite _ _ []] sB = _
    rw [xs_step (x_skip e7), xs_nil]
  · rw [decide_eq_false hne] at e7
    obtain ⟨x, d1, hx, hp1, e8⟩ := pick_D hT (s := sB) (i := 0) (j := 7) (l := good) (o := true) (by decide) rfl rfl (fun x hx => (hgood x hx).k.fr) hp (by omega) hne (by
      have := List.length_filter_le t (every row.length)
      show ((every row.length).filter t).length ≤ 5000
      omega)
    have hxs := hgood x hx
    have htx : (afterK rd row (kindOf x)).isSome = true := (List.mem_filter.mp hx).2
    obtain ⟨row', hrow'⟩ := Option.isSome_iff_exists.mp htx
    obtain ⟨m1, m2⟩ := afterK_mem hrow'
    let sC : VS := sZ d1 dd row0 found o2 row a5 (some (.lst false (every row.length))) (some (.lst true good)) (some x) none
    let sD2 : VS := sZ d1 dd row0 (found ++ [x]) o2 row a5 (some (.lst false (every row.length))) (some (.lst true good)) (some x) none
    have e9 : VI.exec T [0] (.ex (.mt .app (.var 3) [.frv 8])) sC = some (.ok .nx sD2) := by
      refine (x_exp (ev_mt_ok (T := T) (m := .app) (i := 3) (s := sC) (s1 := sC) (o := .lst true found) rfl rfl (evs_one (frv_same (d := x) rfl (frz_id _ hxs.k.fr))) rfl (app_ok _ _ (by omega)))).trans ?_
      rw [frz_id _ hxs.k.fr]
      rfl
    have e10 := after_call (T := T) hA hr hin (by omega) hxs.k (s := sD2) (i := 1) (j := 4) (k := 8) (o := o2) rfl rfl rfl (by decide)
    rw [hrow'] at e10
    refine ⟨d1, found ++ [x], true, row', some (.lst false (every row.length)), some (.lst true good), some x, none, ?_, hp1, fun z hz => ?_, by rw [List.length_append, List.length_singleton]; omega, fun z hz => hin z (m1 z hz), m2⟩
    · show VI.execs T [0] [.ite _ _ []] sB = _
      refine (xs_step (s1 := sZ d1 dd row0 (found ++ [x]) true row' a5 (some (.lst false (every row.length))) (some (.lst true good)) (some x) none) ?_).trans (xs_nil _)
      rw [x_if_true e7]
      refine (xs_step (x_asg1 e8 (by decide))).trans ?_
      refine (xs_step e9).trans ?_
      refine (xs_step (x_asg1 e10 (by decide))).trans ?_
      exact xs_nil _
    · rcases List.mem_append.mp hz with h | h
      · exact hfd z h
      · rw [List.mem_singleton.mp h]; exact hxs
theorem draw_ok (T : Tab) (hT : TakeS (T.call 3)) (hA : AfterS (T.call 26)) : DrawS (runF T 3 10 [0] c_law_steps) := by
  intro d B dd cells rd row hp hB hr hin hl
  obtain ⟨n, d1, h0, h1, hp1, e1⟩ := take_call hT (T := T) (e := .con (.int 11)) (s := sZ d dd row [] true row none none none none none) (n := 11) rfl hp (by omega) (by decide) (by decide) (fun _ h => nomatch h) rfl
  obtain ⟨n, rfl⟩ := Int.eq_ofNat_of_zero_le h0
  obtain ⟨s', f1, d2, found, o, row', y5, y6, y7, y8, y9, rfl, hp2, hf, hfl, _, _⟩ := forM_inv (Pn := [0]) (tg := [5]) (b := VI.execs T [0] cDB) ((List.range n).map fun i : Nat => D.int (i : Int)) (fun i s => ∃ d' found o row' y5 y6 y7 y8 y9, s = sZ d' dd row found o row' y5 y6 y7 y8 y9 ∧ PileOk d' (B + 1 + i) ∧ (∀ x ∈ found, StepD x) ∧ found.length ≤ i ∧ (∀ x ∈ row', x ∈ cells) ∧ row'.length ≤ 100) (sZ d1 dd row [] true row none none none none none) ⟨d1, [], true, row, _, _, _, _, _, rfl, hp1, (fun _ h => nomatch h), Nat.le_refl _, hin, hl⟩ (by
    rintro i s x hx ⟨d', found, o, row', y5, y6, y7, y8, y9, rfl, hp', hf, hfl, hin', hl'⟩
    obtain ⟨hi, rfl⟩ := rng_get hx
    obtain ⟨d2, found2, o2, row2, b6, b7, b8, b9, e, q1, q2, q3, q4, q5⟩ := draw_step T hT hA hr hp' (by omega) row hin' hl' found hf (by omega) o (some (.int (i : Int))) y6 y7 y8 y9
    exact ⟨by decide, _, rfl, .nx, _, e, .inl rfl, d2, found2, o2, row2, _, _, _, _, _, rfl, q1, q2, by omega, q4, by omega⟩)
  rw [List.length_map, List.length_range] at hp2 hfl
  refine ⟨found, d2, hf, by omega, hp2.le (by omega), ?_⟩
  unfold c_law_steps
  rw [runF_eq 3 10 _ [d, dd, .lst false (row.map dS)] [] rfl]
  show runR 3 [0] (VI.execs T [0] _ ⟨[some d, some dd, some (.lst false (row.map dS)), none, none, none, none, none, none, none], []⟩) = _
  rw [xs_step (s1 := ⟨[some d, some dd, some (.lst false (row.map dS)), some (.lst true []), none, none, none, none, none, none], []⟩) rfl]
  rw [xs_step (s1 := sZ d dd row [] true row none none none none none) (x_asg1 (ok_listv (ds := row.map dS) (o := false) rfl (allFs_S _)) (by decide))]
  have e2 : srcM T .rng1 [.call 3 [.io 0, .con (.int 11)]] (sZ d dd row [] true row none none none none none) = some (.ok ((List.range n).map fun i : Nat => D.int (i : Int)) (sZ d1 dd row [] true row none none none none none)) := by
    rw [src_app, evs_one e1, b_ok]
    simp only [frz]
    rw [srcD_r1 n (by omega), oR_some]
  rw [xs_step (x_for_ok e2 f1)]
  rfl
end VK

namespace VK
open VI
open PySem (PyData)
def L9 (w : Str) (k many : Nat) : List D := [.tup [.str "drop", .int (k : Int)], .tup [.str w, .int (0 - 1 - (k : Int))], .tup [.str w, .int (many : Int)], .tup [.str w, .bl true], .tup [.str w], .tup [.str w, .int (k : Int), .int (k : Int)], .lst false [.str w, .int (k : Int)], .str w, .non]
def L6 (w : Str) (k : Nat) : List D := [.tup [.str w, .non], .tup [.str "", .int (k : Int)], .tup [.int (k : Int), .str w], .tup [.str w, .int (10 ^ 20)], .tup [.str w, .int (k : Int)], .tup [.str w, .int (k : Int)]]
def L3 (w : Str) (k : Nat) : List D := [.tup [.lst false [.str w], .int (k : Int)], .tup [.non, .int (k : Int)], .tup [.str w, .str (toString (k : Int))]]
theorem wN : Wd3 (.str "drop") false false false := ⟨by decide +kernel, by decide +kernel, by decide +kernel, by decide +kernel, rfl, rfl, rfl, rfl, rfl⟩
theorem wE : Wd3 (.str "") false false false := ⟨by decide +kernel, by decide +kernel, by decide +kernel, by decide +kernel, rfl, rfl, rfl, rfl, rfl⟩
theorem wX : Wd3 .non false false false := ⟨by decide +kernel, by decide +kernel, by decide +kernel, by decide +kernel, rfl, rfl, rfl, rfl, rfl⟩
theorem okD : PySem.PyData.strOk "drop" = true := by decide +kernel
theorem okE : PySem.PyData.strOk "" = true := by decide +kernel
/-- one of the three words -/
structure W3 (w : Str) : Prop where
  a : ∃ i l s, Wd3 (.str w) i l s
  b : Wd3 (.lst false [.str w]) false false false
  c : PySem.PyData.strOk w = true
theorem w3I : W3 "idle" := ⟨⟨_, _, _, wI⟩, ⟨by decide +kernel, by decide +kernel, by decide +kernel, by decide +kernel, rfl, rfl, rfl, rfl, rfl⟩, okI⟩
theorem w3L : W3 "lost" := ⟨⟨_, _, _, wL⟩, ⟨by decide +kernel, by decide +kernel, by decide +kernel, by decide +kernel, rfl, rfl, rfl, rfl, rfl⟩, okL⟩
theorem w3S : W3 "swap" := ⟨⟨_, _, _, wS⟩, ⟨by decide +kernel, by decide +kernel, by decide +kernel, by decide +kernel, rfl, rfl, rfl, rfl, rfl⟩, okS⟩
theorem digits_ok : ∀ k : Nat, k < 110 → PySem.PyData.strOk (toString (k : Int) : String) = true := by decide +kernel
section
variable {w : Str} (h : W3 w)
include h
theorem st_good (k : Int) : StepD (.tup [.str w, .int k]) := by
  obtain ⟨i, l, s, ha⟩ := h.a
  exact ⟨.good k ha, lay_si w k h.c⟩
theorem st_w : ∃ m, memO (.str w) words = some m := by
  obtain ⟨i, l, s, ha⟩ := h.a
  exact ⟨_, ha.me⟩
theorem st_noint (b : D) {p q : Bool} (h1 : isiD "bool" b = some p) (h2 : isiD "int" b = some q) (h3 : p = true ∨ q = false) (h6 : allF b = true) (h8 : noRef b = true) (h9 : ∀ k, b ≠ .int k) (y : PyData) (hy : toPy b = some y) (hy2 : y.canLay0 = true) (hy3 : y.depth ≤ 2) : StepD (.tup [.str w, b]) := by
  obtain ⟨m, hm⟩ := st_w h
  refine ⟨.noint h1 h2 h3 hm rfl h6 rfl h8 h9, .tuple [.str w, y], by simp only [toPy, toPys, hy, Option.map_some], by simp [PyData.canLay0, PyData.canLayAll0, h.c, hy2], ?_⟩
  simp only [PyData.depth, PyData.depthAll]
  omega
theorem l9_st (k many : Nat) : ∀ d ∈ L9 w k many, StepD d := by
  intro d hd
  simp only [L9, List.mem_cons, List.mem_nil_iff, or_false] at hd
  rcases hd with rfl | rfl | rfl | rfl | rfl | rfl | rfl | rfl | rfl
  · exact ⟨.good _ wN, lay_si _ _ okD⟩
  · exact st_good h _
  · exact st_good h _
  · exact st_noint h (.bl true) (p := true) (q := true) (by rfl) (by rfl) (.inl rfl) rfl rfl (fun _ h => nomatch h) (.bool true) rfl rfl (by simp [PyData.depth])
  · exact ⟨.len (by simp) rfl rfl, .tuple [.str w], rfl, by simp [PyData.canLay0, PyData.canLayAll0, h.c], by simp [PyData.depth, PyData.depthAll]⟩
  · exact ⟨.len (by simp) rfl rfl, .tuple [.str w, .int k, .int k], rfl, by simp [PyData.canLay0, PyData.canLayAll0, h.c], by simp [PyData.depth, PyData.depthAll]⟩
  · exact ⟨.nontup (by rfl) rfl rfl rfl, .list [.str w, .int k], rfl, by simp [PyData.canLay0, PyData.canLayAll0, h.c], by simp [PyData.depth, PyData.depthAll]⟩
  · exact ⟨.nontup (by rfl) rfl rfl rfl, .str w, rfl, by simp [PyData.canLay0, h.c], by simp [PyData.depth]⟩
  · exact ⟨.nontup (by rfl) rfl rfl rfl, .none, rfl, rfl, by simp [PyData.depth]⟩
theorem l6_st (k : Nat) : ∀ d ∈ L6 w k, StepD d := by
  intro d hd
  simp only [L6, List.mem_cons, List.mem_nil_iff, or_false] at hd
  rcases hd with rfl | rfl | rfl | rfl | rfl | rfl
  · exact st_noint h .non (p := false) (q := false) (by rfl) (by rfl) (.inr rfl) rfl rfl (fun _ h => nomatch h) .none rfl rfl (by simp [PyData.depth])
  · exact ⟨.good _ wE, lay_si _ _ okE⟩
  · exact ⟨.noint (p := false) (q := false) (m := false) (by rfl) (by rfl) (.inr rfl) (by rfl) rfl rfl rfl rfl (fun _ h => nomatch h), .tuple [.int k, .str w], rfl, by simp [PyData.canLay0, PyData.canLayAll0, h.c], by simp [PyData.depth, PyData.depthAll]⟩
  · exact st_good h _
  · exact st_good h _
  · exact st_good h _
theorem l3_st (k : Nat) (hk : k < 110) : ∀ d ∈ L3 w k, StepD d := by
  intro d hd
  simp only [L3, List.mem_cons, List.mem_nil_iff, or_false] at hd
  rcases hd with rfl | rfl | rfl
  · exact ⟨.good _ h.b, .tuple [.list [.str w], .int k], rfl, by simp [PyData.canLay0, PyData.canLayAll0, h.c], by simp [PyData.depth, PyData.depthAll]⟩
  · exact ⟨.good _ wX, .tuple [.none, .int k], rfl, by simp [PyData.canLay0, PyData.canLayAll0], by simp [PyData.depth, PyData.depthAll]⟩
  · exact st_noint h (.str (toString (k : Int))) (p := false) (q := false) (by rfl) (by rfl) (.inr rfl) rfl rfl (fun _ h => nomatch h) (.str (toString (k : Int))) rfl (by simp only [PyData.canLay0]; exact digits_ok k hk) (by simp [PyData.depth])
end
abbrev sQ (d : D) (ds : List D) (many : Nat) (a3 a4 a5 a6 : Option D) : VS := ⟨[some d, some (.lst false ds), some (.int (many : Int)), a3, a4, a5, a6], []⟩
def BentS (m : List D → List RO → Option CR) : Prop := ∀ (d : D) (B : Nat) (ds : List D) (many : Nat), PileOk d B → B < 2 ^ 95 → (∀ x ∈ ds, StepD x) → ds.length ≤ 20 → many ≤ 100 →
  ∃ (ds' : List D) (d' : D), (∀ x ∈ ds', StepD x) ∧ ds'.length ≤ 21 ∧ PileOk d' (B + 10) ∧ m [d, .lst false ds, .int (many : Int)] [] = some (.ok (.lst true ds') [some d', none, none] [])
theorem word_at (r : Nat) (h : r < 3) : ∃ w : Str, W3 w ∧ ixD (.lst false [.str "idle", .str "lost", .str "swap"]) (.int (r : Int)) = some (.str w) := by
  have : r = 0 ∨ r = 1 ∨ r = 2 := by omega
  rcases this with rfl | rfl | rfl
  · exact ⟨_, w3I, rfl⟩
  · exact ⟨_, w3L, rfl⟩
  · exact ⟨_, w3S, rfl⟩
theorem slvD {T : Tab} {i j : Nat} {s : VS} {o : Bool} {l : List D} {k : Nat} (h : s.ρ[i]? = some (some (.lst o l))) (hj : s.ρ[j]? = some (some (.int (k : Int)))) (hf : allFs l = true) : ev T (.slc (.var i) [] [.frv j]) s = some (.ok (.lst true (l.take k)) s) := by
  rw [ev_slcv, h, sR_some, evP_nil, b_ok, evP_one, frv_same hj rfl, b_ok, iR_i, b_ok]
  simp only [AV.get, h, slR_some]
  rw [slD_lto _ _ k hf, Option.map_some]
theorem slvD2 {T : Tab} {i j : Nat} {s : VS} {o : Bool} {l : List D} {k : Nat} (h : s.ρ[i]? = some (some (.lst o l))) (hj : s.ρ[j]? = some (some (.int (k : Int)))) (hf : allFs l = true) : ev T (.slc (.var i) [.frv j] []) s = some (.ok (.lst true (l.drop k)) s) := by
  rw [ev_slcv, h, sR_some, evP_one, frv_same hj rfl, b_ok, iR_i, b_ok, evP_nil, b_ok]
  simp only [AV.get, h, slR_some]
  rw [slD_lfrom _ _ k hf, Option.map_some]
theorem bent_lists (T : Tab) (d : D) (ds : List D) (many : Nat) (a3 a6 : Option D) (k : Nat) (hk : k < 110) (w : Str) :
    ev T (.lst [.tup [.con (.str "drop"), .frv 4], .tup [.frv 5, .pr .sub [.pr .sub [.con (.int 0), .con (.int 1)], .var 4]], .tup [.frv 5, .frv 2], .tup [.frv 5, .con (.bl true)], .tup [.frv 5], .tup [.frv 5, .frv 4, .frv 4], .lst [.frv 5, .frv 4], .frv 5, .con .non]) (sQ d ds many a3 (some (.int (k : Int))) (some (.str w)) a6) = some (.ok (.lst true (L9 w k many)) (sQ d ds many a3 (some (.int (k : Int))) (some (.str w)) a6)) ∧
    ev T (.lst [.tup [.frv 5, .con .non], .tup [.con (.str ""), .frv 4], .tup [.frv 4, .frv 5], .tup [.frv 5, .pr .pow [.con (.int 10), .con (.int 20)]], .tup [.frv 5, .frv 4], .tup [.frv 5, .frv 4]]) (sQ d ds many a3 (some (.int (k : Int))) (some (.str w)) a6) = some (.ok (.lst true (L6 w k)) (sQ d ds many a3 (some (.int (k : Int))) (some (.str w)) a6)) ∧
    ev T (.lst [.tup [.lst [.frv 5], .frv 4], .tup [.con .non, .frv 4], .tup [.frv 5, .pr .str1 [.var 4]]]) (sQ d ds many a3 (some (.int (k : Int))) (some (.str w)) a6) = some (.ok (.lst true (L3 w k)) (sQ d ds many a3 (some (.int (k : Int))) (some (.str w)) a6)) := by
  refine ⟨rfl, rfl, ?_⟩
  have e : ev T (.pr .str1 [.var 4]) (sQ d ds many a3 (some (.int (k : Int))) (some (.str w)) a6) = some (.ok (.str (toString (k : Int))) (sQ d ds many a3 (some (.int (k : Int))) (some (.str w)) a6)) := by
    refine q1 (p := .str1) (by rfl) (x := .int (k : Int)) (qv rfl) ?_ rfl
    show (if (k : Int).natAbs.log2 < 1920 then some (D.str (toString (k : Int))) else none) = _
    rw [if_pos]
    have : (k : Int).natAbs < 2 ^ 250 := by
      have : (2 : Nat) ^ 250 > 110 := by decide
      omega
    have := log2_small this
    omega
  have e3 : ev T (.tup [.frv 5, .pr .str1 [.var 4]]) (sQ d ds many a3 (some (.int (k : Int))) (some (.str w)) a6) = some (.ok (.tup [.str w, .str (toString (k : Int))]) (sQ d ds many a3 (some (.int (k : Int))) (some (.str w)) a6)) := by
    rw [ev_tup, evs_two (x := .str w) (y := .str (toString (k : Int))) (frv_same (d := .str w) rfl rfl) e, b_ok]
    rfl
  have e2 : ev T (.tup [.con .non, .frv 4]) (sQ d ds many a3 (some (.int (k : Int))) (some (.str w)) a6) = some (.ok (.tup [.non, .int (k : Int)]) (sQ d ds many a3 (some (.int (k : Int))) (some (.str w)) a6)) := rfl
  have e1 : ev T (.tup [.lst [.frv 5], .frv 4]) (sQ d ds many a3 (some (.int (k : Int))) (some (.str w)) a6) = some (.ok (.tup [.lst false [.str w], .int (k : Int)]) (sQ d ds many a3 (some (.int (k : Int))) (some (.str w)) a6)) := rfl
  rw [ev_lst, evs_cons, e1, b_ok, evs_two e2 e3, b_ok, b_ok]
  rfl
theorem bent_ok (T : Tab) (hT : TakeS (T.call 3)) : BentS (runF T 3 7 [0] c_law_bent) := by
  intro d B ds many hp hB hd hl hm
  have hlim : lim = 1000000 := rfl
  have hfs := allFs_K fun x hx => (hd x hx).k
  obtain ⟨at_, d1, g0, g1', hp1, e1⟩ := take_call hT (T := T) (e := .pr .add [.pr .len [.var 1], .con (.int 1)]) (s := sQ d ds many none none none none) (n := (ds.length : Int) + 1) rfl hp (by omega) (by omega) (by omega) (fun _ h => nomatch h) (ok_inc (p := .len) (ok_len (ds := ds) (o := false) rfl))
  obtain ⟨at_, rfl⟩ := Int.eq_ofNat_of_zero_le g0
  obtain ⟨k, d2, k0, k1, hp2, e2⟩ := take_call hT (T := T) (e := .pr .add [.var 2, .con (.int 2)]) (s := sQ d1 ds many (some (.int (at_ : Int))) none none none) (n := ((many + 2 : Nat) : Int)) rfl hp1 (by omega) (by omega) (by omega) (fun _ h => nomatch h) (ok_addk (m := 2) rfl)
  obtain ⟨k, rfl⟩ := Int.eq_ofNat_of_zero_le k0
  have hk : k < 110 := by omega
  obtain ⟨r, d3, r0, r1, hp3, e3⟩ := take_call hT (T := T) (e := .con (.int 3)) (s := sQ d2 ds many (some (.int (at_ : Int))) (some (.int (k : Int))) none none) (n := 3) rfl hp2 (by omega) (by omega) (by omega) (fun _ h => nomatch h) rfl
  obtain ⟨r, rfl⟩ := Int.eq_ofNat_of_zero_le r0
  obtain ⟨w, hw, hwa⟩ := word_at r (by omega)
  have e4 : ev T (.pr .ix [.lst [.con (.str "idle"), .con (.str "lost"), .con (.str "swap")], .call 3 [.io 0, .con (.int 3)]]) (sQ d2 ds many (some (.int (at_ : Int))) (some (.int (k : Int))) none none) = some (.ok (.str w) (sQ d3 ds many (some (.int (at_ : Int))) (some (.int (k : Int))) none none)) := by
    rw [ev_prg _ _ _ (by rfl), evA_cons (.lst _) _ _ (fun _ h => nomatch h)]
    rw [show ev T (.lst [.con (.str "idle"), .con (.str "lost"), .con (.str "swap")]) (sQ d2 ds many (some (.int (at_ : Int))) (some (.int (k : Int))) none none) = some (.ok (.lst true [.str "idle", .str "lost", .str "swap"]) (sQ d2 ds many (some (.int (at_ : Int))) (some (.int (k : Int))) none none)) from rfl, b_ok]
    rw [evA_cons (.call 3 _) [] _ (fun _ h => nomatch h), e3, b_ok, evA_nil, b_ok, b_ok, b_ok]
    show gR _ (some [.lst false [.str "idle", .str "lost", .str "swap"], .int (r : Int)]) _ = _
    simp only [gR_some, Pr.fn, fn2, hwa, Option.map_some]
  obtain ⟨b9, _, _⟩ := bent_lists T d3 ds many (some (.int (at_ : Int))) none k hk w
  obtain ⟨_, b6, _⟩ := bent_lists T d3 ds many (some (.int (at_ : Int))) (some (.lst true (L9 w k many))) k hk w
  obtain ⟨_, _, b3⟩ := bent_lists T d3 ds many (some (.int (at_ : Int))) (some (.lst true (L9 w k many ++ L6 w k))) k hk w
  have f9 := allFs_K fun x hx => (l9_st hw k many x hx).k
  have f6 := allFs_K fun x hx => (l6_st hw k x hx).k
  have f3 := allFs_K fun x hx => (l3_st hw k hk x hx).k
  have f96 : allFs (L9 w k many ++ L6 w k) = true := allFs_K fun x hx => by
    rcases List.mem_append.mp hx with h | h
    · exact (l9_st hw k many x h).k
    · exact (l6_st hw k x h).k
  let LL : List D := L9 w k many ++ L6 w k ++ L3 w k
  have hLL : ∀ x ∈ LL, StepD x := fun x hx => by
    rcases List.mem_append.mp hx with h | h
    · rcases List.mem_append.mp h with h | h
      · exact l9_st hw k many x h
      · exact l6_st hw k x h
    · exact l3_st hw k hk x h
  have e5 := ok_addDv (T := T) (i := 6) (o := true) (x := L9 w k many) (y := L6 w k) (b := .lst [.tup [.frv 5, .con .non], .tup [.con (.str ""), .frv 4], .tup [.frv 4, .frv 5], .tup [.frv 5, .pr .pow [.con (.int 10), .con (.int 20)]], .tup [.frv 5, .frv 4], .tup [.frv 5, .frv 4]]) rfl rfl (fun _ h => nomatch h) b6 f9 f6 (Nat.le_of_ble_eq_true rfl)
  have e6 := ok_addDv (T := T) (i := 6) (o := true) (x := L9 w k many ++ L6 w k) (y := L3 w k) (b := .lst [.tup [.lst [.frv 5], .frv 4], .tup [.con .non, .frv 4], .tup [.frv 5, .pr .str1 [.var 4]]]) rfl rfl (fun _ h => nomatch h) b3 f96 f3 (Nat.le_of_ble_eq_true rfl)
  let sE2 : VS := sQ d3 ds many (some (.int (at_ : Int))) (some (.int (k : Int))) (some (.str w)) (some (.lst true LL))
  obtain ⟨x, d4, hx, hp4, e7⟩ := pick_D hT (s := sE2) (i := 0) (j := 6) (l := LL) (o := true) (by decide) rfl rfl (fun x hx => (hLL x hx).k.fr) hp3 (by omega) (by intro e; have := congrArg List.length e; simp only [LL, L9, L6, L3, List.length_append, List.length_cons, List.length_nil] at this; omega) (by
    show (L9 w k many ++ L6 w k ++ L3 w k).length ≤ 5000
    exact Nat.le_of_ble_eq_true rfl)
  let sF2 : VS := sQ d4 ds many (some (.int (at_ : Int))) (some (.int (k : Int))) (some (.str w)) (some (.lst true LL))
  have hxs := hLL x hx
  have e8 : ev T (.lst [.pr .ix [.var 6, .call 3 [.io 0, .pr .len [.var 6]]]]) sE2 = some (.ok (.lst true [x]) sF2) := by
    rw [ev_lst, evs_one e7, b_ok, frz_id _ hxs.k.fr]
    rfl
  have t1 : ev T (.slc (.var 1) [] [.frv 3]) sE2 = some (.ok (.lst true (ds.take at_)) sE2) := slvD rfl rfl hfs
  have t2 : ev T (.slc (.var 1) [.frv 3] []) sF2 = some (.ok (.lst true (ds.drop at_)) sF2) := slvD2 rfl rfl hfs
  have ftk : allFs (ds.take at_) = true := allFs_K fun x hx => (hd x (List.mem_of_mem_take hx)).k
  have fdr : allFs (ds.drop at_) = true := allFs_K fun x hx => (hd x (List.mem_of_mem_drop hx)).k
  have fx : allFs [x] = true := allFs_K fun z hz => by rw [List.mem_singleton.mp hz]; exact hxs.k
  have ftx : allFs (ds.take at_ ++ [x]) = true := allFs_K fun z hz => by
    rcases List.mem_append.mp hz with h | h
    · exact (hd z (List.mem_of_mem_take h)).k
    · rw [List.mem_singleton.mp h]; exact hxs.k
  have u1 := ok_addD (T := T) (a := .slc (.var 1) [] [.frv 3]) (b := .lst [.pr .ix [.var 6, .call 3 [.io 0, .pr .len [.var 6]]]]) (fun _ h => nomatch h) (fun _ h => nomatch h) t1 e8 ftk fx (by rw [List.length_take, List.length_singleton]; omega)
  have u2 := ok_addD (T := T) (a := .pr .add [.slc (.var 1) [] [.frv 3], .lst [.pr .ix [.var 6, .call 3 [.io 0, .pr .len [.var 6]]]]]) (b := .slc (.var 1) [.frv 3] []) (fun _ h => nomatch h) (fun _ h => nomatch h) u1 t2 ftx fdr (by rw [List.length_append, List.length_take, List.length_drop, List.length_singleton]; omega)
  refine ⟨ds.take at_ ++ [x] ++ ds.drop at_, d4, fun z hz => ?_, by rw [List.length_append, List.length_append, List.length_take, List.length_drop, List.length_singleton]; omega, hp4.le (by omega), ?_⟩
  · rcases List.mem_append.mp hz with h | h
    · rcases List.mem_append.mp h with h | h
      · exact hd z (List.mem_of_mem_take h)
      · rw [List.mem_singleton.mp h]; exact hxs
    · exact hd z (List.mem_of_mem_drop h)
  · unfold c_law_bent
    rw [runF_eq 3 7 _ [d, .lst false ds, .int (many : Int)] [] rfl]
    show runR 3 [0] (VI.execs T [0] _ (sQ d ds many none none none none)) = _
    refine (congrArg (runR 3 [0]) ?_).trans (rfl : runR 3 [0] (some (.ok (.rt (.lst true (ds.take at_ ++ [x] ++ ds.drop at_))) sF2)) = _)
    refine (xs_step (x_asg1 e1 (by decide))).trans ?_
    refine (xs_step (x_asg1 e2 (by decide))).trans ?_
    refine (xs_step (x_asg1 e4 (by decide))).trans ?_
    refine (xs_step (x_asg1 b9 (by decide))).trans ?_
    refine (xs_step (x_asg1 e5 (by decide))).trans ?_
    refine (xs_step (x_asg1 e6 (by decide))).trans ?_
    exact x_retv u2
end VK

namespace VK
open VI
open PySem (PyData)
abbrev sV (ns : List Int) (a1 a2 a3 a4 a5 a6 a7 a8 a9 a10 a11 a12 a13 : Option D) : VS := ⟨[some (.scr ns), a1, a2, a3, a4, a5, a6, a7, a8, a9, a10, a11, a12, a13], []⟩
def dueD (o : Bool) : Option Row → D
  | some r => .lst o (r.map dS)
  | none => .non
theorem eqD_due (o : Bool) (r : Option Row) (h : ∀ row, r = some row → ∀ l ∈ row, low l) : eqD (outR r) (dueD o r) = some true := by
  cases r with
  | none => rfl
  | some row =>
    have := eqD_strs true o row row (h row rfl) (h row rfl)
    rw [decide_eq_true rfl] at this
    exact this
theorem isNon_due (o : Bool) (r : Option Row) : isNon (dueD o r) = r.isNone := by cases r <;> rfl
theorem lay_row {row : Row} (h : ∀ l ∈ row, low l) : Lay (.lst false (row.map dS)) := by
  obtain ⟨e1, e2, e3⟩ := toPys_flat (f := dS) (g := fun l => PyData.str (S l)) row fun l hl => flat_str l (h l hl)
  refine ⟨.list (row.map fun l => PyData.str (S l)), by simp only [toPy, e1, Option.map_some], by simp only [PyData.canLay0, e2], ?_⟩
  simp only [PyData.depth]
  omega
theorem eqD_handed {row : Row} {ds : List D} (h : ∀ l ∈ row, low l) (hd : ∀ d ∈ ds, Lay d) : eqD (.lst true [.lst false (row.map dS), .lst false ds]) (.lst false [.lst false (row.map dS), .lst false ds]) = some true := by
  obtain ⟨x, e1, e2, e3⟩ := lay_row h
  obtain ⟨xs, f1, f2, f3, _⟩ := toPys_lay hd
  have e1' : (toPys (row.map dS)).map PyData.list = some x := e1
  have s1 : PySem.SeqAt.shaped (.list [x, .list xs]) = true := shaped_of (by simp only [PyData.canLay0, PyData.canLayAll0, e2, f2, Bool.and_self]) (by simp only [PyData.depth, PyData.depthAll]; omega)
  have s2 : (PyData.list [x, .list xs]).canLay0 = true := by simp only [PyData.canLay0, PyData.canLayAll0, e2, f2, Bool.and_self]
  simp only [eqD, toPy, toPys, e1', f1, Option.map_some, s1, Bool.and_self, if_true, PySem.SeqAt.eqv_refl _ s2]
theorem ix_two0 (o : Bool) {a b : D} (h : allF a = true) : ixD (.lst o [a, b]) (.int 0) = some a := by
  rw [ix_l]
  show ((L2.atI [a, b] ((0 : Nat) : Int)).bind okA) = _
  rw [at_nat]
  simp only [List.getElem?_cons_zero, Option.bind_some, okA, h, if_true]
theorem ix_two1 (o : Bool) {a b : D} (h : allF b = true) : ixD (.lst o [a, b]) (.int 1) = some b := by
  rw [ix_l]
  show ((L2.atI [a, b] ((1 : Nat) : Int)).bind okA) = _
  rw [at_nat]
  simp only [List.getElem?_cons_succ, List.getElem?_cons_zero, Option.bind_some, okA, h, if_true]
/-- the steps, one by one, by the law's own rule -/
theorem due_loop (T : Tab) (hA : AfterS (T.call 26)) {plain : List (List Nat)} {es : List En} (hs : ShOk plain es) (row : Row) (hin : ∀ x ∈ row, x ∈ es.map (·.1)) (hl : row.length ≤ 100) (ds : List D) (hd : ∀ d ∈ ds, Kind d) (ns : List Int) (a1 a2 a3 a5 a6 a8 a9 a10 a11 a12 a13 : Option D) (o : Bool) :
    ∃ o' b8, forM [] [8] (VI.execs T [] [.ite (.pr .notN [.var 7]) [.asg [7] (.call 26 [.frv 4, .frv 7, .frv 8])] []]) ds (sV ns a1 a2 a3 (some (dRd plain es)) a5 a6 (some (.lst o (row.map dS))) a8 a9 a10 a11 a12 a13) =
      some (.ok .nx (sV ns a1 a2 a3 (some (dRd plain es)) a5 a6 (some (dueD o' (runD (rdOf es) ds row))) b8 a9 a10 a11 a12 a13)) := by
  have hr := rd_ok hs
  obtain ⟨s', f1, o', r, b8, rfl, hrun, _⟩ := forM_inv (Pn := []) (tg := [8]) (b := VI.execs T [] [.ite (.pr .notN [.var 7]) [.asg [7] (.call 26 [.frv 4, .frv 7, .frv 8])] []]) ds
    (fun i s => ∃ o r y, s = sV ns a1 a2 a3 (some (dRd plain es)) a5 a6 (some (dueD o r)) y a9 a10 a11 a12 a13 ∧ r.bind (runD (rdOf es) (ds.drop i)) = runD (rdOf es) ds row ∧ ∀ row', r = some row' → (∀ x ∈ row', x ∈ es.map (·.1)) ∧ row'.length ≤ 100)
    (sV ns a1 a2 a3 (some (dRd plain es)) a5 a6 (some (.lst o (row.map dS))) a8 a9 a10 a11 a12 a13) ⟨o, some row, a8, rfl, rfl, fun row' h => by cases h; exact ⟨hin, hl⟩⟩ (by
      rintro i s d hdi ⟨o, r, y, rfl, hrun, hrow⟩
      have hdm := List.mem_of_getElem? hdi
      have hdr : ds.drop i = d :: ds.drop (i + 1) := by
        obtain ⟨hi, he⟩ := List.getElem?_eq_some_iff.mp hdi
        rw [List.drop_eq_getElem_cons hi, he]
      rw [hdr] at hrun
      refine ⟨by decide, _, rfl, ?_⟩
      let sA : VS := sV ns a1 a2 a3 (some (dRd plain es)) a5 a6 (some (dueD o r)) (some d) a9 a10 a11 a12 a13
      show ∃ fl s', VI.execs T [] _ sA = _ ∧ _
      have e1 : ev T (.pr .notN [.var 7]) sA = some (.ok (.bl (!r.isNone)) sA) := q1 (by rfl) (x := dueD o r) (qv rfl) (by simp only [Pr.fn, fn1, isNon_due]) rfl
      cases r with
      | none =>
        refine ⟨.nx, sA, ?_, .inl rfl, o, none, _, rfl, hrun, fun row' h => nomatch h⟩
        rw [xs_step (x_skip e1), xs_nil]
      | some row' =>
        obtain ⟨h1, h2⟩ := hrow row' rfl
        have e2 := after_call (T := T) hA hr (fun x hx => List.mem_append_right _ (h1 x hx)) (by omega) (hd d hdm) (s := sA) (i := 4) (j := 7) (k := 8) (o := o) rfl rfl rfl (by decide)
        have hbind : (afterK (rdOf es) row' (kindOf d)).bind (runD (rdOf es) (ds.drop (i + 1))) = runD (rdOf es) ds row := hrun
        refine ⟨.nx, sV ns a1 a2 a3 (some (dRd plain es)) a5 a6 (some (dueD true (afterK (rdOf es) row' (kindOf d)))) (some d) a9 a10 a11 a12 a13, ?_, .inl rfl, true, afterK (rdOf es) row' (kindOf d), _, rfl, hbind, fun row2 h => ?_⟩
        · refine (xs_step (s1 := sV ns a1 a2 a3 (some (dRd plain es)) a5 a6 (some (dueD true (afterK (rdOf es) row' (kindOf d)))) (some d) a9 a10 a11 a12 a13) ?_).trans (xs_nil _)
          rw [x_if_true e1]
          refine (xs_step (x_asg1 e2 (by decide))).trans ?_
          have : outR (afterK (rdOf es) row' (kindOf d)) = dueD true (afterK (rdOf es) row' (kindOf d)) := by cases afterK (rdOf es) row' (kindOf d) <;> rfl
          rw [this]
          exact xs_nil _
        · obtain ⟨m1, m2⟩ := afterK_mem h
          exact ⟨fun x hx => h1 x (m1 x hx), by omega⟩)
  rw [List.drop_length] at hrun
  have : r = runD (rdOf es) ds row := by
    rw [← hrun]
    cases r <;> rfl
  subst this
  exact ⟨o', b8, f1⟩
theorem runD_mem {rd : Rd} : ∀ {ds : List D} {row row' : Row}, runD rd ds row = some row' → (∀ x ∈ row', x ∈ row) ∧ row'.length ≤ row.length
  | [], row, row', h => by cases h; exact ⟨fun x hx => hx, Nat.le_refl _⟩
  | d :: ds, row, row', h => by
    have h : (afterK rd row (kindOf d)).bind (runD rd ds) = some row' := h
    cases q : afterK rd row (kindOf d) with
    | none => rw [q] at h; cases h
    | some r2 =>
      rw [q] at h
      obtain ⟨m1, m2⟩ := afterK_mem q
      obtain ⟨n1, n2⟩ := runD_mem (row := r2) h
      exact ⟨fun x hx => m1 x (n1 x hx), by omega⟩
abbrev cVB : List Sm := [.asg [13] (.call 33 [.frv 3, .pr .ix [.var 9, .con (.int 0)], .pr .ix [.var 9, .con (.int 1)]]), .ite (.or (.pr .ne [.var 13, .var 7]) (.pr .ne [.var 9, .lst [.frv 5, .frv 6]])) [.ret (.con (.bl false))] [], .ite (.pr .notN [.var 13]) [.ex (.mt .app (.var 13) [.con (.str "x")])] []]
/-- asked twice -/
theorem ask2 (T : Tab) (hS : StepsS (T.call 33)) {plain : List (List Nat)} {es : List En} (hs : ShOk plain es) (row : Row) (hin : ∀ x ∈ row, x ∈ es.map (·.1)) (hl : row.length ≤ 100) (ds : List D) (hd : ∀ d ∈ ds, StepD d) (o : Bool) (ns : List Int) (a1 a2 a4 a8 a10 a11 a12 a13 : Option D) :
    ∃ b10 b13, forM [] [10] (VI.execs T [] cVB) ((List.range 2).map fun i : Nat => D.int (i : Int)) (sV ns a1 a2 (some (dSh plain es)) a4 (some (.lst false (row.map dS))) (some (.lst false ds)) (some (dueD o (runD (rdOf es) ds row))) a8 (some (.lst true [.lst false (row.map dS), .lst false ds])) a10 a11 a12 a13) =
      some (.ok .nx (sV ns a1 a2 (some (dSh plain es)) a4 (some (.lst false (row.map dS))) (some (.lst false ds)) (some (dueD o (runD (rdOf es) ds row))) a8 (some (.lst true [.lst false (row.map dS), .lst false ds])) b10 a11 a12 b13)) := by
  have hlow : ∀ l ∈ row, low l := fun l h => good_low (hs.gd l (List.mem_append_right _ (hin l h)))
  have fds := allFs_K fun x hx => (hd x hx).k
  have fA : allF (.lst false (row.map dS)) = true := by show (!false && allFs _) = true; rw [allFs_S]; rfl
  have fB : allF (.lst false ds) = true := by show (!false && allFs _) = true; rw [fds]; rfl
  have hlr : ∀ row', runD (rdOf es) ds row = some row' → ∀ l ∈ row', low l := fun row' h l hl' => hlow l ((runD_mem h).1 l hl')
  obtain ⟨s', f1, b10, b13, rfl⟩ := forM_inv (Pn := []) (tg := [10]) (b := VI.execs T [] cVB) ((List.range 2).map fun i : Nat => D.int (i : Int)) (fun _ s => ∃ b10 b13, s = sV ns a1 a2 (some (dSh plain es)) a4 (some (.lst false (row.map dS))) (some (.lst false ds)) (some (dueD o (runD (rdOf es) ds row))) a8 (some (.lst true [.lst false (row.map dS), .lst false ds])) b10 a11 a12 b13)
    (sV ns a1 a2 (some (dSh plain es)) a4 (some (.lst false (row.map dS))) (some (.lst false ds)) (some (dueD o (runD (rdOf es) ds row))) a8 (some (.lst true [.lst false (row.map dS), .lst false ds])) a10 a11 a12 a13) ⟨_, _, rfl⟩ (by
      rintro i s d hdi ⟨b10, b13, rfl⟩
      let sA : Option D → VS := fun b13 => sV ns a1 a2 (some (dSh plain es)) a4 (some (.lst false (row.map dS))) (some (.lst false ds)) (some (dueD o (runD (rdOf es) ds row))) a8 (some (.lst true [.lst false (row.map dS), .lst false ds])) (some d) a11 a12 b13
      refine ⟨by decide, _, rfl, ?_⟩
      show ∃ fl s', VI.execs T [] cVB (sA b13) = _ ∧ _
      have i0 : ev T (.pr .ix [.var 9, .con (.int 0)]) (sA b13) = some (.ok (.lst false (row.map dS)) (sA b13)) := q2 (p := .ix) (by rfl) (x := .lst true [.lst false (row.map dS), .lst false ds]) (y := .int 0) (qv rfl) rfl (ix_two0 (b := .lst false ds) true fA) fA
      have i1 : ev T (.pr .ix [.var 9, .con (.int 1)]) (sA b13) = some (.ok (.lst false ds) (sA b13)) := q2 (p := .ix) (by rfl) (x := .lst true [.lst false (row.map dS), .lst false ds]) (y := .int 1) (qv rfl) rfl (ix_two1 (a := .lst false (row.map dS)) true fB) fB
      have hg := g3 (T := T) (a := .frv 3) (b := .pr .ix [.var 9, .con (.int 0)]) (c := .pr .ix [.var 9, .con (.int 1)]) (s := sA b13) (fun _ h => nomatch h) (fun _ h => nomatch h) (fun _ h => nomatch h) (frv_same (d := dSh plain es) rfl (frz_Sh plain es)) i0 i1
      rw [frz_Sh, frz_id _ fA, frz_id _ fB] at hg
      have e1 := ok_call (T := T) (f := 33) hg (by
        show (noRef (dSh plain es) && (noRefs (row.map dS) && (noRefs ds && true))) = true
        rw [noRef_Sh, noRefs_S, noRefs_K fun x hx => (hd x hx).k]
        rfl) (hS plain es row ds hs hin (by omega) fun x hx => (hd x hx).k) rfl
      let R : D := outR (runD (rdOf es) ds row)
      have e2 : ev T (.pr .ne [.var 13, .var 7]) (sA (some R)) = some (.ok (.bl false) (sA (some R))) := q2 (p := .ne) (by rfl) (x := R) (y := dueD o (runD (rdOf es) ds row)) (qv rfl) (qv rfl) (by simp only [Pr.fn, fn2]; rw [eqD_due o _ hlr]; rfl) rfl
      have e3 : ev T (.pr .ne [.var 9, .lst [.frv 5, .frv 6]]) (sA (some R)) = some (.ok (.bl false) (sA (some R))) := by
        rw [ev_prg _ _ _ (by rfl), evA_var, show (sA (some R)).ρ[9]? = some (some (.lst true [.lst false (row.map dS), .lst false ds])) from rfl, sR_some, evA_cons (.lst _) [] _ (fun _ h => nomatch h)]
        rw [show ev T (.lst [.frv 5, .frv 6]) (sA (some R)) = some (.ok (.lst true [.lst false (row.map dS), .lst false ds]) (sA (some R))) by
          rw [ev_lst, evs_two (x := .lst false (row.map dS)) (y := .lst false ds) (frv_same rfl (frz_id _ fA)) (frv_same rfl (frz_id _ fB)), b_ok, frz_id _ fA, frz_id _ fB]
          rfl, b_ok, evA_nil, b_ok, b_ok, b_ok]
        show gR _ (some [.lst true [.lst false (row.map dS), .lst false ds], .lst false [frz (.lst false (row.map dS)), frz (.lst false ds)]]) _ = _
        rw [frz_id _ fA, frz_id _ fB]
        simp only [gR_some, Pr.fn, fn2, eqD_handed hlow fun x hx => (hd x hx).y, Option.map_some]
        rfl
      have e4 : ev T (.pr .notN [.var 13]) (sA (some R)) = some (.ok (.bl (!(runD (rdOf es) ds row).isNone)) (sA (some R))) := q1 (by rfl) (x := R) (qv rfl) (by simp only [Pr.fn, fn1, R, isNon_outR]) rfl
      cases hq : runD (rdOf es) ds row with
      | none =>
        rw [hq] at e4
        refine ⟨.nx, sA (some R), ?_, .inl rfl, ?_⟩
        · refine (xs_step (x_asg1 e1 (by decide))).trans ?_
          refine (xs_step (x_skip (ok_or_f e2 e3))).trans ?_
          refine (xs_step (x_skip e4)).trans ?_
          exact xs_nil _
        · rw [← hq]
          exact ⟨_, _, rfl⟩
      | some row' =>
        rw [hq] at e4
        have hR : R = .lst true (row'.map dS) := by show outR (runD (rdOf es) ds row) = _; rw [hq]; rfl
        refine ⟨.nx, sA (some (.lst true (row'.map dS ++ [.str "x"]))), ?_, .inl rfl, ?_⟩
        · refine (xs_step (x_asg1 e1 (by decide))).trans ?_
          refine (xs_step (x_skip (ok_or_f e2 e3))).trans ?_
          refine (xs_step (s1 := sA (some (.lst true (row'.map dS ++ [.str "x"])))) ?_).trans (xs_nil _)
          rw [x_if_true e4]
          refine (xs_step (x_exp (ev_mt_ok (T := T) (m := .app) (i := 13) (s := sA (some R)) (s1 := sA (some R)) (o := R) (o1 := .lst true (row'.map dS)) (as := [.con (.str "x")]) (ds := [.str "x"]) rfl (by rw [hR]; rfl) (evs_one (d := .str "x") rfl) (by rw [hR]; rfl) (app_ok _ _ (by
            have h1 := (runD_mem hq).2
            have h2 : lim = 1000000 := rfl
            rw [List.length_map]; omega))))).trans ?_
          exact xs_nil _
        · rw [← hq]
          exact ⟨_, _, rfl⟩)
  exact ⟨b10, b13, f1⟩
end VK

namespace VK
open VI
open PySem (PyData)
structure Calls8 (T : Tab) : Prop where
  pile : PileS (T.call 1)
  take : TakeS (T.call 3)
  shape : ShapeS (T.call 7)
  init : InitS (T.call 11)
  reads : ReadsS (T.call 12)
  row : RowS (T.call 13)
  after : AfterS (T.call 26)
  draw : DrawS (T.call 27)
  bent : BentS (T.call 28)
  steps : StepsS (T.call 33)
abbrev cTurn8 : List Sm := [.asg [2] (.call 1 [.frv 0, .frv 1]), .asg [11, 12] (.call 7 [.io 2, .con (.int 8), .con (.int 6)]), .asg [3] (.mk "Shape" 11 true [.frv 11, .frv 12]), .asg [4] (.call 12 [.frv 11, .frv 12]), .asg [5] (.call 13 [.io 2, .frv 12, .con (.int 14)]), .asg [6] (.call 27 [.io 2, .frv 4, .frv 5]), .ite (.pr .eq [.call 3 [.io 2, .con (.int 4)], .con (.int 0)]) [.asg [6] (.call 28 [.io 2, .frv 6, .pr .len [.var 5]])] [], .asg [7] (.pr .list [.var 5]), .for [8] .val [.frv 6] [.ite (.pr .notN [.var 7]) [.asg [7] (.call 26 [.frv 4, .frv 7, .frv 8])] []], .asg [9] (.lst [.pr .list [.var 5], .pr .list [.var 6]]), .for [10] .rng1 [.con (.int 2)] cVB]
theorem frv_D {T : Tab} {i : Nat} {s : VS} {o : Bool} {l : List D} (h : s.ρ[i]? = some (some (.lst o l))) (hf : allFs l = true) : ev T (.frv i) s = some (.ok (.lst false l) ⟨s.ρ.set i (some (.lst false l)), s.μ⟩) := by
  rw [ev_frv, h, sR_some]
  simp only [frz, frzs_id _ hf]
theorem turn8 (T : Tab) (C : Calls8 T) (ns : List Int) (k : Nat) (hk : k < 4) (a2 a3 a4 a5 a6 a7 a8 a9 a10 a11 a12 a13 : Option D) :
    ∃ b2 b3 b4 b5 b6 b7 b8 b9 b10 b11 b12 b13, VI.execs T [] cTurn8 (sV ns (some (.int (k : Int))) a2 a3 a4 a5 a6 a7 a8 a9 a10 a11 a12 a13) = some (.ok .nx (sV ns (some (.int (k : Int))) b2 b3 b4 b5 b6 b7 b8 b9 b10 b11 b12 b13)) := by
  have hlim : lim = 1000000 := rfl
  obtain ⟨d0, hp0, c1⟩ := C.pile ns k (by omega)
  obtain ⟨plain, es, d1, hnd, hg, hne, hl1, hl2, hen, hp1, c2⟩ := C.shape d0 _ 8 6 hp0 (by omega) (by decide) (by decide) (by decide) (by decide)
  have hs : ShOk plain es := ⟨hnd, hg, hl2, hen⟩
  have hrd := rd_ok hs
  obtain ⟨r, d2, hr1, hr2, hp2, c5⟩ := C.row d1 _ es 14 hp1 (by omega) hne (by omega) (by decide)
  have hcell : ∀ x ∈ es.map (·.1), x ∈ plain ++ es.map (·.1) := fun x hx => List.mem_append_right _ hx
  obtain ⟨ds, d3, hds, hdl, hp3, c6⟩ := C.draw d2 _ (dRd plain es) _ _ r hp2 (by omega) hrd (fun x hx => hcell x (hr1 x hx)) (by omega)
  obtain ⟨q, d4, hq0, hq1, hp4, c7⟩ := C.take d3 _ 4 hp3 (by omega) (by decide) (by decide)
  have fE : frz (.lst false (es.map dE)) = .lst false (es.map dE) := by simp only [frz, frzs_E]
  have nPE : noRefs [.lst false (plain.map dS), .lst false (es.map dE)] = true := by
    show (noRefs (plain.map dS) && (noRefs (es.map dE) && true)) = true
    rw [noRefs_S, noRefs_E]
    rfl
  have sPE : ∀ (a2 a3 a4 a5 : Option D), ev T (.frv 12) (sV ns (some (.int (k : Int))) a2 a3 a4 a5 a6 a7 a8 a9 a10 (some (.lst false (plain.map dS))) (some (.lst false (es.map dE))) a13) = some (.ok (.lst false (es.map dE)) (sV ns (some (.int (k : Int))) a2 a3 a4 a5 a6 a7 a8 a9 a10 (some (.lst false (plain.map dS))) (some (.lst false (es.map dE))) a13)) := fun _ _ _ _ => frv_same rfl fE
  have gPE : ∀ (a2 a3 a4 a5 : Option D), evG T [.frv 11, .frv 12] (sV ns (some (.int (k : Int))) a2 a3 a4 a5 a6 a7 a8 a9 a10 (some (.lst false (plain.map dS))) (some (.lst false (es.map dE))) a13) = some (.ok ([D.lst false (plain.map dS), .lst false (es.map dE)].map .val) (sV ns (some (.int (k : Int))) a2 a3 a4 a5 a6 a7 a8 a9 a10 (some (.lst false (plain.map dS))) (some (.lst false (es.map dE))) a13)) := fun a2 a3 a4 a5 => by
    have := g2 (T := T) (a := .frv 11) (b := .frv 12) (s := sV ns (some (.int (k : Int))) a2 a3 a4 a5 a6 a7 a8 a9 a10 (some (.lst false (plain.map dS))) (some (.lst false (es.map dE))) a13) (fun _ h => nomatch h) (fun _ h => nomatch h) (frv_same (d := .lst false (plain.map dS)) rfl (frzl plain)) (sPE _ _ _ _)
    rwa [frzl, fE] at this
  have e1 : ev T (.call 1 [.frv 0, .frv 1]) (sV ns (some (.int (k : Int))) a2 a3 a4 a5 a6 a7 a8 a9 a10 a11 a12 a13) = some (.ok d0 (sV ns (some (.int (k : Int))) a2 a3 a4 a5 a6 a7 a8 a9 a10 a11 a12 a13)) :=
    ok_call (g2 (a := .frv 0) (b := .frv 1) (fun _ h => nomatch h) (fun _ h => nomatch h) (frv_same (d := .scr ns) rfl rfl) (frv_same (d := .int (k : Int)) rfl rfl)) rfl c1 rfl
  have e2 : ev T (.call 7 [.io 2, .con (.int 8), .con (.int 6)]) (sV ns (some (.int (k : Int))) (some d0) a3 a4 a5 a6 a7 a8 a9 a10 a11 a12 a13) = some (.ok (.tup [.lst false (plain.map dS), .lst false (es.map dE)]) (sV ns (some (.int (k : Int))) (some d1) a3 a4 a5 a6 a7 a8 a9 a10 a11 a12 a13)) :=
    call_ioi (ds := [.int 8, .int 6]) ⟨_, rfl⟩ (g2 (a := .con (.int 8)) (b := .con (.int 6)) (fun _ h => nomatch h) (fun _ h => nomatch h) rfl rfl) rfl (by
      show (noRef d0 && true) = true
      rw [noRef_pile hp0]
      rfl) c2 rfl
  have e3 : ev T (.mk "Shape" 11 true [.frv 11, .frv 12]) (sV ns (some (.int (k : Int))) (some d1) a3 a4 a5 a6 a7 a8 a9 a10 (some (.lst false (plain.map dS))) (some (.lst false (es.map dE))) a13) = some (.ok (dSh plain es) (sV ns (some (.int (k : Int))) (some d1) a3 a4 a5 a6 a7 a8 a9 a10 (some (.lst false (plain.map dS))) (some (.lst false (es.map dE))) a13)) := by
    have := ok_mk (T := T) (C := "Shape") (f := 11) (gPE (some d1) a3 a4 a5) nPE (C.init plain es hs) rfl (noRefs_shD plain es)
    have q : frzs (shD plain es) = shD plain es := frzs_id _ (by have := allF_Sh plain es; exact this)
    rw [q] at this
    exact this
  have e4 : ev T (.call 12 [.frv 11, .frv 12]) (sV ns (some (.int (k : Int))) (some d1) (some (dSh plain es)) a4 a5 a6 a7 a8 a9 a10 (some (.lst false (plain.map dS))) (some (.lst false (es.map dE))) a13) = some (.ok (.dic true (rdK plain es) (rdV plain es)) (sV ns (some (.int (k : Int))) (some d1) (some (dSh plain es)) a4 a5 a6 a7 a8 a9 a10 (some (.lst false (plain.map dS))) (some (.lst false (es.map dE))) a13)) :=
    ok_call (gPE _ _ _ _) nPE (C.reads plain es hnd (by omega)) rfl
  have e5 : ev T (.call 13 [.io 2, .frv 12, .con (.int 14)]) (sV ns (some (.int (k : Int))) (some d1) (some (dSh plain es)) (some (.dic true (rdK plain es) (rdV plain es))) a5 a6 a7 a8 a9 a10 (some (.lst false (plain.map dS))) (some (.lst false (es.map dE))) a13) = some (.ok (.lst true (r.map dS)) (sV ns (some (.int (k : Int))) (some d2) (some (dSh plain es)) (some (.dic true (rdK plain es) (rdV plain es))) a5 a6 a7 a8 a9 a10 (some (.lst false (plain.map dS))) (some (.lst false (es.map dE))) a13)) := by
    have hg := g2 (T := T) (a := .frv 12) (b := .con (.int 14)) (y := .int 14) (fun _ h => nomatch h) (fun _ h => nomatch h) (sPE (some d1) (some (dSh plain es)) (some (.dic true (rdK plain es) (rdV plain es))) a5) rfl
    rw [fE] at hg
    exact call_ioi (ds := [.lst false (es.map dE), .int 14]) ⟨_, rfl⟩ hg rfl (by
      show (noRef d1 && (noRefs (es.map dE) && true)) = true
      rw [noRef_pile hp1, noRefs_E]
      rfl) c5 rfl
  have e6 : ev T (.call 27 [.io 2, .frv 4, .frv 5]) (sV ns (some (.int (k : Int))) (some d2) (some (dSh plain es)) (some (.dic true (rdK plain es) (rdV plain es))) (some (.lst true (r.map dS))) a6 a7 a8 a9 a10 (some (.lst false (plain.map dS))) (some (.lst false (es.map dE))) a13) = some (.ok (.lst true ds) (sV ns (some (.int (k : Int))) (some d3) (some (dSh plain es)) (some (dRd plain es)) (some (.lst false (r.map dS))) a6 a7 a8 a9 a10 (some (.lst false (plain.map dS))) (some (.lst false (es.map dE))) a13)) := by
    have hg := g2 (T := T) (a := .frv 4) (b := .frv 5) (s := sV ns (some (.int (k : Int))) (some d2) (some (dSh plain es)) (some (.dic true (rdK plain es) (rdV plain es))) (some (.lst true (r.map dS))) a6 a7 a8 a9 a10 (some (.lst false (plain.map dS))) (some (.lst false (es.map dE))) a13) (fun _ h => nomatch h) (fun _ h => nomatch h) (frv_rd (plain := plain) (es := es) rfl) (frv_any (l := r) rfl)
    rw [frzl, frz_id _ hrd.fr] at hg
    exact call_ioi (i := 2) (ds := [dRd plain es, .lst false (r.map dS)]) ⟨_, rfl⟩ hg rfl (by
      show (noRef d2 && (noRef (dRd plain es) && (noRefs (r.map dS) && true))) = true
      rw [noRef_pile hp2, hrd.nr, noRefs_S]
      rfl) c6 rfl
  -- bent or not
  have e7 : ev T (.pr .eq [.call 3 [.io 2, .con (.int 4)], .con (.int 0)]) (sV ns (some (.int (k : Int))) (some d3) (some (dSh plain es)) (some (dRd plain es)) (some (.lst false (r.map dS))) (some (.lst true ds)) a7 a8 a9 a10 (some (.lst false (plain.map dS))) (some (.lst false (es.map dE))) a13) = some (.ok (.bl (decide (q = 0))) (sV ns (some (.int (k : Int))) (some d4) (some (dSh plain es)) (some (dRd plain es)) (some (.lst false (r.map dS))) (some (.lst true ds)) a7 a8 a9 a10 (some (.lst false (plain.map dS))) (some (.lst false (es.map dE))) a13)) := by
    have e0 : ev T (.call 3 [.io 2, .con (.int 4)]) (sV ns (some (.int (k : Int))) (some d3) (some (dSh plain es)) (some (dRd plain es)) (some (.lst false (r.map dS))) (some (.lst true ds)) a7 a8 a9 a10 (some (.lst false (plain.map dS))) (some (.lst false (es.map dE))) a13) = some (.ok (.int q) (sV ns (some (.int (k : Int))) (some d4) (some (dSh plain es)) (some (dRd plain es)) (some (.lst false (r.map dS))) (some (.lst true ds)) a7 a8 a9 a10 (some (.lst false (plain.map dS))) (some (.lst false (es.map dE))) a13)) :=
      call_ioi (ds := [.int 4]) ⟨_, rfl⟩ (g1 (e := .con (.int 4)) (fun _ h => nomatch h) rfl) rfl (by
        show (noRef d3 && true) = true
        rw [noRef_pile hp3]
        rfl) c7 rfl
    rw [ev_prg _ _ _ (by rfl), evA_cons (.call 3 _) _ _ (fun _ h => nomatch h), e0, b_ok, evA_cons (.con _) [] _ (fun _ h => nomatch h), ev_con]
    simp only [okF, allF, if_true, b_ok, evA_nil, AV.gets, AV.get, gR_some, frz, Pr.fn, fn2, eqD_int, Option.map_some]
  have fds : ∀ {l : List D}, (∀ x ∈ l, StepD x) → allFs l = true := fun h => allFs_K fun x hx => (h x hx).k
  have e8 : ∃ ds2 d5, (∀ x ∈ ds2, StepD x) ∧ VI.exec T [] (.ite (.pr .eq [.call 3 [.io 2, .con (.int 4)], .con (.int 0)]) [.asg [6] (.call 28 [.io 2, .frv 6, .pr .len [.var 5]])] []) (sV ns (some (.int (k : Int))) (some d3) (some (dSh plain es)) (some (dRd plain es)) (some (.lst false (r.map dS))) (some (.lst true ds)) a7 a8 a9 a10 (some (.lst false (plain.map dS))) (some (.lst false (es.map dE))) a13) =
      some (.ok .nx (sV ns (some (.int (k : Int))) (some d5) (some (dSh plain es)) (some (dRd plain es)) (some (.lst false (r.map dS))) (some (.lst true ds2)) a7 a8 a9 a10 (some (.lst false (plain.map dS))) (some (.lst false (es.map dE))) a13)) := by
    by_cases hq : q = 0
    · rw [decide_eq_true hq] at e7
      obtain ⟨ds2, d5, h1, h2, hp5, c8⟩ := C.bent d4 _ ds (r.map dS).length hp4 (by omega) hds (by omega) (by rw [List.length_map]; omega)
      refine ⟨ds2, d5, h1, ?_⟩
      rw [x_if_true e7]
      have hg := g2 (T := T) (a := .frv 6) (b := .pr .len [.var 5]) (s := sV ns (some (.int (k : Int))) (some d4) (some (dSh plain es)) (some (dRd plain es)) (some (.lst false (r.map dS))) (some (.lst true ds)) a7 a8 a9 a10 (some (.lst false (plain.map dS))) (some (.lst false (es.map dE))) a13) (fun _ h => nomatch h) (fun _ h => nomatch h) (frv_D (l := ds) rfl (fds hds)) (ok_len (ds := r.map dS) (o := false) rfl)
      rw [show frz (.lst false ds) = .lst false ds by simp only [frz, frzs_id _ (fds hds)]] at hg
      have e9 := call_ioi (T := T) (f := 28) (i := 2) (ds := [.lst false ds, .int ((r.map dS).length : Int)]) (d0 := d4) (ps := [none, none]) ⟨_, rfl⟩ hg rfl (by
        show (noRef d4 && (noRefs ds && (true && true))) = true
        rw [noRef_pile hp4, noRefs_K fun x hx => (hds x hx).k]
        rfl) c8 rfl
      refine (xs_step (x_asg1 e9 (by decide))).trans ?_
      exact xs_nil _
    · rw [decide_eq_false hq] at e7
      refine ⟨ds, d4, hds, ?_⟩
      rw [x_if_false e7]
      exact xs_nil _
  obtain ⟨ds2, d5, hds2, e8⟩ := e8
  have f2 := fds hds2
  obtain ⟨o', b8, e11⟩ := due_loop T C.after hs r hr1 (by omega) ds2 (fun x hx => (hds2 x hx).k) ns (some (.int (k : Int))) (some d5) (some (dSh plain es)) (some (.lst false (r.map dS))) (some (.lst false ds2)) a8 a9 a10 (some (.lst false (plain.map dS))) (some (.lst false (es.map dE))) a13 true
  have e12 : ev T (.lst [.pr .list [.var 5], .pr .list [.var 6]]) (sV ns (some (.int (k : Int))) (some d5) (some (dSh plain es)) (some (dRd plain es)) (some (.lst false (r.map dS))) (some (.lst false ds2)) (some (dueD o' (runD (rdOf es) ds2 r))) b8 a9 a10 (some (.lst false (plain.map dS))) (some (.lst false (es.map dE))) a13) = some (.ok (.lst true [.lst false (r.map dS), .lst false ds2]) (sV ns (some (.int (k : Int))) (some d5) (some (dSh plain es)) (some (dRd plain es)) (some (.lst false (r.map dS))) (some (.lst false ds2)) (some (dueD o' (runD (rdOf es) ds2 r))) b8 a9 a10 (some (.lst false (plain.map dS))) (some (.lst false (es.map dE))) a13)) := by
    rw [ev_lst, evs_two (ok_listv (ds := r.map dS) (o := false) rfl (allFs_S _)) (ok_listv (ds := ds2) (o := false) rfl f2), b_ok]
    simp only [frz, frzs_S, frzs_id _ f2]
    rfl
  obtain ⟨b10, b13, e13⟩ := ask2 T C.steps hs r hr1 (by omega) ds2 hds2 o' ns (some (.int (k : Int))) (some d5) (some (dRd plain es)) b8 a10 (some (.lst false (plain.map dS))) (some (.lst false (es.map dE))) a13
  refine ⟨some d5, some (dSh plain es), some (dRd plain es), some (.lst false (r.map dS)), some (.lst false ds2), some (dueD o' (runD (rdOf es) ds2 r)), b8, some (.lst true [.lst false (r.map dS), .lst false ds2]), b10, some (.lst false (plain.map dS)), some (.lst false (es.map dE)), b13, ?_⟩
  refine (xs_step (x_asg1 e1 (by decide))).trans ?_
  refine (xs_step (x_asg2 e2 (by decide))).trans ?_
  refine (xs_step (x_asg1 e3 (by decide))).trans ?_
  refine (xs_step (x_asg1 e4 (by decide))).trans ?_
  refine (xs_step (x_asg1 e5 (by decide))).trans ?_
  refine (xs_step (x_asg1 e6 (by decide))).trans ?_
  refine (xs_step e8).trans ?_
  refine (xs_step (x_asg1 (ok_listv (ds := r.map dS) (o := false) rfl (allFs_S _)) (by decide))).trans ?_
  refine (xs_step ((for_own (i := 6) (ds := ds2) rfl (frzs_id _ f2)).trans e11)).trans ?_
  refine (xs_step (x_asg1 e12 (by decide))).trans ?_
  refine (xs_step (x_for_ok (s1 := sV ns (some (.int (k : Int))) (some d5) (some (dSh plain es)) (some (dRd plain es)) (some (.lst false (r.map dS))) (some (.lst false ds2)) (some (dueD o' (runD (rdOf es) ds2 r))) b8 (some (.lst true [.lst false (r.map dS), .lst false ds2])) a10 (some (.lst false (plain.map dS))) (some (.lst false (es.map dE))) a13) rfl e13)).trans ?_
  exact xs_nil _
theorem law8_plain (T : Tab) (C : Calls8 T) (ns : List Int) : ∃ s, VI.execs T [] c_law_2 ⟨some (.scr ns) :: List.replicate 13 none, []⟩ = some (.ok (.rt (.bl true)) s) := by
  obtain ⟨s', f1, b1, b2, b3, b4, b5, b6, b7, b8, b9, b10, b11, b12, b13, rfl⟩ := forM_inv (Pn := []) (tg := [1]) (b := VI.execs T [] cTurn8) ((List.range 4).map fun i : Nat => D.int (i : Int)) (fun _ s => ∃ b1 b2 b3 b4 b5 b6 b7 b8 b9 b10 b11 b12 b13, s = sV ns b1 b2 b3 b4 b5 b6 b7 b8 b9 b10 b11 b12 b13) (sV ns none none none none none none none none none none none none none) ⟨_, _, _, _, _, _, _, _, _, _, _, _, _, rfl⟩ (by
    rintro i s d hd ⟨b1, b2, b3, b4, b5, b6, b7, b8, b9, b10, b11, b12, b13, rfl⟩
    obtain ⟨hi, rfl⟩ := rng_get hd
    obtain ⟨c2, c3, c4, c5, c6, c7, c8, c9, c10, c11, c12, c13, e⟩ := turn8 T C ns i hi b2 b3 b4 b5 b6 b7 b8 b9 b10 b11 b12 b13
    exact ⟨by decide, _, rfl, .nx, _, e, .inl rfl, _, _, _, _, _, _, _, _, _, _, _, _, _, rfl⟩)
  refine ⟨sV ns b1 b2 b3 b4 b5 b6 b7 b8 b9 b10 b11 b12 b13, (xs_step (x_for_ok (s1 := sV ns none none none none none none none none none none none none none) rfl f1)).trans ?_⟩
  exact x_retv rfl
end VK

namespace VK
open PySem PySem.Spec PyProof.Rows L2 VI
def nm_0 : List Str := ["_wall", "SheetError", "InvalidShape", "UnknownCell", "InvalidRow", "MOST", "checked_row", "LETTERS", "MOST_CELLS", "is_name", "checked_plain", "checked_computed", "Shape", "are_related", "check_cell", "next_of", "step_fits", "step_allowed", "after_steps", "_law_mixed", "_law_pile", "_law_take", "_law_names", "_law_order", "_law_entries", "_law_shape", "_law_row", "_law_reads", "_law_linked", "_law_idle"]
def nm_1 : List Str := ["_law_lost", "_law_after", "_law_steps", "_law_bent"]
abbrev nms : List Str := nm_0 ++ nm_1
def fns : List He.DefD := [⟨("_law_pile", none), "_law_pile", "_law_pile", defArgs (top 25), defBody (top 25), defScope (top 25), [], []⟩,
  ⟨("_law_mixed", none), "_law_mixed", "_law_mixed", defArgs (top 24), defBody (top 24), defScope (top 24), [], []⟩,
  ⟨("_law_take", none), "_law_take", "_law_take", defArgs (top 26), defBody (top 26), defScope (top 26), [], []⟩,
  ⟨("_law_names", none), "_law_names", "_law_names", defArgs (top 27), defBody (top 27), defScope (top 27), [], []⟩,
  ⟨("_law_order", none), "_law_order", "_law_order", defArgs (top 28), defBody (top 28), defScope (top 28), [], []⟩,
  ⟨("_law_entries", none), "_law_entries", "_law_entries", defArgs (top 29), defBody (top 29), defScope (top 29), [], []⟩,
  ⟨("_law_shape", none), "_law_shape", "_law_shape", defArgs (top 30), defBody (top 30), defScope (top 30), [], []⟩,
  ⟨("is_name", none), "is_name", "is_name", defArgs (top 12), defBody (top 12), defScope (top 12), [], []⟩,
  ⟨("checked_plain", none), "checked_plain", "checked_plain", defArgs (top 13), defBody (top 13), defScope (top 13), [], []⟩,
  ⟨("checked_computed", none), "checked_computed", "checked_computed", defArgs (top 14), defBody (top 14), defScope (top 14), [], []⟩,
  ⟨("Shape", some "__init__"), "__init__", "Shape.__init__", defArgs (mth 15 0), defBody (mth 15 0), defScope (mth 15 0), [], []⟩,
  ⟨("_law_reads", none), "_law_reads", "_law_reads", defArgs (top 32), defBody (top 32), defScope (top 32), [], []⟩,
  ⟨("_law_row", none), "_law_row", "_law_row", defArgs (top 31), defBody (top 31), defScope (top 31), [], []⟩,
  ⟨("_law_idle", none), "_law_idle", "_law_idle", defArgs (top 34), defBody (top 34), defScope (top 34), [], []⟩,
  ⟨("_law_lost", none), "_law_lost", "_law_lost", defArgs (top 35), defBody (top 35), defScope (top 35), [], []⟩,
  ⟨("_law_linked", none), "_law_linked", "_law_linked", defArgs (top 33), defBody (top 33), defScope (top 33), [], []⟩,
  ⟨("_law_after", none), "_law_after", "_law_after", defArgs (top 36), defBody (top 36), defScope (top 36), [], []⟩,
  ⟨("_law_steps", none), "_law_steps", "_law_steps", defArgs (top 37), defBody (top 37), defScope (top 37), [], []⟩,
  ⟨("_law_bent", none), "_law_bent", "_law_bent", defArgs (top 38), defBody (top 38), defScope (top 38), [], []⟩,
  ⟨("Shape", some "computed"), "computed", "Shape.computed", defArgs (mth 15 4), defBody (mth 15 4), defScope (mth 15 4), [], []⟩,
  ⟨("checked_row", none), "checked_row", "checked_row", defArgs (top 8), defBody (top 8), defScope (top 8), [], []⟩,
  ⟨("step_fits", none), "step_fits", "step_fits", defArgs (top 20), defBody (top 20), defScope (top 20), [], []⟩,
  ⟨("next_of", none), "next_of", "next_of", defArgs (top 19), defBody (top 19), defScope (top 19), [], []⟩,
  ⟨("are_related", none), "are_related", "are_related", defArgs (top 16), defBody (top 16), defScope (top 16), [], []⟩,
  ⟨("step_allowed", none), "step_allowed", "step_allowed", defArgs (top 21), defBody (top 21), defScope (top 21), [], []⟩,
  ⟨("after_steps", none), "after_steps", "after_steps", defArgs (top 22), defBody (top 22), defScope (top 22), [], []⟩,
  ⟨("law", none), "law", "law", defArgs (top 39), defBody (top 39), defScope (top 39), [], []⟩]
def fas : List He.Fa := [.glo "law", .free "len", .free "int", .free "abs", .glo "_law_mixed", .glo "_law_take", .free "range", .free "enumerate", .free "list", .glo "_law_order", .glo "_law_names", .glo "_law_entries", .free "isinstance", .free "str", .free "all", .str "LETTERS" "abcdefghijklmnopqrstuvwxyz", .glo "is_name", .free "tuple", .int "MOST_CELLS" 12, .glo "checked_plain", .cls "Shape", .noat "Shape" "plain_cells", .glo "checked_computed", .noat "Shape" "computed_cells", .noat "Shape" "reading", .noat "Shape" "all_cells", .free "bool", .glo "_law_idle", .glo "_law_lost", .glo "_law_linked", .glo "_law_after", .meth "Shape" "computed", .int "MOST" 120, .glo "are_related", .free "any", .glo "next_of", .glo "checked_row", .glo "step_fits", .glo "step_allowed", .glo "_law_pile", .glo "_law_shape", .glo "Shape", .mkr "Shape", .glo "_law_reads", .glo "_law_row", .glo "_law_steps", .glo "_law_bent", .glo "after_steps"]
abbrev R : PySem.W.OpenRow := PySem.W.OpenLaw.row PySem.Challenge.rw_recalcrows_k08_steps_taken
abbrev hk : PySem.W.Hook := He.hookD 6 fas fns
def ob (s : PySem.W.SharedT) : He.AlD := He.obsDG 6 fas fns (HandSHeadRun.getT s)
theorem ob_eq (s : PySem.W.SharedT) : ob s = hk.obs s.abs := He.obsDG_eq (HandSHeadRun.getT_eq s)
theorem run (w : World) : HandSHeadRun.RunEq R (PySem.W.view R.prog [39]) hk ob 14000 nms w := by
  intro os
  kernel_rfl
theorem facts_ok (plain : ∀ ns : List Int, ns.length ≤ 63 → ∃ s, execs T_after_steps [] c_law_2 ⟨some (.scr ns) :: List.replicate (14 - 1) none, []⟩ = some (.ok (.rt (.bl true)) s)) {P : Program} {w : World} {K : PySem.W.Frag} {h : Heap} {mg : Str → Option Value} {f : Addr} (X : K.In h) (G : h.Ns mainGlobals mg) (hfa : mg ("law" : Str) = some (.ref f)) (c : He.SaysD fas fns K) :
    ∃ fd : FuncData, (∀ (s : Shared) (v : Value), BindsTo s fd ⟨[v], []⟩ [("_law_script", v)]) ∧ ∀ base : Heap, K.In base → base.Ns mainGlobals mg → FnOk P w K mg base CX0 6 f fd ["_law_script"] (spL K 63) := by
  obtain ⟨fd_law_pile, F_law_pile⟩ := c.def_ 0 (d := ⟨("_law_pile", none), "_law_pile", "_law_pile", defArgs (top 25), defBody (top 25), defScope (top 25), [], []⟩) rfl
  have D_law_pile : ∀ base : Heap, Dg P w K mg base (He.ga K) 1 (He.ga K "_law_pile") 2 VK.F_law_pile := fun base => ok_law_pile F_law_pile (He.free_ok X G (c.fact 1 rfl)) (He.free_ok X G (c.fact 2 rfl)) (He.free_ok X G (c.fact 3 rfl))
  obtain ⟨fd_law_mixed, F_law_mixed⟩ := c.def_ 1 (d := ⟨("_law_mixed", none), "_law_mixed", "_law_mixed", defArgs (top 24), defBody (top 24), defScope (top 24), [], []⟩) rfl
  have D_law_mixed : ∀ base : Heap, Dg P w K mg base (He.ga K) 1 (He.ga K "_law_mixed") 2 VK.F_law_mixed := fun base => ok_law_mixed F_law_mixed (He.free_ok X G (c.fact 2 rfl))
  obtain ⟨fd_law_take, F_law_take⟩ := c.def_ 2 (d := ⟨("_law_take", none), "_law_take", "_law_take", defArgs (top 26), defBody (top 26), defScope (top 26), [], []⟩) rfl
  have D_law_take : ∀ base : Heap, Dg P w K mg base (He.ga K) 2 (He.ga K "_law_take") 2 VK.F_law_take := fun base => ok_law_take F_law_take (D_law_mixed base) (He.glo_ok X G (c.fact 4 rfl)) (He.free_ok X G (c.fact 2 rfl))
  obtain ⟨fd_law_names, F_law_names⟩ := c.def_ 3 (d := ⟨("_law_names", none), "_law_names", "_law_names", defArgs (top 27), defBody (top 27), defScope (top 27), [], []⟩) rfl
  have D_law_names : ∀ base : Heap, Dg P w K mg base (He.ga K) 3 (He.ga K "_law_names") 2 VK.F_law_names := fun base => ok_law_names F_law_names (D_law_take base) (He.glo_ok X G (c.fact 5 rfl)) (He.free_ok X G (c.fact 6 rfl)) (He.free_ok X G (c.fact 1 rfl)) (He.free_ok X G (c.fact 2 rfl)) (He.free_ok X G (c.fact 7 rfl))
  obtain ⟨fd_law_order, F_law_order⟩ := c.def_ 4 (d := ⟨("_law_order", none), "_law_order", "_law_order", defArgs (top 28), defBody (top 28), defScope (top 28), [], []⟩) rfl
  have D_law_order : ∀ base : Heap, Dg P w K mg base (He.ga K) 3 (He.ga K "_law_order") 2 VK.F_law_order := fun base => ok_law_order F_law_order (He.free_ok X G (c.fact 8 rfl)) (He.free_ok X G (c.fact 6 rfl)) (He.free_ok X G (c.fact 1 rfl)) (D_law_take base) (He.glo_ok X G (c.fact 5 rfl))
  obtain ⟨fd_law_entries, F_law_entries⟩ := c.def_ 5 (d := ⟨("_law_entries", none), "_law_entries", "_law_entries", defArgs (top 29), defBody (top 29), defScope (top 29), [], []⟩) rfl
  have D_law_entries : ∀ base : Heap, Dg P w K mg base (He.ga K) 4 (He.ga K "_law_entries") 4 VK.F_law_entries := fun base => ok_law_entries F_law_entries (D_law_take base) (He.glo_ok X G (c.fact 5 rfl)) (He.free_ok X G (c.fact 1 rfl)) (D_law_order base) (He.glo_ok X G (c.fact 9 rfl)) (He.free_ok X G (c.fact 7 rfl))
  obtain ⟨fd_law_shape, F_law_shape⟩ := c.def_ 6 (d := ⟨("_law_shape", none), "_law_shape", "_law_shape", defArgs (top 30), defBody (top 30), defScope (top 30), [], []⟩) rfl
  have D_law_shape : ∀ base : Heap, Dg P w K mg base (He.ga K) 5 (He.ga K "_law_shape") 3 VK.F_law_shape := fun base => ok_law_shape F_law_shape (D_law_take base) (He.glo_ok X G (c.fact 5 rfl)) (D_law_names base) (He.glo_ok X G (c.fact 10 rfl)) (D_law_entries base) (He.glo_ok X G (c.fact 11 rfl))
  obtain ⟨fd_is_name, F_is_name⟩ := c.def_ 7 (d := ⟨("is_name", none), "is_name", "is_name", defArgs (top 12), defBody (top 12), defScope (top 12), [], []⟩) rfl
  have D_is_name : ∀ base : Heap, Dg P w K mg base (He.ga K) 1 (He.ga K "is_name") 1 VK.F_is_name := fun base => ok_is_name F_is_name (He.free_ok X G (c.fact 12 rfl)) (He.free_ok X G (c.fact 13 rfl)) (He.free_ok X G (c.fact 1 rfl)) (He.free_ok X G (c.fact 14 rfl)) (He.str_ok X G (c.fact 15 rfl))
  obtain ⟨fd_checked_plain, F_checked_plain⟩ := c.def_ 8 (d := ⟨("checked_plain", none), "checked_plain", "checked_plain", defArgs (top 13), defBody (top 13), defScope (top 13), [], []⟩) rfl
  have D_checked_plain : ∀ base : Heap, Dg P w K mg base (He.ga K) 2 (He.ga K "checked_plain") 1 VK.F_checked_plain := fun base => ok_checked_plain F_checked_plain (He.free_ok X G (c.fact 12 rfl)) (He.free_ok X G (c.fact 8 rfl)) (D_is_name base) (He.glo_ok X G (c.fact 16 rfl))
  obtain ⟨fd_checked_computed, F_checked_computed⟩ := c.def_ 9 (d := ⟨("checked_computed", none), "checked_computed", "checked_computed", defArgs (top 14), defBody (top 14), defScope (top 14), [], []⟩) rfl
  have D_checked_computed : ∀ base : Heap, Dg P w K mg base (He.ga K) 2 (He.ga K "checked_computed") 2 VK.F_checked_computed := fun base => ok_checked_computed F_checked_computed (He.free_ok X G (c.fact 12 rfl)) (He.free_ok X G (c.fact 8 rfl)) (He.free_ok X G (c.fact 17 rfl)) (He.free_ok X G (c.fact 1 rfl)) (D_is_name base) (He.glo_ok X G (c.fact 16 rfl)) (He.int_ok X G (c.fact 18 rfl)) (He.free_ok X G (c.fact 7 rfl))
  obtain ⟨fd_Shape___init__, F_Shape___init__⟩ := c.def_ 10 (d := ⟨("Shape", some "__init__"), "__init__", "Shape.__init__", defArgs (mth 15 0), defBody (mth 15 0), defScope (mth 15 0), [], []⟩) rfl
  have D_Shape___init__ : ∀ base : Heap, Dg P w K mg base (He.ga K) 3 (He.ma K (He.ga K "Shape") "__init__") 3 VK.F_Shape___init__ := fun base => ok_Shape___init__ F_Shape___init__ (D_checked_plain base) (He.glo_ok X G (c.fact 19 rfl)) (He.cls_ok (c.fact 20 rfl)) (He.noat_ok (c.fact 21 rfl)) (D_checked_computed base) (He.glo_ok X G (c.fact 22 rfl)) (He.noat_ok (c.fact 23 rfl)) (He.free_ok X G (c.fact 17 rfl)) (He.noat_ok (c.fact 24 rfl)) (He.noat_ok (c.fact 25 rfl))
  obtain ⟨fd_law_reads, F_law_reads⟩ := c.def_ 11 (d := ⟨("_law_reads", none), "_law_reads", "_law_reads", defArgs (top 32), defBody (top 32), defScope (top 32), [], []⟩) rfl
  have D_law_reads : ∀ base : Heap, Dg P w K mg base (He.ga K) 1 (He.ga K "_law_reads") 2 VK.F_law_reads := fun base => ok_law_reads F_law_reads (He.free_ok X G (c.fact 8 rfl))
  obtain ⟨fd_law_row, F_law_row⟩ := c.def_ 12 (d := ⟨("_law_row", none), "_law_row", "_law_row", defArgs (top 31), defBody (top 31), defScope (top 31), [], []⟩) rfl
  have D_law_row : ∀ base : Heap, Dg P w K mg base (He.ga K) 3 (He.ga K "_law_row") 3 VK.F_law_row := fun base => ok_law_row F_law_row (D_law_take base) (He.glo_ok X G (c.fact 5 rfl)) (He.free_ok X G (c.fact 6 rfl)) (He.free_ok X G (c.fact 1 rfl))
  obtain ⟨fd_law_idle, F_law_idle⟩ := c.def_ 13 (d := ⟨("_law_idle", none), "_law_idle", "_law_idle", defArgs (top 34), defBody (top 34), defScope (top 34), [], []⟩) rfl
  have D_law_idle : ∀ base : Heap, Dg P w K mg base (He.ga K) 1 (He.ga K "_law_idle") 3 VK.F_law_idle := fun base => ok_law_idle F_law_idle (He.free_ok X G (c.fact 6 rfl))
  obtain ⟨fd_law_lost, F_law_lost⟩ := c.def_ 14 (d := ⟨("_law_lost", none), "_law_lost", "_law_lost", defArgs (top 35), defBody (top 35), defScope (top 35), [], []⟩) rfl
  have D_law_lost : ∀ base : Heap, Dg P w K mg base (He.ga K) 1 (He.ga K "_law_lost") 3 VK.F_law_lost := fun base => ok_law_lost F_law_lost (He.free_ok X G (c.fact 1 rfl)) (He.free_ok X G (c.fact 6 rfl))
  obtain ⟨fd_law_linked, F_law_linked⟩ := c.def_ 15 (d := ⟨("_law_linked", none), "_law_linked", "_law_linked", defArgs (top 33), defBody (top 33), defScope (top 33), [], []⟩) rfl
  have D_law_linked : ∀ base : Heap, Dg P w K mg base (He.ga K) 1 (He.ga K "_law_linked") 3 VK.F_law_linked := fun base => ok_law_linked F_law_linked 
  obtain ⟨fd_law_after, F_law_after⟩ := c.def_ 16 (d := ⟨("_law_after", none), "_law_after", "_law_after", defArgs (top 36), defBody (top 36), defScope (top 36), [], []⟩) rfl
  have D_law_after : ∀ base : Heap, Dg P w K mg base (He.ga K) 2 (He.ga K "_law_after") 3 VK.F_law_after := fun base => ok_law_after F_law_after (He.free_ok X G (c.fact 12 rfl)) (He.free_ok X G (c.fact 17 rfl)) (He.free_ok X G (c.fact 1 rfl)) (He.free_ok X G (c.fact 26 rfl)) (He.free_ok X G (c.fact 2 rfl)) (D_law_idle base) (He.glo_ok X G (c.fact 27 rfl)) (D_law_lost base) (He.glo_ok X G (c.fact 28 rfl)) (D_law_linked base) (He.glo_ok X G (c.fact 29 rfl))
  obtain ⟨fd_law_steps, F_law_steps⟩ := c.def_ 17 (d := ⟨("_law_steps", none), "_law_steps", "_law_steps", defArgs (top 37), defBody (top 37), defScope (top 37), [], []⟩) rfl
  have D_law_steps : ∀ base : Heap, Dg P w K mg base (He.ga K) 3 (He.ga K "_law_steps") 3 VK.F_law_steps := fun base => ok_law_steps F_law_steps (He.free_ok X G (c.fact 8 rfl)) (D_law_take base) (He.glo_ok X G (c.fact 5 rfl)) (He.free_ok X G (c.fact 6 rfl)) (He.free_ok X G (c.fact 1 rfl)) (D_law_after base) (He.glo_ok X G (c.fact 30 rfl))
  obtain ⟨fd_law_bent, F_law_bent⟩ := c.def_ 18 (d := ⟨("_law_bent", none), "_law_bent", "_law_bent", defArgs (top 38), defBody (top 38), defScope (top 38), [], []⟩) rfl
  have D_law_bent : ∀ base : Heap, Dg P w K mg base (He.ga K) 3 (He.ga K "_law_bent") 3 VK.F_law_bent := fun base => ok_law_bent F_law_bent (He.free_ok X G (c.fact 1 rfl)) (D_law_take base) (He.glo_ok X G (c.fact 5 rfl)) (He.free_ok X G (c.fact 13 rfl))
  obtain ⟨fd_Shape_computed, F_Shape_computed⟩ := c.def_ 19 (d := ⟨("Shape", some "computed"), "computed", "Shape.computed", defArgs (mth 15 4), defBody (mth 15 4), defScope (mth 15 4), [], []⟩) rfl
  have D_Shape_computed : ∀ base : Heap, Dg P w K mg base (He.ga K) 1 (He.ma K (He.ga K "Shape") "computed") 1 VK.F_Shape_computed := fun base => ok_Shape_computed F_Shape_computed (He.free_ok X G (c.fact 8 rfl)) (He.cls_ok (c.fact 20 rfl)) (He.noat_ok (c.fact 23 rfl))
  obtain ⟨fd_checked_row, F_checked_row⟩ := c.def_ 20 (d := ⟨("checked_row", none), "checked_row", "checked_row", defArgs (top 8), defBody (top 8), defScope (top 8), [], []⟩) rfl
  have D_checked_row : ∀ base : Heap, Dg P w K mg base (He.ga K) 2 (He.ga K "checked_row") 2 VK.F_checked_row := fun base => ok_checked_row F_checked_row (He.free_ok X G (c.fact 12 rfl)) (He.free_ok X G (c.fact 8 rfl)) (He.cls_ok (c.fact 20 rfl)) (He.meth_ok (c.fact 31 rfl)) (D_Shape_computed base) (He.int_ok X G (c.fact 32 rfl)) (He.free_ok X G (c.fact 7 rfl)) (He.free_ok X G (c.fact 13 rfl)) (He.free_ok X G (c.fact 1 rfl))
  obtain ⟨fd_step_fits, F_step_fits⟩ := c.def_ 21 (d := ⟨("step_fits", none), "step_fits", "step_fits", defArgs (top 20), defBody (top 20), defScope (top 20), [], []⟩) rfl
  have D_step_fits : ∀ base : Heap, Dg P w K mg base (He.ga K) 1 (He.ga K "step_fits") 2 VK.F_step_fits := fun base => ok_step_fits F_step_fits (He.free_ok X G (c.fact 12 rfl)) (He.free_ok X G (c.fact 17 rfl)) (He.free_ok X G (c.fact 1 rfl)) (He.free_ok X G (c.fact 26 rfl)) (He.free_ok X G (c.fact 2 rfl))
  obtain ⟨fd_next_of_2, F_next_of_2⟩ := c.def_ 22 (d := ⟨("next_of", none), "next_of", "next_of", defArgs (top 19), defBody (top 19), defScope (top 19), [], []⟩) rfl
  have D_next_of_2 : ∀ base : Heap, Dg P w K mg base (He.ga K) 1 (He.ga K "next_of") 2 VK.F_next_of_2 := fun base => ok_next_of_2 F_next_of_2 (He.free_ok X G (c.fact 1 rfl)) (He.free_ok X G (c.fact 6 rfl))
  obtain ⟨fd_are_related, F_are_related⟩ := c.def_ 23 (d := ⟨("are_related", none), "are_related", "are_related", defArgs (top 16), defBody (top 16), defScope (top 16), [], []⟩) rfl
  have D_are_related : ∀ base : Heap, Dg P w K mg base (He.ga K) 1 (He.ga K "are_related") 3 VK.F_are_related := fun base => ok_are_related F_are_related (He.cls_ok (c.fact 20 rfl)) (He.noat_ok (c.fact 24 rfl))
  obtain ⟨fd_step_allowed, F_step_allowed⟩ := c.def_ 24 (d := ⟨("step_allowed", none), "step_allowed", "step_allowed", defArgs (top 21), defBody (top 21), defScope (top 21), [], []⟩) rfl
  have D_step_allowed : ∀ base : Heap, Dg P w K mg base (He.ga K) 2 (He.ga K "step_allowed") 4 VK.F_step_allowed := fun base => ok_step_allowed F_step_allowed (He.cls_ok (c.fact 20 rfl)) (He.noat_ok (c.fact 24 rfl)) (D_are_related base) (He.glo_ok X G (c.fact 33 rfl)) (He.free_ok X G (c.fact 6 rfl)) (He.free_ok X G (c.fact 34 rfl)) (D_next_of_2 base) (He.glo_ok X G (c.fact 35 rfl))
  obtain ⟨fd_after_steps, F_after_steps⟩ := c.def_ 25 (d := ⟨("after_steps", none), "after_steps", "after_steps", defArgs (top 22), defBody (top 22), defScope (top 22), [], []⟩) rfl
  have D_after_steps : ∀ base : Heap, Dg P w K mg base (He.ga K) 3 (He.ga K "after_steps") 3 VK.F_after_steps := fun base => ok_after_steps F_after_steps (D_checked_row base) (He.glo_ok X G (c.fact 36 rfl)) (D_step_fits base) (He.glo_ok X G (c.fact 37 rfl)) (D_step_allowed base) (He.glo_ok X G (c.fact 38 rfl))
  obtain ⟨fd_law_2, F_law_2⟩ := c.def_ 26 (d := ⟨("law", none), "law", "law", defArgs (top 39), defBody (top 39), defScope (top 39), [], []⟩) rfl
  have e := hfa.symm.trans (He.glo_ok X G (c.fact 0 (f := .glo "law") rfl))
  cases e
  have b := FunD.bindsA (ps := ["_law_script"]) F_law_2 fun _ _ _ _ _ _ us hl => match us, hl with | [_], _ => rfl
  exact ⟨fd_law_2, fun s v => b s [v] rfl, fun base _ _ => ok_law_2 (ct := He.ga K) F_law_2 (He.free_ok X G (c.fact 6 rfl)) (D_law_pile base) (He.glo_ok X G (c.fact 39 rfl)) (D_law_shape base) (He.glo_ok X G (c.fact 40 rfl)) (D_Shape___init__ base) (He.glo_ok X G (c.fact 41 rfl)) (He.mkr_ok (c.fact 42 rfl)) (D_law_reads base) (He.glo_ok X G (c.fact 43 rfl)) (D_law_row base) (He.glo_ok X G (c.fact 44 rfl)) (D_law_steps base) (He.glo_ok X G (c.fact 45 rfl)) (D_law_take base) (He.glo_ok X G (c.fact 5 rfl)) (He.free_ok X G (c.fact 1 rfl)) (D_law_bent base) (He.glo_ok X G (c.fact 46 rfl)) (He.free_ok X G (c.fact 8 rfl)) (D_law_after base) (He.glo_ok X G (c.fact 30 rfl)) (D_after_steps base) (He.glo_ok X G (c.fact 47 rfl)) plain⟩
end VK
open PySem PySem.W PySem.Calls PyProof.Rows
theorem PySem.Challenge.cw_recalcrows_k08_steps_taken_holdsof (plain : ∀ ns : List Int, ns.length ≤ 63 → ∃ s, VI.execs VK.T_after_steps [] VK.c_law_2 ⟨some (.scr ns) :: List.replicate (14 - 1) none, []⟩ = some (.ok (.rt (.bl true)) s)) : PySem.Challenge.rw_recalcrows_k08_steps_taken.Holds := by
  w_on; o_law
  refine HandSHeadRun.head_any (r := OpenLaw.row PySem.Challenge.rw_recalcrows_k08_steps_taken) (q := view (OpenLaw.row PySem.Challenge.rw_recalcrows_k08_steps_taken).prog [39]) (H := VK.hk) (ob := VK.ob) (M := 14000) (loose := VK.nms) (d := HandSHeadRun.topDef (OpenLaw.row PySem.Challenge.rw_recalcrows_k08_steps_taken).prog 39) (kwd := []) VK.ob_eq
    (by kernel_rfl) (fun s => by kernel_rfl) VK.run (by kernel_rfl) (by kernel_rfl) (by kernel_rfl) (by rfl) (by first | assumption | decide +kernel) (by decide +kernel) ⟨rfl, rfl, rfl, rfl, rfl, by decide +kernel⟩ ?hw ?hc
  case hw => w_witness2
  case hc =>
    refine L2.walk_ofE (l := PySem.Challenge.rw_recalcrows_k08_steps_taken) (n := 63) (k := 6) (x := "_law_script") (CX := L2.CX0) rfl (by decide) (by kernel_rfl) ⟨rfl, by decide, by decide⟩ ?F (fun _ _ _ _ z => z)
    intro w mg fa h Y G hmg0
    obtain ⟨K, KX, c⟩ := Y
    have hmg : mg ("law" : PySem.Str) = some (.ref fa) := by
      have e : (HandSHeadRun.topDef (OpenLaw.row PySem.Challenge.rw_recalcrows_k08_steps_taken).prog 39).name = ("law" : PySem.Str) := by kernel_rfl
      rw [← e]
      exact hmg0
    obtain ⟨fd, hb, hF⟩ := VK.facts_ok plain (P := (PySem.Challenge.rw_recalcrows_k08_steps_taken).prog) (w := w) KX G hmg c
    exact ⟨K, fd, VI.spL K 63, KX, hb, fun H a ns hl _ hS => ⟨a, ns, rfl, hl, hS, fun _ => rfl⟩, hF⟩

namespace VK
open VI
open PySem (PyData)
theorem k08_calls : Calls8 T_after_steps := by
  have hmix : MixedS F_law_mixed := fun a k h => mixed_ok _ a k h
  have htake : TakeS F_law_take := take_ok _ hmix
  have hnames : NamesS F_law_names := names_ok _ htake
  have horder : OrderS F_law_order := order_ok _ (by decide) htake
  have hent : EntriesS F_law_entries := entries_ok _ htake horder
  have hshape : ShapeS F_law_shape := shape_ok _ htake hnames hent
  have hisn : IsNameS F_is_name := is_name_ok _ rfl
  have hcp : CPlainS F_checked_plain := plain_ok _ hisn
  have hcc : CCompS F_checked_computed := ccomp_ok _ hisn rfl
  have hinit : InitS F_Shape___init__ := init_ok _ hcp hcc
  have hreads : ReadsS F_law_reads := reads_ok _
  have hrow : RowS F_law_row := row_ok _ htake
  have hidle : IdleS F_law_idle := idle_ok _
  have hlost : LostS F_law_lost := lost_ok _
  have hlink : LinkS F_law_linked := link_ok _
  have hafter : AfterS F_law_after := after_ok _ hidle hlost hlink
  have hdraw : DrawS F_law_steps := draw_ok _ htake hafter
  have hbent : BentS F_law_bent := bent_ok _ htake
  have hcomp : CompS F_Shape_computed := comp_ok _
  have hcrow : CRowS F_checked_row := crow_ok _ hcomp rfl
  have hfits : FitsS F_step_fits := fits_ok _
  have hnext : NextS2 F_next_of_2 := next2_ok _
  have hrel : RelS F_are_related := rel_ok _
  have hallow : AllowS F_step_allowed := allow_ok _ hrel hnext
  have hsteps : StepsS F_after_steps := steps_ok _ hcrow hfits hallow
  exact ⟨pile_ok _, htake, hshape, hinit, hreads, hrow, hafter, hdraw, hbent, hsteps⟩
end VK
theorem PySem.Challenge.cw_recalcrows_k08_steps_taken_holds : PySem.Challenge.rw_recalcrows_k08_steps_taken.Holds :=
  PySem.Challenge.cw_recalcrows_k08_steps_taken_holdsof fun ns _ => VK.law8_plain VK.T_after_steps VK.k08_calls ns

