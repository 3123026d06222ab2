import PyProof.Rows.All
import Wide.All
import OpenK.AllK
import Wide.FinOn
import HandS.ForMost
import HandS.TupAny
import HandS.AnyAll
import KE.KDictKeyed
import KE.KeyNested
import HandS.Wide
import HandS.Star
import HandS.IsInst
import HandS.Deep
import KE.KIndexOf
import HandS.Conv
import KE.KDictDisplayH
import PySem.Challenge.RW_leastmarked_k02_whole_distances
import HandS.Ends
set_option Elab.async false
set_option autoImplicit false
set_option linter.all false
set_option maxRecDepth 100000
set_option maxHeartbeats 4000000
/-! LQ1: pure denotations over HandS: data, slots, the separation of the heap, the judgements. -/
namespace LQ
open PySem PySem.Spec PyProof.Rows L2

abbrev D := PyData

/-! ### keys of dicts: nested tuples of ints, bools, texts, None -/
mutual
def keyOf : D → Option NestedKey
  | .none => some .none
  | .bool b => some (.num (if b = true then 1 else 0))
  | .int i => some (.num i)
  | .str x => some (.text x)
  | .tuple ds => (keyAll ds).map NestedKey.tup
  | .list _ => none
  | .dict _ => none
def keyAll : List D → Option (List NestedKey)
  | [] => some []
  | d :: ds => match keyOf d, keyAll ds with
    | some k, some ks => some (k :: ks)
    | _, _ => none
end

/-- a dict with keys that are tuples: the key, the key's address, the value -/
abbrev DE3 := List (NestedKey × Addr × V)
def dkPhi (P : Program) (w : World) (a : Addr) (es : DE3) (h : Heap) : Prop :=
  es.length ≤ sizeLine ∧ (a == sysModules) = false ∧ ∃ xs : List (NestedKey × Addr × Value), Paired (fun (p : NestedKey × Addr × V) (q : NestedKey × Addr × Value) => p.1 = q.1 ∧ p.2.1 = q.2.1 ∧ RelV p.2.2 q.2.2) es xs ∧
    ∃ o es' ep, h.get? a = some o ∧ o.ExactDict ∧ o.data = .dict es' ep ∧ es'.toList = xs.map (entryOfKey (nestedKind P w)) ∧ (xs.map (·.1)).Nodup
def dkO (P : Program) (w : World) (a : Addr) (es : DE3) : HO := .ext (dkPhi P w a es)

/-- a tuple without a dict of its own, known to its object -/
def TupR (F : Hp) (a : Addr) (xs : List V) : Prop := ∃ o : Obj, F a = some (.frz o (.tup xs)) ∧ o.dict = none
theorem TupR.sq {K : PySem.W.Frag} {F : Hp} {a : Addr} {xs : List V} (h : TupR F a xs) : SqT K F a xs := let ⟨o, e, _⟩ := h; .inl (.inr ⟨o, e⟩)

/-! ### a value bears data, in the frozen heap F -/
mutual
inductive Rp (P : Program) (w : World) (K : PySem.W.Frag) (F : Hp) : V → D → Prop
  | non : Rp P w K F .non .none
  | bl (b : Bool) : Rp P w K F (.bl b) (.bool b)
  | int (i : Int) : Rp P w K F (.int i) (.int i)
  | str (x : Str) : Rp P w K F (.str x) (.str x)
  | lst {a : Addr} {xs : List V} {ds : List D} : Rd F a (.lst xs) → RpA P w K F xs ds → Rp P w K F (.ref a) (.list ds)
  | tup {a : Addr} {xs : List V} {ds : List D} : TupR F a xs → RpA P w K F xs ds → Rp P w K F (.ref a) (.tuple ds)
  | dct {a : Addr} {es : DE3} {kvs : List (D × D)} : F a = some (dkO P w a es) → RpE P w K F es kvs → Rp P w K F (.ref a) (.dict kvs)
inductive RpA (P : Program) (w : World) (K : PySem.W.Frag) (F : Hp) : List V → List D → Prop
  | nil : RpA P w K F [] []
  | cons {v : V} {vs : List V} {d : D} {ds : List D} : Rp P w K F v d → RpA P w K F vs ds → RpA P w K F (v :: vs) (d :: ds)
inductive RpE (P : Program) (w : World) (K : PySem.W.Frag) (F : Hp) : DE3 → List (D × D) → Prop
  | nil : RpE P w K F [] []
  | cons {k : NestedKey} {b : Addr} {v : V} {es : DE3} {kd d : D} {kvs : List (D × D)} : keyOf kd = some k → k.depth ≤ 8 → Rp P w K F (.ref b) kd → Rp P w K F v d → RpE P w K F es kvs → RpE P w K F ((k, b, v) :: es) ((kd, d) :: kvs)
end

section
variable {P : Program} {w : World} {K : PySem.W.Frag} {F F' : Hp}
theorem Same.rd {a : Addr} {u : HO} (e : Same F F') (h : Rd F a u) : Rd F' a u := by
  rcases h with h | ⟨o, h⟩
  · exact .inl (e _ _ h)
  · exact .inr ⟨o, e _ _ h⟩
theorem Same.tupR {a : Addr} {xs : List V} (e : Same F F') (h : TupR F a xs) : TupR F' a xs := let ⟨o, h1, h2⟩ := h; ⟨o, e _ _ h1, h2⟩
theorem Same.sqT {a : Addr} {xs : List V} (e : Same F F') (h : TupR F a xs) : SqT K F' a xs := (Same.tupR e h).sq
mutual
theorem Rp.mono (e : Same F F') : ∀ {v : V} {d : D}, Rp P w K F v d → Rp P w K F' v d
  | _, _, .non => .non
  | _, _, .bl b => .bl b
  | _, _, .int i => .int i
  | _, _, .str x => .str x
  | _, _, .lst h t => .lst (Same.rd e h) (RpA.mono e t)
  | _, _, .tup h t => .tup (Same.tupR e h) (RpA.mono e t)
  | _, _, .dct h t => .dct (e _ _ h) (RpE.mono e t)
theorem RpA.mono (e : Same F F') : ∀ {vs : List V} {ds : List D}, RpA P w K F vs ds → RpA P w K F' vs ds
  | _, _, .nil => .nil
  | _, _, .cons h t => .cons (Rp.mono e h) (RpA.mono e t)
theorem RpE.mono (e : Same F F') : ∀ {es : DE3} {kvs : List (D × D)}, RpE P w K F es kvs → RpE P w K F' es kvs
  | _, _, .nil => .nil
  | _, _, .cons hk hd h1 h2 t => .cons hk hd (Rp.mono e h1) (Rp.mono e h2) (RpE.mono e t)
end
theorem RpA.length : ∀ {vs : List V} {ds : List D}, RpA P w K F vs ds → vs.length = ds.length
  | _, _, .nil => rfl
  | _, _, .cons _ t => by rw [List.length_cons, List.length_cons, RpA.length t]
theorem RpA.get : ∀ {vs : List V} {ds : List D} {i : Nat} {d : D}, RpA P w K F vs ds → ds[i]? = some d → ∃ v, vs[i]? = some v ∧ Rp P w K F v d
  | _, _, _, _, .nil, e => by simp at e
  | _, _, 0, _, .cons r _, e => by simp at e; subst e; exact ⟨_, rfl, r⟩
  | _, _, i + 1, _, .cons _ t, e => by
    obtain ⟨u, h1, h2⟩ := RpA.get (i := i) t (by simpa using e)
    exact ⟨u, by simpa using h1, h2⟩
theorem RpA.getV : ∀ {vs : List V} {ds : List D} {i : Nat} {v : V}, RpA P w K F vs ds → vs[i]? = some v → ∃ d, ds[i]? = some d ∧ Rp P w K F v d
  | _, _, _, _, .nil, e => by simp at e
  | _, _, 0, _, .cons r _, e => by simp at e; subst e; exact ⟨_, rfl, r⟩
  | _, _, i + 1, _, .cons _ t, e => by
    obtain ⟨u, h1, h2⟩ := RpA.getV (i := i) t (by simpa using e)
    exact ⟨u, by simpa using h1, h2⟩
theorem RpA.append : ∀ {vs us : List V} {ds es : List D}, RpA P w K F vs ds → RpA P w K F us es → RpA P w K F (vs ++ us) (ds ++ es)
  | _, _, _, _, .nil, h => h
  | _, _, _, _, .cons r t, h => .cons r (RpA.append t h)
theorem RpA.set {v : V} {d : D} (r : Rp P w K F v d) : ∀ {vs : List V} {ds : List D} (i : Nat), RpA P w K F vs ds → RpA P w K F (vs.set i v) (ds.set i d)
  | _, _, _, .nil => .nil
  | _, _, 0, .cons _ t => .cons r t
  | _, _, i + 1, .cons q t => .cons q (RpA.set r i t)
theorem RpA.take : ∀ {vs : List V} {ds : List D} (n : Nat), RpA P w K F vs ds → RpA P w K F (vs.take n) (ds.take n)
  | _, _, 0, _ => .nil
  | _, _, _ + 1, .nil => .nil
  | _, _, n + 1, .cons r t => .cons r (RpA.take n t)
theorem RpA.drop : ∀ {vs : List V} {ds : List D} (n : Nat), RpA P w K F vs ds → RpA P w K F (vs.drop n) (ds.drop n)
  | _, _, 0, r => r
  | _, _, _ + 1, .nil => .nil
  | _, _, n + 1, .cons _ t => RpA.drop n t
theorem RpA.eraseIdx : ∀ {vs : List V} {ds : List D} (n : Nat), RpA P w K F vs ds → RpA P w K F (vs.eraseIdx n) (ds.eraseIdx n)
  | _, _, _, .nil => .nil
  | _, _, 0, .cons _ t => t
  | _, _, n + 1, .cons r t => .cons r (RpA.eraseIdx n t)
theorem RpA.rep {vs : List V} {ds : List D} (h : RpA P w K F vs ds) : ∀ k : Nat, RpA P w K F (List.replicate k vs).flatten (List.replicate k ds).flatten
  | 0 => .nil
  | k + 1 => by
    rw [List.replicate_succ, List.flatten_cons, List.replicate_succ, List.flatten_cons]
    exact h.append (RpA.rep h k)
theorem RpA.reverse : ∀ {vs : List V} {ds : List D}, RpA P w K F vs ds → RpA P w K F vs.reverse ds.reverse
  | _, _, .nil => .nil
  | _, _, .cons r t => by rw [List.reverse_cons, List.reverse_cons]; exact (RpA.reverse t).append (.cons r .nil)
theorem RpA.snoc {vs : List V} {ds : List D} {v : V} {d : D} (h : RpA P w K F vs ds) (r : Rp P w K F v d) : RpA P w K F (vs ++ [v]) (ds ++ [d]) := h.append (.cons r .nil)
theorem RpA.ofAll : ∀ {vs : List V} {ds : List D}, vs.length = ds.length → (∀ (i : Nat) (v : V) (d : D), vs[i]? = some v → ds[i]? = some d → Rp P w K F v d) → RpA P w K F vs ds
  | [], [], _, _ => .nil
  | [], _ :: _, e, _ => by cases e
  | _ :: _, [], e, _ => by cases e
  | v :: vs, d :: ds, e, h => .cons (h 0 v d rfl rfl) (RpA.ofAll (by simpa using e) fun i x y a b => h (i + 1) x y (by simpa using a) (by simpa using b))

/-- no dict in it -/
def okD : D → Bool
  | .dict _ => false
  | _ => true
mutual
def noDict : D → Bool
  | .dict _ => false
  | .list ds => noDictA ds
  | .tuple ds => noDictA ds
  | _ => true
def noDictA : List D → Bool
  | [] => true
  | d :: ds => noDict d && noDictA ds
end
mutual
theorem Rp.dp : ∀ {v : V} {d : D}, Rp P w K F v d → noDict d = true → Dp K F v d
  | _, _, .non, _ => .non
  | _, _, .bl b, _ => .bl b
  | _, _, .int i, _ => .int i
  | _, _, .str x, _ => .str x
  | _, _, .lst h t, e => .lst (.inl h) (RpA.dp t (by simpa [noDict] using e))
  | _, _, .tup h t, e => .tup h.sq (RpA.dp t (by simpa [noDict] using e))
  | _, _, .dct _ _, e => by simp [noDict] at e
theorem RpA.dp : ∀ {vs : List V} {ds : List D}, RpA P w K F vs ds → noDictA ds = true → DpAll K F vs ds
  | _, _, .nil, _ => .nil
  | _, _, .cons h t, e => by
    simp only [noDictA, Bool.and_eq_true] at e
    exact .cons (Rp.dp h e.1) (RpA.dp t e.2)
end
end

/-! ### slots -/
inductive OV where
  | lst (ds : List D)
  | dct (kvs : List (D × D))
inductive SV where
  | dat (d : D)
  | own (t : Nat) (o : OV)
abbrev Sl := List (Option SV)
def OV.fz : OV → D
  | .lst ds => .list ds
  | .dct kvs => .dict kvs
def SV.fz : SV → Option D
  | .dat d => some d
  | .own 0 o => some o.fz
  | .own (_ + 1) _ => none

section
variable (P : Program) (w : World) (K : PySem.W.Frag)
/-- what stands at an owned address -/
def OvAt (F H : Hp) (p : Addr) : OV → Prop
  | .lst ds => ∃ xs, H p = some (.lst xs) ∧ RpA P w K F xs ds
  | .dct kvs => ∃ es, H p = some (dkO P w p es) ∧ RpE P w K F es kvs
def OwnAt (Fr F H : Hp) (θ : Nat → Addr) (t : Nat) (o : OV) (p : Addr) : Prop := F p = none ∧ Fr p = none ∧ (t ≠ 0 → p = θ t) ∧ OvAt P w K F H p o
def RepS (Fr F H : Hp) (θ : Nat → Addr) : SV → V → Prop
  | .dat d, v => Rp P w K F v d
  | .own t o, v => ∃ p, v = .ref p ∧ OwnAt P w K Fr F H θ t o p
/-- slot i owns what stands at p -/
def OwnsAt (ρ : Sl) (σ : L2.St) (i : Nat) (p : Addr) : Prop := (∃ t o, ρ[i]? = some (some (.own t o))) ∧ σ[i]? = some (some (.ref p))
/-- T: the tables of code objects -/
structure Stt (T : Addr → Prop) (Fr F H : Hp) (θ : Nat → Addr) (ρ : Sl) (σ : L2.St) : Prop where
  fh : Same F H
  rh : Same Fr H
  dj : ∀ a o, Fr a = some o → F a = none
  tb : ∀ a, T a → F a = none ∧ Fr a = none ∧ GxR.TabG H a
  sl : ∀ (i : Nat) (s : SV), ρ[i]? = some (some s) → ∃ v, σ[i]? = some (some v) ∧ RepS P w K Fr F H θ s v
  ij : ∀ (i j : Nat) (p : Addr), OwnsAt ρ σ i p → OwnsAt ρ σ j p → i = j
/-- an expression's result -/
def RepR (Fr F H : Hp) (θ : Nat → Addr) (ρ : Sl) (σ : L2.St) : SV → V → Prop
  | .dat d, v => Rp P w K F v d
  | .own t o, v => t = 0 ∧ ∃ p, v = .ref p ∧ OwnAt P w K Fr F H θ t o p ∧ ∀ i, ¬ OwnsAt ρ σ i p
end

section
variable {P : Program} {w : World} {K : PySem.W.Frag} {T : Addr → Prop} {Fr F F' H H' : Hp} {θ : Nat → Addr} {ρ ρ' : Sl} {σ σ' : L2.St}
theorem OvAt.monoF {p : Addr} {o : OV} (e : Same F F') (h : OvAt P w K F H p o) : OvAt P w K F' H p o := by
  cases o with
  | lst ds => obtain ⟨xs, h1, h2⟩ := h; exact ⟨xs, h1, h2.mono e⟩
  | dct kvs => obtain ⟨es, h1, h2⟩ := h; exact ⟨es, h1, h2.mono e⟩
theorem OvAt.at {p : Addr} {o : OV} (e : H' p = H p) (h : OvAt P w K F H p o) : OvAt P w K F H' p o := by
  cases o with
  | lst ds => obtain ⟨xs, h1, h2⟩ := h; exact ⟨xs, e.trans h1, h2⟩
  | dct kvs => obtain ⟨es, h1, h2⟩ := h; exact ⟨es, e.trans h1, h2⟩
theorem OvAt.there {p : Addr} {o : OV} (h : OvAt P w K F H p o) : ∃ u, H p = some u := by
  cases o with
  | lst ds => obtain ⟨xs, h1, h2⟩ := h; exact ⟨_, h1⟩
  | dct kvs => obtain ⟨es, h1, h2⟩ := h; exact ⟨_, h1⟩
theorem OvAt.notTab {p : Addr} {o : OV} (h : OvAt P w K F H p o) (n : GxR.TabG H p) : False := by
  obtain ⟨ps, e, _⟩ := n
  cases o with
  | lst ds => obtain ⟨xs, h1, h2⟩ := h; rw [e] at h1; cases h1
  | dct kvs =>
    obtain ⟨es, h1, h2⟩ := h
    rw [e] at h1
    cases h1

/-- a fresh object that goes to the frozen part -/
theorem Stt.newF (s : Stt P w K T Fr F H θ ρ σ) {p : Addr} {o : HO} (n : H p = none) : Stt P w K T Fr (upd F p o) (upd H p o) θ ρ σ ∧ Same F (upd F p o) := by
  have nF : F p = none := s.fh.free n
  have nR : Fr p = none := s.rh.free n
  have sF : Same F (upd F p o) := fun b u e => by rw [upd_ne (ne_of_none e nF)]; exact e
  refine ⟨⟨fun b u e => ?_, fun b u e => ?_, fun b u e => ?_, fun b hb => ?_, fun i q hq => ?_, s.ij⟩, sF⟩
  · by_cases hb : b = p
    · subst hb; rw [upd_same] at e ⊢; exact e
    · rw [upd_ne hb] at e ⊢; exact s.fh b u e
  · rw [upd_ne (ne_of_none e nR)]; exact s.rh b u e
  · rw [upd_ne (ne_of_none e nR)]; exact s.dj b u e
  · obtain ⟨h1, h2, ps, h3, h4⟩ := s.tb b hb
    have ne : b ≠ p := fun z => by rw [z, n] at h3; cases h3
    exact ⟨by rw [upd_ne ne]; exact h1, h2, ps, by rw [upd_ne ne]; exact h3, h4⟩
  · obtain ⟨v, hv, r⟩ := s.sl i q hq
    refine ⟨v, hv, ?_⟩
    cases q with
    | dat d => exact Rp.mono sF r
    | own t ov =>
      obtain ⟨a, e, h1, h2, h3, h4⟩ := r
      obtain ⟨u, hu⟩ := h4.there
      have ne : a ≠ p := ne_of_none hu n
      exact ⟨a, e, by rw [upd_ne ne]; exact h1, h2, h3, (h4.monoF sF).at (by rw [upd_ne ne])⟩
/-- the frozen part grows by what is not owned (nor the frame's, nor a table) -/
theorem Stt.freeze (s : Stt P w K T Fr F H θ ρ σ) {p : Addr} {o : HO} (e : H p = some o) (nR : Fr p = none) (nO : ∀ i, ¬ OwnsAt ρ σ i p) (nF : F p = none) (nT : ∀ ps, o ≠ .tbl ps) : Stt P w K T Fr (upd F p o) H θ ρ σ ∧ Same F (upd F p o) := by
  have sF : Same F (upd F p o) := fun b u e => by rw [upd_ne (ne_of_none e nF)]; exact e
  refine ⟨⟨fun b u q => ?_, s.rh, fun b u q => ?_, fun b hb => ?_, fun i q hq => ?_, s.ij⟩, sF⟩
  · by_cases hb : b = p
    · subst hb; rw [upd_same] at q; rw [e]; exact q
    · rw [upd_ne hb] at q; exact s.fh b u q
  · rw [upd_ne (ne_of_none q nR)]; exact s.dj b u q
  · obtain ⟨h1, h2, ps, h3, h4⟩ := s.tb b hb
    have ne : b ≠ p := fun z => by
      rw [z, e] at h3
      exact nT ps (Option.some.inj h3)
    exact ⟨by rw [upd_ne ne]; exact h1, h2, ps, h3, h4⟩
  · obtain ⟨v, hv, r⟩ := s.sl i q hq
    refine ⟨v, hv, ?_⟩
    cases q with
    | dat d => exact Rp.mono sF r
    | own t ov =>
      obtain ⟨a, e2, h1, h2, h3, h4⟩ := r
      have ne : a ≠ p := fun z => nO i ⟨⟨t, ov, hq⟩, by rw [hv, e2, z]⟩
      exact ⟨a, e2, by rw [upd_ne ne]; exact h1, h2, h3, h4.monoF sF⟩
/-- an owned object written -/
theorem Stt.write (s : Stt P w K T Fr F H θ ρ σ) {i : Nat} {t : Nat} {ov ov' : OV} {p : Addr} {o : HO} (hi : ρ[i]? = some (some (.own t ov))) (hp : σ[i]? = some (some (.ref p))) (new : OvAt P w K F (upd H p o) p ov') :
    Stt P w K T Fr F (upd H p o) θ (ρ.set i (some (.own t ov'))) σ := by
  obtain ⟨v, hv, a, e, h1, h2, h3, h4⟩ := s.sl i _ hi
  rw [hp] at hv
  obtain rfl : V.ref p = v := Option.some.inj (Option.some.inj hv)
  obtain rfl : p = a := by injection e
  have li : i < ρ.length := (List.getElem?_eq_some_iff.mp hi).1
  have back : ∀ j q, OwnsAt (ρ.set i (some (.own t ov'))) σ j q → OwnsAt ρ σ j q := fun j q ⟨⟨t1, o1, hj⟩, hq⟩ => by
    by_cases z : i = j
    · subst z; exact ⟨⟨t, ov, hi⟩, hq⟩
    · rw [List.getElem?_set_ne z] at hj; exact ⟨⟨t1, o1, hj⟩, hq⟩
  refine ⟨fun b u q => ?_, fun b u q => ?_, s.dj, fun b hb => ?_, fun j q hq => ?_, fun j k q a b => s.ij j k q (back j q a) (back k q b)⟩
  · rw [upd_ne (ne_of_none q h1)]; exact s.fh b u q
  · rw [upd_ne (ne_of_none q h2)]; exact s.rh b u q
  · obtain ⟨k1, k2, ps, k3, k4⟩ := s.tb b hb
    have ne : b ≠ p := fun z => h4.notTab (by subst z; exact ⟨ps, k3, k4⟩)
    exact ⟨k1, k2, ps, by rw [upd_ne ne]; exact k3, k4⟩
  · by_cases z : i = j
    · subst z
      rw [List.getElem?_set_self li] at hq
      obtain rfl : SV.own t ov' = q := Option.some.inj (Option.some.inj hq)
      exact ⟨.ref p, hp, p, rfl, h1, h2, h3, new⟩
    · rw [List.getElem?_set_ne z] at hq
      obtain ⟨v, hv, r⟩ := s.sl j q hq
      refine ⟨v, hv, ?_⟩
      cases q with
      | dat d => exact r
      | own t2 ov2 =>
        obtain ⟨a, e2, k1, k2, k3, k4⟩ := r
        have ne : a ≠ p := fun y => z (s.ij i j p ⟨⟨_, _, hi⟩, hp⟩ ⟨⟨_, _, hq⟩, by rw [hv, e2, y]⟩)
        exact ⟨a, e2, k1, k2, k3, k4.at (by rw [upd_ne ne])⟩
/-- forgetting slots -/
theorem Stt.weak (s : Stt P w K T Fr F H θ ρ σ) (h : ∀ (i : Nat) (q : SV), ρ'[i]? = some (some q) → ρ[i]? = some (some q)) : Stt P w K T Fr F H θ ρ' σ :=
  ⟨s.fh, s.rh, s.dj, s.tb, fun i q hq => s.sl i q (h i q hq), fun i j p ⟨⟨t1, o1, a1⟩, b1⟩ ⟨⟨t2, o2, a2⟩, b2⟩ => s.ij i j p ⟨⟨t1, o1, h _ _ a1⟩, b1⟩ ⟨⟨t2, o2, h _ _ a2⟩, b2⟩⟩
theorem set_none {ρ : Sl} {i j : Nat} {q : SV} (h : (ρ.set i none)[j]? = some (some q)) : ρ[j]? = some (some q) := by
  by_cases z : i = j
  · subst z
    by_cases l : i < ρ.length
    · rw [List.getElem?_set_self l] at h; cases h
    · rw [List.getElem?_eq_none (by simpa using l)] at h; cases h
  · rw [List.getElem?_set_ne z] at h; exact h
/-- a slot is stored -/
theorem Stt.store (s : Stt P w K T Fr F H θ ρ σ) (i : Nat) {r : SV} {v : V} (h : RepR P w K Fr F H θ ρ σ r v) (li : i < σ.length) : Stt P w K T Fr F H θ (ρ.set i (some r)) (σ.set i (some v)) := by
  have old : ∀ j q, i ≠ j → OwnsAt (ρ.set i (some r)) (σ.set i (some v)) j q → OwnsAt ρ σ j q := fun j q z ⟨⟨t1, o1, a⟩, b⟩ => by
    rw [List.getElem?_set_ne z] at a b
    exact ⟨⟨t1, o1, a⟩, b⟩
  have mine : ∀ q, OwnsAt (ρ.set i (some r)) (σ.set i (some v)) i q → ∀ j, ¬ OwnsAt ρ σ j q := fun q ⟨⟨t1, o1, a⟩, b⟩ j hj => by
    by_cases l : i < ρ.length
    · rw [List.getElem?_set_self l] at a
      obtain rfl : r = .own t1 o1 := Option.some.inj (Option.some.inj a)
      obtain ⟨_, p, e, _, hn⟩ := h
      subst e
      rw [List.getElem?_set_self li] at b
      obtain rfl : p = q := by injection (Option.some.inj (Option.some.inj b))
      exact hn j hj
    · rw [List.getElem?_eq_none (by simpa using l)] at a; cases a
  refine ⟨s.fh, s.rh, s.dj, s.tb, fun j q hq => ?_, fun j k q a b => ?_⟩
  · by_cases z : i = j
    · subst z
      by_cases l : i < ρ.length
      · rw [List.getElem?_set_self l] at hq
        obtain rfl : r = q := Option.some.inj (Option.some.inj hq)
        refine ⟨v, List.getElem?_set_self li, ?_⟩
        cases r with
        | dat d => exact h
        | own t o => obtain ⟨_, p, e, ho, _⟩ := h; exact ⟨p, e, ho⟩
      · rw [List.getElem?_eq_none (by simpa using l)] at hq; cases hq
    · rw [List.getElem?_set_ne z] at hq
      obtain ⟨u, hu, r⟩ := s.sl j q hq
      exact ⟨u, by rw [List.getElem?_set_ne z]; exact hu, r⟩
  · by_cases z1 : i = j
    · subst z1
      by_cases z2 : i = k
      · exact z2
      · exact absurd (old k q z2 b) (mine q a k)
    · by_cases z2 : i = k
      · subst z2
        exact absurd (old j q z1 a) (mine q b j)
      · exact s.ij j k q (old j q z1 a) (old k q z2 b)
/-- a result frozen -/
theorem Stt.fz (s : Stt P w K T Fr F H θ ρ σ) {r : SV} {v : V} {d : D} (h : RepR P w K Fr F H θ ρ σ r v) (e : r.fz = some d) : ∃ F', Same F F' ∧ Stt P w K T Fr F' H θ ρ σ ∧ Rp P w K F' v d := by
  cases r with
  | dat d' =>
    obtain rfl : d' = d := Option.some.inj e
    exact ⟨F, Same.refl F, s, h⟩
  | own t o =>
    obtain ⟨rfl, p, rfl, ⟨h1, h2, _, h4⟩, hn⟩ := h
    obtain rfl : o.fz = d := Option.some.inj e
    cases o with
    | lst ds =>
      obtain ⟨xs, hx, hr⟩ := h4
      obtain ⟨s', sF⟩ := s.freeze hx h2 hn h1 (fun ps z => by cases z)
      exact ⟨_, sF, s', .lst (.inl upd_same) (hr.mono sF)⟩
    | dct kvs =>
      obtain ⟨es, hx, hr⟩ := h4
      obtain ⟨s', sF⟩ := s.freeze hx h2 hn h1 (fun ps z => by cases z)
      exact ⟨_, sF, s', .dct upd_same (hr.mono sF)⟩
/-- a new owned object -/
theorem Stt.newO (s : Stt P w K T Fr F H θ ρ σ) {p : Addr} {o : HO} (n : H p = none) : Stt P w K T Fr F (upd H p o) θ ρ σ := by
  have nF : F p = none := s.fh.free n
  have nR : Fr p = none := s.rh.free n
  refine ⟨fun b u e => ?_, fun b u e => ?_, s.dj, fun b hb => ?_, fun i q hq => ?_, s.ij⟩
  · rw [upd_ne (ne_of_none e nF)]; exact s.fh b u e
  · rw [upd_ne (ne_of_none e nR)]; exact s.rh b u e
  · obtain ⟨h1, h2, ps, h3, h4⟩ := s.tb b hb
    have ne : b ≠ p := fun z => by rw [z, n] at h3; cases h3
    exact ⟨h1, h2, ps, by rw [upd_ne ne]; exact h3, h4⟩
  · obtain ⟨v, hv, r⟩ := s.sl i q hq
    refine ⟨v, hv, ?_⟩
    cases q with
    | dat d => exact r
    | own t ov =>
      obtain ⟨a, e, h1, h2, h3, h4⟩ := r
      obtain ⟨u, hu⟩ := h4.there
      have ne : a ≠ p := ne_of_none hu n
      exact ⟨a, e, h1, h2, h3, h4.at (by rw [upd_ne ne])⟩
theorem Stt.notOwned (s : Stt P w K T Fr F H θ ρ σ) {p : Addr} (n : H p = none) : ∀ i, ¬ OwnsAt ρ σ i p := fun i ⟨⟨t, o, hi⟩, hp⟩ => by
  obtain ⟨v, hv, a, e, _, _, _, h4⟩ := s.sl i _ hi
  rw [hp] at hv
  obtain rfl : V.ref p = v := Option.some.inj (Option.some.inj hv)
  obtain rfl : p = a := by injection e
  obtain ⟨u, hu⟩ := h4.there
  rw [n] at hu; cases hu
/-- a new list, owned -/
theorem Stt.newL (s : Stt P w K T Fr F H θ ρ σ) {p : Addr} {xs : List V} {ds : List D} (n : H p = none) (h : RpA P w K F xs ds) :
    Stt P w K T Fr F (upd H p (.lst xs)) θ ρ σ ∧ RepR P w K Fr F (upd H p (.lst xs)) θ ρ σ (.own 0 (.lst ds)) (.ref p) :=
  ⟨s.newO n, rfl, p, rfl, ⟨s.fh.free n, s.rh.free n, fun z => absurd rfl z, xs, upd_same, h⟩, s.notOwned n⟩
/-- a new tuple, frozen -/
theorem Stt.newT (s : Stt P w K T Fr F H θ ρ σ) {p : Addr} {o : Obj} {xs : List V} {ds : List D} (n : H p = none) (hd : o.dict = none) (h : RpA P w K F xs ds) :
    Stt P w K T Fr (upd F p (.frz o (.tup xs))) (upd H p (.frz o (.tup xs))) θ ρ σ ∧ Same F (upd F p (.frz o (.tup xs))) ∧ Rp P w K (upd F p (.frz o (.tup xs))) (.ref p) (.tuple ds) := by
  obtain ⟨s', sF⟩ := s.newF (o := .frz o (.tup xs)) n
  exact ⟨s', sF, .tup ⟨o, upd_same, hd⟩ (h.mono sF)⟩
end
end LQ
set_option Elab.async false
set_option autoImplicit false
set_option linter.all false
set_option maxRecDepth 100000
set_option maxHeartbeats 4000000
/-! LQ2: the judgements (QE, QD, QT, QA, QS, QG, QI) and the rules of expressions. -/
namespace LQ
open PySem PySem.Spec PyProof.Rows L2

abbrev DE := Sl → Option (SV × Sl)
abbrev DD := Sl → Option (D × Sl)
abbrev DT := Sl → Option (Bool × Sl)
inductive Fl where
  | nx | bk | ct | rt (r : SV)
abbrev DSt := Sl → Option (Fl × Sl)
abbrev DI := Sl → Option (List D × Sl)
inductive AV where
  | d (d : D)
  | b (i : Nat)
abbrev DA := Sl → Option (List AV × Sl)

abbrev SX (X : Cx) (T : Addr → Prop) := Stt X.prog X.w X.K T
abbrev RX (X : Cx) := RepR X.prog X.w X.K
abbrev PX (X : Cx) := Rp X.prog X.w X.K

/-! ### what is wanted, without a reading -/
section
variable (X : Cx)
def WE (e : Expr) (σ : L2.St) (H : Hp) (Q : VK) : Prop := ∀ (pins : List (Addr × Obj)) (s : Shared), Inv X pins σ H s → wpAny (model X.prog X.w) X.A (eval e X.env) (EP X pins σ Q) X.xe s
def WT (e : Expr) (σ : L2.St) (H : Hp) (Q : Bool → Hp → Prop) : Prop := ∀ (pins : List (Addr × Obj)) (s : Shared), Inv X pins σ H s → wpAny (model X.prog X.w) X.A (isTrue e X.env (eval e X.env)) (TP X pins σ Q) X.xe s
def WA (es : List Expr) (σ : L2.St) (H : Hp) (Q : List V → Hp → Prop) : Prop := ∀ (pos : Pos) (pins : List (Addr × Obj)) (s : Shared), Inv X pins σ H s → wpAny (model X.prog X.w) X.A (spliced (backTo pos (starEach es X.env))) (AP X pins σ Q) X.xe s
def WS (st : Stmt) (Dn : Ends) (σ : L2.St) (H : Hp) : Prop := ∀ (pins : List (Addr × Obj)) (s : Shared), Inv X pins σ H s → wpAny (model X.prog X.w) X.A (exec st X.env) (SP X pins Dn) X.xe s
def WSs (st : List Stmt) (Dn : Ends) (σ : L2.St) (H : Hp) : Prop := ∀ (pins : List (Addr × Obj)) (s : Shared), Inv X pins σ H s → wpAny (model X.prog X.w) X.A (execs st X.env) (SP X pins Dn) X.xe s
def WG (tg : Expr) (v : V) (σ : L2.St) (H : Hp) (Q : L2.St → Hp → Prop) : Prop := ∀ (pins : List (Addr × Obj)) (s : Shared) (u : Value), Inv X pins σ H s → RelV v u →
  wpAny (model X.prog X.w) X.A (assign tg X.env u) (fun _ s' => ∃ σ' H', Inv X pins σ' H' s' ∧ Q σ' H') X.xe s
def WI (tg iter : Expr) (σ : L2.St) (H : Hp) (R : It → Hp → Prop) : Prop := ∀ (pins : List (Addr × Obj)) (s : Shared), Inv X pins σ H s →
  wpAny (model X.prog X.w) X.A (eval iter X.env) (fun v s1 => wpAny (model X.prog X.w) X.A (pyIter v) (PIE X pins σ tg R) X.xe s1) X.xe s
end
section
variable {X : Cx}
theorem we_pe {e : Expr} : PE X e (WE X e) := ⟨fun pins s _ _ _ I h => h pins s I⟩
theorem wt_pt {e : Expr} : PT X e (WT X e) := ⟨fun pins s _ _ _ I h => h pins s I⟩
theorem wa_pa {es : List Expr} : PA X es (WA X es) := ⟨fun pos pins s _ _ _ I h => h pos pins s I⟩
theorem ws_ps {st : Stmt} : PS X st (WS X st) := ⟨fun pins s _ _ _ I h => h pins s I⟩
theorem wss_pss {st : List Stmt} : PSs X st (WSs X st) := ⟨fun pins s _ _ _ I h => h pins s I⟩
theorem wg_pg {tg : Expr} : PG X tg (WG X tg) := ⟨fun pins s _ _ _ u _ I r h => h pins s u I r⟩
theorem wi_pi {tg iter : Expr} : PI X tg iter (WI X tg iter) := ⟨fun pins s _ _ _ I h => h pins s I⟩
theorem PE.we {e : Expr} {t : TE} {σ : L2.St} {H : Hp} {Q : VK} (h : PE X e t) (q : t σ H Q) : WE X e σ H Q := fun pins s I => h.run pins s σ H Q I q
theorem PT.wt {e : Expr} {t : TT} {σ : L2.St} {H : Hp} {Q : Bool → Hp → Prop} (h : PT X e t) (q : t σ H Q) : WT X e σ H Q := fun pins s I => h.run pins s σ H Q I q
theorem PA.wa {es : List Expr} {t : TA} {σ : L2.St} {H : Hp} {Q : List V → Hp → Prop} (h : PA X es t) (q : t σ H Q) : WA X es σ H Q := fun pos pins s I => h.run pos pins s σ H Q I q
theorem PS.ws {st : Stmt} {t : TS} {σ : L2.St} {H : Hp} {Dn : Ends} (h : PS X st t) (q : t Dn σ H) : WS X st Dn σ H := fun pins s I => h.run pins s σ H Dn I q
theorem PSs.wss {st : List Stmt} {t : TS} {σ : L2.St} {H : Hp} {Dn : Ends} (h : PSs X st t) (q : t Dn σ H) : WSs X st Dn σ H := fun pins s I => h.run pins s σ H Dn I q
theorem PG.wg {tg : Expr} {t : TG} {v : V} {σ : L2.St} {H : Hp} {Q : L2.St → Hp → Prop} (h : PG X tg t) (q : t v σ H Q) : WG X tg v σ H Q := fun pins s u I r => h.run pins s σ H v u Q I r q
theorem PI.wi {tg iter : Expr} {t : TI} {σ : L2.St} {H : Hp} {R : It → Hp → Prop} (h : PI X tg iter t) (q : t σ H R) : WI X tg iter σ H R := fun pins s I => h.run pins s σ H R I q
/-- what is wanted may use the state's own shape -/
theorem PS.ws' {st : Stmt} {t : TS} {σ : L2.St} {H : Hp} {Dn : Ends} (h : PS X st t) (q : σ.length = X.N.length → t Dn σ H) : WS X st Dn σ H := fun pins s I => h.run pins s σ H Dn I (q I.len)
theorem WS.len {st : Stmt} {σ : L2.St} {H : Hp} {Dn : Ends} (h : σ.length = X.N.length → WS X st Dn σ H) : WS X st Dn σ H := fun pins s I => h I.len pins s I
theorem WG.len {tg : Expr} {v : V} {σ : L2.St} {H : Hp} {Q : L2.St → Hp → Prop} (h : σ.length = X.N.length → WG X tg v σ H Q) : WG X tg v σ H Q := fun pins s u I r => h I.len pins s u I r
end

/-! ### the judgements -/
/-- a context in which the rules hold -/
structure CO (X : Cx) (k : Nat) : Prop where
  calm : X.calm = true
  nd : X.N.Nodup
  room : Room k X.A
  xe : X.xe = fun _ _ => False
theorem CO.own {X : Cx} {k : Nat} (c : CO X k) : PassesOwn (model X.prog X.w) X.A X.env X.xe := by
  rw [c.xe]
  exact PassesOwn.never
section
variable (T : Addr → Prop) (X : Cx)
structure QE (e : Expr) (f : DE) : Prop where
  run : ∀ {Fr F H : Hp} {θ : Nat → Addr} {ρ ρ' : Sl} {σ : L2.St} {r : SV}, SX X T Fr F H θ ρ σ → f ρ = some (r, ρ') → ∀ Q : VK,
    (∀ F' H' v, Same F F' → SX X T Fr F' H' θ ρ' σ → RX X Fr F' H' θ ρ' σ r v → Q v H') → WE X e σ H Q
structure QD (e : Expr) (f : DD) : Prop where
  run : ∀ {Fr F H : Hp} {θ : Nat → Addr} {ρ ρ' : Sl} {σ : L2.St} {d : D}, SX X T Fr F H θ ρ σ → f ρ = some (d, ρ') → ∀ Q : VK,
    (∀ F' H' v, Same F F' → SX X T Fr F' H' θ ρ' σ → PX X F' v d → Q v H') → WE X e σ H Q
/-- a test's reading -/
def TOk (t : TT) (f : DT) : Prop := ∀ {Fr F H : Hp} {θ : Nat → Addr} {ρ ρ' : Sl} {σ : L2.St} {b : Bool}, SX X T Fr F H θ ρ σ → f ρ = some (b, ρ') → ∀ Q : Bool → Hp → Prop,
    (∀ F' H', Same F F' → SX X T Fr F' H' θ ρ' σ → Q b H') → t σ H Q
def QT (e : Expr) (f : DT) : Prop := ∃ t, PT X e t ∧ TOk T X t f
def QW (e : Expr) (f : DT) : Prop := ∃ t, PW X e t ∧ TOk T X t f
def RpAv (F : Hp) (σ : L2.St) : AV → V → Prop
  | .d d, v => PX X F v d
  | .b i, v => σ[i]? = some (some v)
abbrev RpAvs (F : Hp) (σ : L2.St) : List AV → List V → Prop := Paired (RpAv X F σ)
structure QA (es : List Expr) (f : DA) : Prop where
  run : ∀ {Fr F H : Hp} {θ : Nat → Addr} {ρ ρ' : Sl} {σ : L2.St} {avs : List AV}, SX X T Fr F H θ ρ σ → f ρ = some (avs, ρ') → ∀ Q : List V → Hp → Prop,
    (∀ F' H' vs, Same F F' → SX X T Fr F' H' θ ρ' σ → RpAvs X F' σ avs vs → Q vs H') → WA X es σ H Q
/-- behind a statement -/
def Post (Fr F : Hp) (θ : Nat → Addr) (fl : Fl) (ρ' : Sl) (Dn : Ends) : Prop := match fl with
  | .nx => ∀ F' H' σ', Same F F' → SX X T Fr F' H' θ ρ' σ' → Dn.nx σ' H'
  | .bk => ∀ F' H' σ', Same F F' → SX X T Fr F' H' θ ρ' σ' → Dn.bk σ' H'
  | .ct => ∀ F' H' σ', Same F F' → SX X T Fr F' H' θ ρ' σ' → Dn.ct σ' H'
  | .rt r => ∀ F' H' σ' v, Same F F' → SX X T Fr F' H' θ ρ' σ' → RX X Fr F' H' θ ρ' σ' r v → Dn.rt v H'
structure QS (st : Stmt) (f : DSt) : Prop where
  run : ∀ {Fr F H : Hp} {θ : Nat → Addr} {ρ ρ' : Sl} {σ : L2.St} {fl : Fl}, SX X T Fr F H θ ρ σ → f ρ = some (fl, ρ') → ∀ Dn : Ends, Post T X Fr F θ fl ρ' Dn → WS X st Dn σ H
structure QSs (st : List Stmt) (f : DSt) : Prop where
  run : ∀ {Fr F H : Hp} {θ : Nat → Addr} {ρ ρ' : Sl} {σ : L2.St} {fl : Fl}, SX X T Fr F H θ ρ σ → f ρ = some (fl, ρ') → ∀ Dn : Ends, Post T X Fr F θ fl ρ' Dn → WSs X st Dn σ H
/-- a target; ts: the slots that it stores -/
structure QG (tg : Expr) (ts : List Nat) (g : D → Sl → Option Sl) : Prop where
  run : ∀ {Fr F H : Hp} {θ : Nat → Addr} {ρ ρ' : Sl} {σ : L2.St} {d : D} {v : V}, SX X T Fr F H θ ρ σ → PX X F v d → g d ρ = some ρ' → ∀ Q : L2.St → Hp → Prop,
    (∀ σ', (∀ j, j ∉ ts → σ'[j]? = σ[j]?) → σ'.length = σ.length → SX X T Fr F H θ ρ' σ' → Q σ' H) → WG X tg v σ H Q
/-- an iterator that yields ds, one after another -/
def Feed (F : Hp) (J : It) (ds : List D) : Prop := ∀ {Fr F1 H : Hp} {θ : Nat → Addr} {ρ : Sl} {σ : L2.St} (i : Nat), Same F F1 → SX X T Fr F1 H θ ρ σ →
  (∀ d, ds[i]? = some d → J.go i H ∧ ∀ x H', J.yld i H x H' → ∃ F', Same F1 F' ∧ SX X T Fr F' H' θ ρ σ ∧ PX X F' x d) ∧ (ds.length ≤ i → J.stop i H)
structure QI (tg iter : Expr) (f : DI) : Prop where
  run : ∀ {Fr F H : Hp} {θ : Nat → Addr} {ρ ρ' : Sl} {σ : L2.St} {ds : List D}, SX X T Fr F H θ ρ σ → f ρ = some (ds, ρ') → ∀ R : It → Hp → Prop,
    (∀ F' H' J, Same F F' → SX X T Fr F' H' θ ρ' σ → Feed T X F' J ds → R J H') → WI X tg iter σ H R
end

section
variable {T : Addr → Prop} {X : Cx} {k : Nat}
/-! ### freezing -/
def dD (f : DE) : DD := fun ρ => match f ρ with
  | some (r, ρ1) => match r.fz with
    | some d => some (d, ρ1)
    | none => none
  | none => none
theorem qd {e : Expr} {f : DE} (h : QE T X e f) : QD T X e (dD f) := ⟨fun {Fr F H θ ρ ρ' σ d} s e Q q => by
  unfold dD at e
  split at e
  · rename_i r ρ1 e1
    split at e
    · rename_i d' e2
      cases e
      refine h.run s e1 Q fun F' H' v sF s' rv => ?_
      obtain ⟨F2, s2, s3, rp⟩ := s'.fz rv e2
      exact q F2 H' v (sF.trans s2) s3 rp
    · cases e
  · cases e⟩
def dE (f : DD) : DE := fun ρ => match f ρ with
  | some (d, ρ1) => some (.dat d, ρ1)
  | none => none
theorem qe {e : Expr} {f : DD} (h : QD T X e f) : QE T X e (dE f) := ⟨fun {Fr F H θ ρ ρ' σ r} s e Q q => by
  unfold dE at e
  split at e
  · rename_i d ρ1 e1
    cases e
    exact h.run s e1 Q fun F' H' v sF s' rv => q F' H' v sF s' rv
  · cases e⟩

/-! ### constants, names -/
def dK (d : D) : DD := fun ρ => some (d, ρ)
theorem qk {e : Expr} {v : V} {d : D} (h : PE X e (tC v)) (r : ∀ F, PX X F v d) : QD T X e (dK d) := ⟨fun {Fr F H θ ρ ρ' σ d'} s e Q q => by
  cases e
  exact PE.we h (q F H v (Same.refl F) s (r F))⟩
theorem qd_int {i j : _} {pos : Pos} : QD T X (.Constant (.int i) j pos) (dK (.int i)) := qk pe_int fun F => .int i
theorem qd_bl {b j : _} {pos : Pos} : QD T X (.Constant (.bool b) j pos) (dK (.bool b)) := qk pe_bl fun F => .bl b
theorem qd_non {j : _} {pos : Pos} : QD T X (.Constant .none j pos) (dK .none) := qk pe_non fun F => .non
theorem qd_str {x j : _} {pos : Pos} : QD T X (.Constant (.str x) j pos) (dK (.str x)) := qk pe_str fun F => .str x

/-- a name, read: what it owns is frozen from then on -/
def dVar (i : Nat) : DD := fun ρ => match ρ[i]? with
  | some (some (.dat d)) => some (d, ρ)
  | some (some (.own 0 o)) => some (o.fz, ρ.set i (some (.dat o.fz)))
  | _ => none
theorem set_same {σ : L2.St} {i : Nat} {v : V} (h : σ[i]? = some (some v)) : σ.set i (some v) = σ := by
  apply List.ext_getElem?
  intro j
  by_cases z : i = j
  · subst z
    rw [List.getElem?_set_self (List.getElem?_eq_some_iff.mp h).1, h]
  · rw [List.getElem?_set_ne z]
theorem qd_var (i : Nat) {x : Str} {pos : Pos} (hN : X.N[i]? = some x := by rfl) (hv : Vis X.env.scope x := by first | exact Or.inl rfl | exact Or.inr (Or.inl rfl) | exact Or.inr (Or.inr rfl)) (hd : (x == ("__debug__" : Str)) = false := by decide)
    (hcd : (x == ("__classdict__" : Str)) = false := by decide) : QD T X (.Name x pos) (dVar i) := ⟨fun {Fr F H θ ρ ρ' σ d} s e Q q => by
  unfold dVar at e
  split at e
  · rename_i d' e1
    cases e
    obtain ⟨v, hv1, r⟩ := s.sl i _ e1
    exact PE.we (pe_var hN hv hd hcd) ⟨v, hv1, q F H v (Same.refl F) s r⟩
  · rename_i o e1
    cases e
    obtain ⟨v, hv1, p, e2, h1, h2, h3, h4⟩ := s.sl i _ e1
    subst e2
    refine PE.we (pe_var hN hv hd hcd) ⟨.ref p, hv1, ?_⟩
    have s1 : SX X T Fr F H θ (ρ.set i none) σ := s.weak fun j q hq => set_none hq
    have no : ∀ j, ¬ OwnsAt (ρ.set i none) σ j p := fun j ⟨⟨t1, o1, a⟩, b⟩ => by
      have a' := set_none a
      have z : i = j := s.ij i j p ⟨⟨_, _, e1⟩, hv1⟩ ⟨⟨_, _, a'⟩, b⟩
      subst z
      by_cases l : i < ρ.length
      · rw [List.getElem?_set_self l] at a; cases a
      · rw [List.getElem?_eq_none (by simpa using l)] at a; cases a
    obtain ⟨F', sF, s2, rp⟩ := s1.fz (r := .own 0 o) (v := .ref p) (d := o.fz) ⟨rfl, p, rfl, ⟨h1, h2, h3, h4⟩, no⟩ rfl
    have s3 := s2.store i (r := .dat o.fz) (v := .ref p) rp (List.getElem?_eq_some_iff.mp hv1).1
    rw [set_same hv1, List.set_set] at s3
    exact q F' H _ sF s3 rp
  · cases e⟩
/-- a name, moved out: it is not read again -/
def dMov (i : Nat) : DE := fun ρ => match ρ[i]? with
  | some (some (.dat d)) => some (.dat d, ρ)
  | some (some (.own 0 o)) => some (.own 0 o, ρ.set i none)
  | _ => none
theorem qe_mov (i : Nat) {x : Str} {pos : Pos} (hN : X.N[i]? = some x := by rfl) (hv : Vis X.env.scope x := by first | exact Or.inl rfl | exact Or.inr (Or.inl rfl) | exact Or.inr (Or.inr rfl)) (hd : (x == ("__debug__" : Str)) = false := by decide)
    (hcd : (x == ("__classdict__" : Str)) = false := by decide) : QE T X (.Name x pos) (dMov i) := ⟨fun {Fr F H θ ρ ρ' σ r} s e Q q => by
  unfold dMov at e
  split at e
  · rename_i d' e1
    cases e
    obtain ⟨v, hv1, r⟩ := s.sl i _ e1
    exact PE.we (pe_var hN hv hd hcd) ⟨v, hv1, q F H v (Same.refl F) s r⟩
  · rename_i o e1
    cases e
    obtain ⟨v, hv1, p, e2, h1, h2, h3, h4⟩ := s.sl i _ e1
    subst e2
    refine PE.we (pe_var hN hv hd hcd) ⟨.ref p, hv1, ?_⟩
    have s1 : SX X T Fr F H θ (ρ.set i none) σ := s.weak fun j q hq => set_none hq
    refine q F H _ (Same.refl F) s1 ⟨rfl, p, rfl, ⟨h1, h2, h3, h4⟩, fun j ⟨⟨t1, o1, a⟩, b⟩ => ?_⟩
    have a' := set_none a
    have z : i = j := s.ij i j p ⟨⟨_, _, e1⟩, hv1⟩ ⟨⟨_, _, a'⟩, b⟩
    subst z
    by_cases l : i < ρ.length
    · rw [List.getElem?_set_self l] at a; cases a
    · rw [List.getElem?_eq_none (by simpa using l)] at a; cases a
  · cases e⟩

/-! ### argument lists -/
def aNil : DA := fun ρ => some ([], ρ)
def aCons (f : DD) (g : DA) : DA := fun ρ => match f ρ with
  | some (d, ρ1) => match g ρ1 with
    | some (l, ρ2) => some (.d d :: l, ρ2)
    | none => none
  | none => none
def aBor (i : Nat) (g : DA) : DA := fun ρ => match ρ[i]? with
  | some (some (.own _ _)) => match g ρ with
    | some (l, ρ2) => some (.b i :: l, ρ2)
    | none => none
  | _ => none
def aStar (f : DD) (g : DA) : DA := fun ρ => match f ρ with
  | some (.list ds, ρ1) => match g ρ1 with
    | some (l, ρ2) => some (ds.map .d ++ l, ρ2)
    | none => none
  | some (.tuple ds, ρ1) => match g ρ1 with
    | some (l, ρ2) => some (ds.map .d ++ l, ρ2)
    | none => none
  | _ => none
theorem RpAv.mono {F F' : Hp} {σ : L2.St} (e : Same F F') : ∀ {a : AV} {v : V}, RpAv X F σ a v → RpAv X F' σ a v
  | .d _, _, h => Rp.mono e h
  | .b _, _, h => h
theorem RpAvs.mono {F F' : Hp} {σ : L2.St} (e : Same F F') {a : List AV} {v : List V} (h : RpAvs X F σ a v) : RpAvs X F' σ a v := L2.Paired.mapP h fun _ _ => RpAv.mono e
theorem qa_nil : QA T X [] aNil := ⟨fun {Fr F H θ ρ ρ' σ avs} s e Q q => by
  cases e
  exact PA.wa pa_nil (q F H [] (Same.refl F) s .nil)⟩
theorem qa_cons {e : Expr} {es : List Expr} {f : DD} {g : DA} (h1 : QD T X e f) (h2 : QA T X es g) (hs : starEach (e :: es) X.env = (false, eval e X.env) :: starEach es X.env := by rfl) : QA T X (e :: es) (aCons f g) := ⟨fun {Fr F H θ ρ ρ' σ avs} s e Q q => by
  unfold aCons at e
  split at e
  · rename_i d ρ1 e1
    split at e
    · rename_i l ρ2 e2
      cases e
      refine PA.wa (pa_cons we_pe wa_pa hs) ?_
      refine h1.run s e1 _ fun F1 H1 v sF1 s1 rv => ?_
      refine h2.run s1 e2 _ fun F2 H2 vs sF2 s2 rvs => ?_
      exact q F2 H2 (v :: vs) (sF1.trans sF2) s2 (.cons (Rp.mono sF2 rv) rvs)
    · cases e
  · cases e⟩
theorem qa_bor (i : Nat) {x : Str} {pos : Pos} {es : List Expr} {g : DA} (h2 : QA T X es g) (hN : X.N[i]? = some x := by rfl) (hv : Vis X.env.scope x := by first | exact Or.inl rfl | exact Or.inr (Or.inl rfl) | exact Or.inr (Or.inr rfl)) (hd : (x == ("__debug__" : Str)) = false := by decide)
    (hcd : (x == ("__classdict__" : Str)) = false := by decide) (hs : starEach (.Name x pos :: es) X.env = (false, eval (.Name x pos) X.env) :: starEach es X.env := by rfl) : QA T X (.Name x pos :: es) (aBor i g) := ⟨fun {Fr F H θ ρ ρ' σ avs} s e Q q => by
  unfold aBor at e
  split at e
  · rename_i t o e1
    split at e
    · rename_i l ρ2 e2
      cases e
      refine PA.wa (pa_cons (pe_var hN hv hd hcd) wa_pa hs) ?_
      obtain ⟨v, hv1, _⟩ := s.sl i _ e1
      refine ⟨v, hv1, ?_⟩
      refine h2.run s e2 _ fun F2 H2 vs sF2 s2 rvs => ?_
      exact q F2 H2 (v :: vs) sF2 s2 (.cons hv1 rvs)
    · cases e
  · cases e⟩
theorem RpAvs.ofData {F : Hp} {σ : L2.St} : ∀ {xs : List V} {ds : List D}, RpA X.prog X.w X.K F xs ds → RpAvs X F σ (ds.map .d) xs
  | _, _, .nil => .nil
  | _, _, .cons r t => .cons r (RpAvs.ofData t)
theorem Paired.appendP {α β : Type} {R : α → β → Prop} : ∀ {a b : List α} {c d : List β}, Paired R a c → Paired R b d → Paired R (a ++ b) (c ++ d)
  | _, _, _, _, .nil, h => h
  | _, _, _, _, .cons r t, h => .cons r (Paired.appendP t h)
theorem qa_star {e : Expr} {es : List Expr} {p : Pos} {f : DD} {g : DA} (h1 : QD T X e f) (h2 : QA T X es g) (hs : starEach (.Starred e p :: es) X.env = (true, eval e X.env) :: starEach es X.env := by rfl) : QA T X (.Starred e p :: es) (aStar f g) := ⟨fun {Fr F H θ ρ ρ' σ avs} s e Q q => by
  unfold aStar at e
  split at e
  · rename_i ds ρ1 e1
    split at e
    · rename_i l ρ2 e2
      cases e
      refine PA.wa (StX.pa_star we_pe wa_pa hs) ?_
      refine h1.run s e1 _ fun F1 H1 v sF1 s1 rv => ?_
      cases rv with
      | lst hR hA =>
        refine ⟨_, _, rfl, .inr (.inl (Same.rd s1.fh hR)), ?_⟩
        refine h2.run s1 e2 _ fun F2 H2 vs sF2 s2 rvs => ?_
        exact q F2 H2 _ (sF1.trans sF2) s2 (Paired.appendP (RpAvs.ofData (hA.mono sF2)) rvs)
    · cases e
  · rename_i ds ρ1 e1
    split at e
    · rename_i l ρ2 e2
      cases e
      refine PA.wa (StX.pa_star we_pe wa_pa hs) ?_
      refine h1.run s e1 _ fun F1 H1 v sF1 s1 rv => ?_
      cases rv with
      | tup hR hA =>
        refine ⟨_, _, rfl, .inl (Same.sqT s1.fh hR), ?_⟩
        refine h2.run s1 e2 _ fun F2 H2 vs sF2 s2 rvs => ?_
        exact q F2 H2 _ (sF1.trans sF2) s2 (Paired.appendP (RpAvs.ofData (hA.mono sF2)) rvs)
    · cases e
  · cases e⟩

/-! ### tuples, lists -/
theorem _root_.L2.Inv.tnew {pins : List (Addr × Obj)} {σ : L2.St} {H : Hp} {s : Shared} {xs : List V} {us : List Value} {t' : Nat} (I : Inv X pins σ H s) (r : Vals xs us) (z : xs.length ≤ sizeLine) :
    Inv X pins σ (upd H s.heap.objs.size (.frz { cls := .type "tuple", data := .seq us.toArray } (.tup xs))) { s with heap := s.heap.push { cls := .type "tuple", data := .seq us.toArray }, toks := t' } :=
  have here := Heap.get?_push_size s.heap (o := { cls := .type "tuple", data := .seq us.toArray }) rfl
  I.laid (fun _ _ e => Heap.get?_push_of_some _ e) (Nat.le_refl _) ⟨here, z, us, r, ⟨_, here, rfl, _, rfl⟩⟩
def tTupF (t : TA) : TE := fun σ H Q => t σ H fun xs H1 => xs.length ≤ sizeLine ∧ ∀ (p : Addr) (o : Obj), H1 p = none → o.dict = none → Q (.ref p) (upd H1 p (.frz o (.tup xs)))
theorem pe_tupF {es : List Expr} {t : TA} {n : _} {pos : Pos} (h : PA X es t) : PE X (.Tuple es n pos) (tTupF t) := ⟨fun pins s σ H Q I hq =>
  wpAny_Tuple_spliced (thn (h.run pos pins s σ H _ I hq) fun us s1 ⟨xs, H1, I1, r, z, q⟩ => ⟨r.length ▸ z, .ref s1.heap.objs.size, _, I1.tnew (t' := s1.toks) r z, rfl, q _ _ I1.fresh rfl⟩)⟩
def datAll : List AV → Option (List D)
  | [] => some []
  | .d d :: l => match datAll l with
    | some ds => some (d :: ds)
    | none => none
  | .b _ :: _ => none
theorem datAll_ok {F : Hp} {σ : L2.St} : ∀ {avs : List AV} {vs : List V} {ds : List D}, datAll avs = some ds → RpAvs X F σ avs vs → RpA X.prog X.w X.K F vs ds
  | [], _, _, e, .nil => by cases e; exact .nil
  | .d d :: l, _, _, e, .cons r t => by
    unfold datAll at e
    split at e
    · rename_i ds' e1
      cases e
      exact .cons r (datAll_ok e1 t)
    · cases e
  | .b _ :: _, _, _, e, _ => by cases e
def dTup (f : DA) : DD := fun ρ => match f ρ with
  | some (l, ρ1) => match datAll l with
    | some ds => if ds.length ≤ sizeLine then some (.tuple ds, ρ1) else none
    | none => none
  | none => none
theorem qd_tup {es : List Expr} {n : _} {pos : Pos} {f : DA} (h : QA T X es f) : QD T X (.Tuple es n pos) (dTup f) := ⟨fun {Fr F H θ ρ ρ' σ d} s e Q q => by
  unfold dTup at e
  split at e
  · rename_i l ρ1 e1
    split at e
    · rename_i ds e2
      split at e
      · rename_i hl
        cases e
        refine PE.we (pe_tupF wa_pa) ?_
        refine h.run s e1 _ fun F1 H1 vs sF1 s1 rvs => ?_
        have ra := datAll_ok e2 rvs
        refine ⟨by rw [ra.length]; exact hl, fun p o np od => ?_⟩
        obtain ⟨s2, sF2, rp⟩ := s1.newT np od ra
        exact q _ _ _ (sF1.trans sF2) s2 rp
      · cases e
    · cases e
  · cases e⟩
def dLst (f : DA) : DE := fun ρ => match f ρ with
  | some (l, ρ1) => match datAll l with
    | some ds => if ds.length ≤ sizeLine then some (.own 0 (.lst ds), ρ1) else none
    | none => none
  | none => none
theorem qe_lst {es : List Expr} {pos : Pos} {f : DA} (h : QA T X es f) : QE T X (.List es pos) (dLst f) := ⟨fun {Fr F H θ ρ ρ' σ d} s e Q q => by
  unfold dLst at e
  split at e
  · rename_i l ρ1 e1
    split at e
    · rename_i ds e2
      split at e
      · rename_i hl
        cases e
        refine PE.we (pe_lst wa_pa) ?_
        refine h.run s e1 _ fun F1 H1 vs sF1 s1 rvs => ?_
        have ra := datAll_ok e2 rvs
        refine ⟨by rw [ra.length]; exact hl, fun p np => ?_⟩
        obtain ⟨s2, rr⟩ := s1.newL np ra
        exact q _ _ _ sF1 s2 rr
      · cases e
    · cases e
  · cases e⟩

/-! ### two operands, by values -/
/-- a rule of values gives g -/
def VOp (T : Addr → Prop) (X : Cx) (r : R2) (g : D → D → Option SV) : Prop := ∀ {Fr F H : Hp} {θ : Nat → Addr} {ρ : Sl} {σ : L2.St} {x y : V} {a b : D} {z : SV}, SX X T Fr F H θ ρ σ → PX X F x a → PX X F y b → g a b = some z → ∀ Q : VK,
  (∀ F' H' v, Same F F' → SX X T Fr F' H' θ ρ σ → RX X Fr F' H' θ ρ σ z v → Q v H') → r x y H Q
def dOp2 (g : D → D → Option SV) (fa fb : DD) : DE := fun ρ => match fa ρ with
  | some (a, ρ1) => match fb ρ1 with
    | some (b, ρ2) => match g a b with
      | some z => some (z, ρ2)
      | none => none
    | none => none
  | none => none
theorem qe_two {a b e : Expr} {fa fb : DD} {r : R2} {g : D → D → Option SV} (hp : ∀ ta tb : TE, PE X a ta → PE X b tb → PE X e (tOp r ta tb)) (hv : VOp T X r g) (ha : QD T X a fa) (hb : QD T X b fb) : QE T X e (dOp2 g fa fb) := ⟨fun {Fr F H θ ρ ρ' σ z} s e Q q => by
  unfold dOp2 at e
  split at e
  · rename_i a1 ρ1 e1
    split at e
    · rename_i b1 ρ2 e2
      split at e
      · rename_i z1 e3
        cases e
        refine PE.we (hp _ _ we_pe we_pe) ?_
        refine ha.run s e1 _ fun F1 H1 v1 sF1 s1 r1 => ?_
        refine hb.run s1 e2 _ fun F2 H2 v2 sF2 s2 r2 => ?_
        exact hv s2 (Rp.mono sF2 r1) r2 e3 Q fun F' H' v sF => q F' H' v ((sF1.trans sF2).trans sF)
      · cases e
    · cases e
  · cases e⟩
theorem VOp.or {r r' : R2} {g g' : D → D → Option SV} (h : VOp T X r g) (h' : VOp T X r' g') : VOp T X (fun x y H Q => r x y H Q ∨ r' x y H Q) (fun a b => match g a b with | some z => some z | none => g' a b) := fun {Fr F H θ ρ σ x y a b z} s ra rb e Q q => by
  cases e1 : g a b with
  | some z1 =>
    simp only [e1] at e
    exact .inl (h s ra rb (by rw [e1]; exact e) Q q)
  | none =>
    simp only [e1] at e
    exact .inr (h' s ra rb e Q q)
theorem qe_op {a b : Expr} {op : Operator} {pos : Pos} {fa fb : DD} {r : R2} {g : D → D → Option SV} (ho : OpR X (binaryOp op) r) (hv : VOp T X r g) (ha : QD T X a fa) (hb : QD T X b fb) : QE T X (.BinOp a op b pos) (dOp2 g fa fb) := qe_two (fun _ _ h1 h2 => pe_op ho h1 h2) hv ha hb

/-! ints -/
def gAdd : D → D → Option SV
  | .int i, .int j => some (.dat (.int (i + j)))
  | .list a, .list b => if a.length + b.length ≤ sizeLine then some (.own 0 (.lst (a ++ b))) else none
  | .tuple a, .tuple b => if a.length + b.length ≤ sizeLine then some (.dat (.tuple (a ++ b))) else none
  | .str x, .str y => if x.length + y.length ≤ sizeLine then some (.dat (.str (x ++ y))) else none
  | _, _ => none
/-- list + list, tracked or known -/
def rCatR : R2 := fun x y H Q => ∃ l b xs zs, x = .ref l ∧ y = .ref b ∧ Rd H l (.lst xs) ∧ Rd H b (.lst zs) ∧ xs.length + zs.length ≤ sizeLine ∧ ∀ p, H p = none → Q (.ref p) (upd H p (.lst (xs ++ zs)))
theorem _root_.L2.Inv.lstR {pins : List (Addr × Obj)} {σ : L2.St} {H : Hp} {s : Shared} {l : Addr} {xs : List V} (I : Inv X pins σ H s) (hH : Rd H l (.lst xs)) : xs.length ≤ sizeLine ∧ ∃ (its : List Value) (n : Nat), Vals xs its ∧ xs.length = its.length ∧ s.heap.get? l = some { cls := .type "list", data := .seq its.toArray n } := by
  obtain ⟨z, its, n, r, e⟩ := hH.ok I.hok
  exact ⟨z, its, n, r, r.length, e⟩
theorem op_catR : OpR X (binaryOp .Add) rCatR := by
  intro pins s σ H x y v u Q I rx ry h
  obtain ⟨l, b, xs, zs, rfl, rfl, hH, hB, hz, q⟩ := h
  cases rx
  cases ry
  obtain ⟨z, its, n, r, hl, e⟩ := I.lstR hH
  obtain ⟨z2, its2, n2, r2, hl2, e2⟩ := I.lstR hB
  refine PySem.P.add_list e e2 ?_ (by rw [List.size_toArray, List.size_toArray]; omega)
  have ea : its.toArray ++ its2.toArray = (its ++ its2).toArray := by simp
  rw [ea]
  exact ⟨.ref _, _, I.lnew (t' := s.toks) (r.append r2) (by rw [List.length_append]; omega), rfl, q _ I.fresh⟩
/-- t + u: the left or the right one, where the other is empty; else a new tuple -/
def rCatF (K : PySem.W.Frag) : R2 := fun x y H Q => ∃ a b xs ys, x = .ref a ∧ y = .ref b ∧ SqT K H a xs ∧ SqT K H b ys ∧ xs.length + ys.length ≤ sizeLine ∧
  (xs = [] → Q (.ref b) H) ∧ (xs ≠ [] → ys = [] → Q (.ref a) H) ∧ (xs ≠ [] → ys ≠ [] → ∀ (p : Addr) (o : Obj), H p = none → o.dict = none → Q (.ref p) (upd H p (.frz o (.tup (xs ++ ys)))))
theorem op_catF : OpR X (binaryOp .Add) (rCatF X.K) := by
  intro pins s σ H x y v u Q I rx ry ⟨a, b, xs, ys, ex, ey, ha, hb, hz, q0, q1, q2⟩
  subst ex ey
  cases rx
  cases ry
  obtain ⟨us, r1, p1, _⟩ := I.tuple ha
  obtain ⟨ws, r2, p2, _⟩ := I.tuple hb
  cases r1 with
  | nil => exact cat_tup0 p1 p2 ⟨.ref b, H, I, rfl, q0 rfl⟩
  | cons r rr =>
    have nn : ∀ {α : Type} (x : α) (l : List α), x :: l ≠ [] := fun x l e => nomatch e
    refine HT.cat_tup p1 p2 (nn _ _) (fun e => ?_) (fun e => ?_) ?_
    · subst e
      cases r2
      exact ⟨.ref a, H, I, rfl, q1 (nn _ _) rfl⟩
    · have ne : ys ≠ [] := fun z => e (by subst z; cases r2; rfl)
      exact ⟨.ref s.heap.objs.size, _, I.tnew (t' := s.toks) (L2.Vals.append (.cons r rr) r2) (by rw [List.length_append]; exact hz), rfl, q2 (nn _ _) ne _ _ I.fresh rfl⟩
    · have l2 := r2.length
      have l1 := L2.Vals.length (.cons r rr)
      omega
theorem Rp.strV {P : Program} {w : World} {K : PySem.W.Frag} {F : Hp} {v : V} {x : Str} (h : Rp P w K F v (.str x)) : v = .str x := by cases h; rfl
theorem Rp.intV {P : Program} {w : World} {K : PySem.W.Frag} {F : Hp} {v : V} {i : Int} (h : Rp P w K F v (.int i)) : v = .int i := by cases h; rfl
theorem Rp.blV {P : Program} {w : World} {K : PySem.W.Frag} {F : Hp} {v : V} {i : Bool} (h : Rp P w K F v (.bool i)) : v = .bl i := by cases h; rfl
theorem Rp.nonV {P : Program} {w : World} {K : PySem.W.Frag} {F : Hp} {v : V} (h : Rp P w K F v .none) : v = .non := by cases h; rfl
theorem Rp.lstV {P : Program} {w : World} {K : PySem.W.Frag} {F : Hp} {v : V} {ds : List D} (h : Rp P w K F v (.list ds)) : ∃ a xs, v = .ref a ∧ Rd F a (.lst xs) ∧ RpA P w K F xs ds := by cases h with | lst h t => exact ⟨_, _, rfl, h, t⟩
theorem Rp.tupV {P : Program} {w : World} {K : PySem.W.Frag} {F : Hp} {v : V} {ds : List D} (h : Rp P w K F v (.tuple ds)) : ∃ a xs, v = .ref a ∧ TupR F a xs ∧ RpA P w K F xs ds := by cases h with | tup h t => exact ⟨_, _, rfl, h, t⟩
theorem Rp.dctV {P : Program} {w : World} {K : PySem.W.Frag} {F : Hp} {v : V} {kvs : List (D × D)} (h : Rp P w K F v (.dict kvs)) : ∃ a es, v = .ref a ∧ F a = some (dkO P w a es) ∧ RpE P w K F es kvs := by cases h with | dct h t => exact ⟨_, _, rfl, h, t⟩
def rAddQ (K : PySem.W.Frag) : R2 := fun x y H Q => rI0 (fun i j => .int (i + j)) x y H Q ∨ (rCatR x y H Q ∨ (rCatF K x y H Q ∨ (∃ i j, x = .str i ∧ y = .str j ∧ i.length + j.length ≤ sizeLine ∧ Q (.str (i ++ j)) H)))
theorem op_addQ : OpR X (binaryOp .Add) (rAddQ X.K) := op_add.or (op_catR.or (op_catF.or op_add_str))
theorem vo_add : VOp T X (rAddQ X.K) gAdd := fun {Fr F H θ ρ σ x y a b z} s ra rb e Q q => by
  unfold gAdd at e
  split at e
  · rename_i i j
    cases e
    obtain rfl := ra.intV
    obtain rfl := rb.intV
    exact .inl ⟨i, j, rfl, rfl, q F H _ (Same.refl F) s (.int _)⟩
  · rename_i xs ys
    split at e
    · rename_i hl
      cases e
      obtain ⟨a1, us, rfl, h1, t1⟩ := ra.lstV
      obtain ⟨a2, ws, rfl, h2, t2⟩ := rb.lstV
      refine .inr (.inl ⟨a1, a2, us, ws, rfl, rfl, Same.rd s.fh h1, Same.rd s.fh h2, by rw [t1.length, t2.length]; exact hl, fun p np => ?_⟩)
      obtain ⟨s2, rr⟩ := s.newL np (t1.append t2)
      exact q _ _ _ (Same.refl F) s2 rr
    · cases e
  · rename_i xs ys
    split at e
    · rename_i hl
      cases e
      obtain ⟨a1, us, rfl, h1, t1⟩ := ra.tupV
      obtain ⟨a2, ws, rfl, h2, t2⟩ := rb.tupV
      refine .inr (.inr (.inl ⟨a1, a2, us, ws, rfl, rfl, Same.sqT s.fh h1, Same.sqT s.fh h2, by rw [t1.length, t2.length]; exact hl, fun e => ?_, fun n e => ?_, fun n1 n2 p o np od => ?_⟩))
      · subst e
        cases t1
        exact q F H _ (Same.refl F) s (.tup h2 (by simpa using t2))
      · subst e
        cases t2
        exact q F H _ (Same.refl F) s (.tup h1 (by simpa using t1))
      · obtain ⟨s2, sF, rr⟩ := s.newT np od (t1.append t2)
        exact q _ _ _ sF s2 rr
    · cases e
  · rename_i u v
    split at e
    · rename_i hl
      cases e
      obtain rfl := ra.strV
      obtain rfl := rb.strV
      exact .inr (.inr (.inr ⟨u, v, rfl, rfl, hl, q F H _ (Same.refl F) s (.str _)⟩))
    · cases e
  · cases e
theorem qe_add {a b : Expr} {pos : Pos} {fa fb : DD} (ha : QD T X a fa) (hb : QD T X b fb) : QE T X (.BinOp a .Add b pos) (dOp2 gAdd fa fb) := qe_op op_addQ vo_add ha hb
def gSub : D → D → Option SV
  | .int i, .int j => some (.dat (.int (i - j)))
  | _, _ => none
theorem vo_sub : VOp T X (rI0 fun i j => .int (i - j)) gSub := fun {Fr F H θ ρ σ x y a b z} s ra rb e Q q => by
  unfold gSub at e
  split at e
  · rename_i i j
    cases e
    obtain rfl := ra.intV
    obtain rfl := rb.intV
    exact ⟨i, j, rfl, rfl, q F H _ (Same.refl F) s (.int _)⟩
  · cases e
theorem qe_sub {a b : Expr} {pos : Pos} {fa fb : DD} (ha : QD T X a fa) (hb : QD T X b fb) : QE T X (.BinOp a .Sub b pos) (dOp2 gSub fa fb) := qe_op op_sub vo_sub ha hb
/-- a * b, ints: the sizes together below a million bits -/
def gMul : D → D → Option SV
  | .int i, .int j => if i.natAbs.log2 + j.natAbs.log2 ≤ 900000 then some (.dat (.int (i * j))) else none
  | _, _ => none
theorem natAbs_lt_log2 (i : Int) : i.natAbs < 2 ^ (i.natAbs.log2 + 1) := Nat.lt_log2_self
theorem vo_mul : VOp T X (rI CMulW fun i j => .int (i * j)) gMul := fun {Fr F H θ ρ σ x y a b z} s ra rb e Q q => by
  unfold gMul at e
  split at e
  · rename_i i j
    split at e
    · rename_i hl
      cases e
      obtain rfl := ra.intV
      obtain rfl := rb.intV
      exact ⟨i, j, rfl, rfl, wide_mul (natAbs_lt_log2 i) (natAbs_lt_log2 j) (Nat.succ_pos _) (Nat.succ_pos _) (by omega), q F H _ (Same.refl F) s (.int _)⟩
    · cases e
  · cases e
theorem qe_mul {a b : Expr} {pos : Pos} {fa fb : DD} (ha : QD T X a fa) (hb : QD T X b fb) : QE T X (.BinOp a .Mult b pos) (dOp2 gMul fa fb) := qe_op op_mulW vo_mul ha hb
def gDiv : D → D → Option SV
  | .int i, .int j => if 0 < j ∧ j.natAbs.log2 < 8000 then some (.dat (.int (i / j))) else none
  | _, _ => none
theorem vo_div : VOp T X (rI CDivW fun i j => .int (i / j)) gDiv := fun {Fr F H θ ρ σ x y a b z} s ra rb e Q q => by
  unfold gDiv at e
  split at e
  · rename_i i j
    split at e
    · rename_i hl
      cases e
      obtain rfl := ra.intV
      obtain rfl := rb.intV
      exact ⟨i, j, rfl, rfl, wide_div hl.1 (natAbs_lt_log2 j) (Nat.succ_pos _) (by omega), q F H _ (Same.refl F) s (.int _)⟩
    · cases e
  · cases e
theorem qe_div {a b : Expr} {pos : Pos} {fa fb : DD} (ha : QD T X a fa) (hb : QD T X b fb) : QE T X (.BinOp a .FloorDiv b pos) (dOp2 gDiv fa fb) := qe_op op_fdivW vo_div ha hb
def gMod : D → D → Option SV
  | .int i, .int j => if 0 < j then some (.dat (.int (i % j))) else none
  | _, _ => none
theorem vo_mod : VOp T X (rI (fun _ j => 0 < j) fun i j => .int (i % j)) gMod := fun {Fr F H θ ρ σ x y a b z} s ra rb e Q q => by
  unfold gMod at e
  split at e
  · rename_i i j
    split at e
    · rename_i hl
      cases e
      obtain rfl := ra.intV
      obtain rfl := rb.intV
      exact ⟨i, j, rfl, rfl, hl, q F H _ (Same.refl F) s (.int _)⟩
    · cases e
  · cases e
theorem qe_mod {a b : Expr} {pos : Pos} {fa fb : DD} (ha : QD T X a fa) (hb : QD T X b fb) : QE T X (.BinOp a .Mod b pos) (dOp2 gMod fa fb) := qe_op op_mod vo_mod ha hb

/-! one operand -/
def dOp1 (g : D → Option SV) (fa : DD) : DE := fun ρ => match fa ρ with
  | some (a, ρ1) => match g a with
    | some z => some (z, ρ1)
    | none => none
  | none => none
def VUn (T : Addr → Prop) (X : Cx) (r : V → Hp → VK → Prop) (g : D → Option SV) : Prop := ∀ {Fr F H : Hp} {θ : Nat → Addr} {ρ : Sl} {σ : L2.St} {x : V} {a : D} {z : SV}, SX X T Fr F H θ ρ σ → PX X F x a → g a = some z → ∀ Q : VK,
  (∀ F' H' v, Same F F' → SX X T Fr F' H' θ ρ σ → RX X Fr F' H' θ ρ σ z v → Q v H') → r x H Q
theorem qe_one {a e : Expr} {fa : DD} {r : V → Hp → VK → Prop} {g : D → Option SV} (hp : ∀ ta : TE, PE X a ta → PE X e (tUn r ta)) (hv : VUn T X r g) (ha : QD T X a fa) : QE T X e (dOp1 g fa) := ⟨fun {Fr F H θ ρ ρ' σ z} s e Q q => by
  unfold dOp1 at e
  split at e
  · rename_i a1 ρ1 e1
    split at e
    · rename_i z1 e3
      cases e
      refine PE.we (hp _ we_pe) ?_
      refine ha.run s e1 _ fun F1 H1 v1 sF1 s1 r1 => ?_
      exact hv s1 r1 e3 Q fun F' H' v sF => q F' H' v (sF1.trans sF)
    · cases e
  · cases e⟩
def gNeg : D → Option SV
  | .int i => some (.dat (.int (-i)))
  | _ => none
theorem vu_neg : VUn T X (rU fun i => .int (-i)) gNeg := fun {Fr F H θ ρ σ x a z} s ra e Q q => by
  unfold gNeg at e
  split at e
  · rename_i i
    cases e
    obtain rfl := ra.intV
    exact ⟨i, rfl, q F H _ (Same.refl F) s (.int _)⟩
  · cases e
theorem qe_neg {a : Expr} {pos : Pos} {fa : DD} (ha : QD T X a fa) : QE T X (.UnaryOp .USub a pos) (dOp1 gNeg fa) := qe_one (fun _ h => pe_un un_neg h) vu_neg ha

/-! ### comparisons -/
def VCmp (T : Addr → Prop) (X : Cx) (r : R2) (g : D → D → Option Bool) : Prop := ∀ {Fr F H : Hp} {θ : Nat → Addr} {ρ : Sl} {σ : L2.St} {x y : V} {a b : D} {z : Bool}, SX X T Fr F H θ ρ σ → PX X F x a → PX X F y b → g a b = some z → ∀ Q : VK,
  Q (.bl z) H → r x y H Q
def dCmp (g : D → D → Option Bool) (fa fb : DD) : DT := fun ρ => match fa ρ with
  | some (a, ρ1) => match fb ρ1 with
    | some (b, ρ2) => match g a b with
      | some z => some (z, ρ2)
      | none => none
    | none => none
  | none => none
def dTV (f : DT) : DD := fun ρ => match f ρ with
  | some (b, ρ1) => some (.bool b, ρ1)
  | none => none
theorem qd_cmp {a b : Expr} {op : CmpOp} {pos : Pos} {fa fb : DD} {r : R2} {g : D → D → Option Bool} (ho : OpR X (compareOp op) r) (hv : VCmp T X r g) (hm : behindInMarks op b = false) (ha : QD T X a fa) (hb : QD T X b fb) : QD T X (.Compare a [op] [b] pos) (dTV (dCmp g fa fb)) := ⟨fun {Fr F H θ ρ ρ' σ d} s e Q q => by
  unfold dTV dCmp at e
  split at e
  · rename_i z ρ9 e0
    cases e
    split at e0
    · rename_i a1 ρ1 e1
      split at e0
      · rename_i b1 ρ2 e2
        split at e0
        · rename_i z1 e3
          cases e0
          refine PE.we (pe_cmpR ho we_pe we_pe hm) ?_
          refine ha.run s e1 _ fun F1 H1 v1 sF1 s1 r1 => ?_
          refine hb.run s1 e2 _ fun F2 H2 v2 sF2 s2 r2 => ?_
          exact hv s2 (Rp.mono sF2 r1) r2 e3 Q (q F2 H2 _ (sF1.trans sF2) s2 (.bl _))
        · cases e0
      · cases e0
    · cases e0
  · cases e⟩
theorem qt_cmp {a b : Expr} {op : CmpOp} {pos : Pos} {fa fb : DD} {r : R2} {g : D → D → Option Bool} (ho : OpR X (compareOp op) r) (hv : VCmp T X r g) (hm : behindInMarks op b = false) (ha : QD T X a fa) (hb : QD T X b fb) : QT T X (.Compare a [op] [b] pos) (dCmp g fa fb) :=
  ⟨_, pt_cmpR ho we_pe we_pe hm, fun {Fr F H θ ρ ρ' σ z} s e Q q => by
  unfold dCmp at e
  split at e
  · rename_i a1 ρ1 e1
    split at e
    · rename_i b1 ρ2 e2
      split at e
      · rename_i z1 e3
        cases e
        show WE X a σ H _
        refine ha.run s e1 _ fun F1 H1 v1 sF1 s1 r1 => ?_
        refine hb.run s1 e2 _ fun F2 H2 v2 sF2 s2 r2 => ?_
        exact hv s2 (Rp.mono sF2 r1) r2 e3 _ ⟨_, rfl, q F2 H2 (sF1.trans sF2) s2⟩
      · cases e
    · cases e
  · cases e⟩
mutual
theorem noDict_of : ∀ d : D, d.canLay0 = true → noDict d = true
  | .none, _ => rfl
  | .bool _, _ => rfl
  | .int _, _ => rfl
  | .str _, _ => rfl
  | .list xs, h => by
    unfold noDict
    exact noDictA_of xs (by simpa [PyData.canLay0] using h)
  | .tuple xs, h => by
    unfold noDict
    exact noDictA_of xs (by simpa [PyData.canLay0] using h)
  | .dict _, h => by simp [PyData.canLay0] at h
theorem noDictA_of : ∀ ds : List D, PyData.canLayAll0 ds = true → noDictA ds = true
  | [], _ => rfl
  | d :: ds, h => by
    simp only [PyData.canLayAll0, Bool.and_eq_true] at h
    unfold noDictA
    rw [noDict_of d h.1, noDictA_of ds h.2]
    rfl
end
theorem noDict_shaped {d : D} (h : SeqAt.shaped d = true) : noDict d = true := noDict_of d (SeqAt.canLay_of_shaped h)
def gEq : D → D → Option Bool := fun a b => if SeqAt.shaped a = true ∧ SeqAt.shaped b = true then some (PyData.eqv a b) else none
def gNe : D → D → Option Bool := fun a b => if SeqAt.shaped a = true ∧ SeqAt.shaped b = true then some (!PyData.eqv a b) else none
theorem Rp.dpH {Fr F H : Hp} {θ : Nat → Addr} {ρ : Sl} {σ : L2.St} {x : V} {a : D} (s : SX X T Fr F H θ ρ σ) (r : PX X F x a) (h : SeqAt.shaped a = true) : Dp X.K H x a := Rp.dp (Rp.mono s.fh r) (noDict_shaped h)
theorem vc_eq : VCmp T X (rEqD X.K) gEq := fun {Fr F H θ ρ σ x y a b z} s ra rb e Q q => by
  unfold gEq at e
  split at e
  · rename_i h
    cases e
    exact ⟨a, b, ra.dpH s h.1, rb.dpH s h.2, h.1, h.2, q⟩
  · cases e
theorem vc_ne : VCmp T X (rNeD X.K) gNe := fun {Fr F H θ ρ σ x y a b z} s ra rb e Q q => by
  unfold gNe at e
  split at e
  · rename_i h
    cases e
    exact ⟨a, b, ra.dpH s h.1, rb.dpH s h.2, h.1, h.2, q⟩
  · cases e
def gInt (p : Int → Int → Bool) : D → D → Option Bool
  | .int i, .int j => some (p i j)
  | _, _ => none
theorem vc_int {p : Int → Int → Bool} : VCmp T X (rI0 fun i j => .bl (p i j)) (gInt p) := fun {Fr F H θ ρ σ x y a b z} s ra rb e Q q => by
  unfold gInt at e
  split at e
  · rename_i i j
    cases e
    obtain rfl := ra.intV
    obtain rfl := rb.intV
    exact ⟨i, j, rfl, rfl, q⟩
  · cases e
def gIsN : D → D → Option Bool
  | .none, .none => some true
  | _, .none => some false
  | _, _ => none
theorem vc_isN : VCmp T X (fun x y H Q => y = .non ∧ Q (.bl (decide (x = .non))) H) gIsN := fun {Fr F H θ ρ σ x y a b z} s ra rb e Q q => by
  unfold gIsN at e
  split at e
  · cases e
    obtain rfl := ra.nonV
    obtain rfl := rb.nonV
    exact ⟨rfl, q⟩
  · rename_i h
    cases e
    obtain rfl := rb.nonV
    refine ⟨rfl, ?_⟩
    have : x ≠ .non := by
      intro z
      subst z
      cases ra
      exact h rfl
    rw [decide_eq_false this]
    exact q
  · cases e
def gIsNotN : D → D → Option Bool := fun a b => match gIsN a b with
  | some z => some (!z)
  | none => none
theorem vc_isNotN : VCmp T X (fun x y H Q => y = .non ∧ Q (.bl (!decide (x = .non))) H) gIsNotN := fun {Fr F H θ ρ σ x y a b z} s ra rb e Q q => by
  unfold gIsNotN at e
  split at e
  · rename_i z1 e1
    cases e
    have := vc_isN (T := T) s ra rb e1 (fun v H' => ∃ k, v = .bl k ∧ Q (.bl (!k)) H') ⟨_, rfl, q⟩
    obtain ⟨h1, k, h2, h3⟩ := this
    injection h2 with h2
    subst h2
    exact ⟨h1, h3⟩
  · cases e
section
variable {a b : Expr} {pos : Pos} {fa fb : DD}
theorem cm_eq (c : CO X k) : OpR X (compareOp .Eq) (rEqD X.K) := op_eqD (by have := c.room.units; omega)
theorem cm_ne (c : CO X k) : OpR X (compareOp .NotEq) (rNeD X.K) := op_neD (by have := c.room.units; omega)
theorem qt_eq (c : CO X k) (ha : QD T X a fa) (hb : QD T X b fb) : QT T X (.Compare a [.Eq] [b] pos) (dCmp gEq fa fb) := qt_cmp (cm_eq c) vc_eq (nomark _) ha hb
theorem qt_ne (c : CO X k) (ha : QD T X a fa) (hb : QD T X b fb) : QT T X (.Compare a [.NotEq] [b] pos) (dCmp gNe fa fb) := qt_cmp (cm_ne c) vc_ne (nomark _) ha hb
theorem qd_eq (c : CO X k) (ha : QD T X a fa) (hb : QD T X b fb) : QD T X (.Compare a [.Eq] [b] pos) (dTV (dCmp gEq fa fb)) := qd_cmp (cm_eq c) vc_eq (nomark _) ha hb
theorem qd_ne (c : CO X k) (ha : QD T X a fa) (hb : QD T X b fb) : QD T X (.Compare a [.NotEq] [b] pos) (dTV (dCmp gNe fa fb)) := qd_cmp (cm_ne c) vc_ne (nomark _) ha hb
abbrev gLtI : D → D → Option Bool := gInt fun i j => decide (i < j)
abbrev gLeI : D → D → Option Bool := gInt fun i j => decide (i ≤ j)
abbrev gGtI : D → D → Option Bool := gInt fun i j => decide (j < i)
abbrev gGeI : D → D → Option Bool := gInt fun i j => decide (j ≤ i)
theorem qt_lt (ha : QD T X a fa) (hb : QD T X b fb) : QT T X (.Compare a [.Lt] [b] pos) (dCmp gLtI fa fb) := qt_cmp op_lt vc_int (nomark _) ha hb
theorem qt_le (ha : QD T X a fa) (hb : QD T X b fb) : QT T X (.Compare a [.LtE] [b] pos) (dCmp gLeI fa fb) := qt_cmp op_le vc_int (nomark _) ha hb
theorem qt_gt (ha : QD T X a fa) (hb : QD T X b fb) : QT T X (.Compare a [.Gt] [b] pos) (dCmp gGtI fa fb) := qt_cmp op_gt vc_int (nomark _) ha hb
theorem qt_ge (ha : QD T X a fa) (hb : QD T X b fb) : QT T X (.Compare a [.GtE] [b] pos) (dCmp gGeI fa fb) := qt_cmp op_ge vc_int (nomark _) ha hb
theorem qd_lt (ha : QD T X a fa) (hb : QD T X b fb) : QD T X (.Compare a [.Lt] [b] pos) (dTV (dCmp gLtI fa fb)) := qd_cmp op_lt vc_int (nomark _) ha hb
theorem qd_le (ha : QD T X a fa) (hb : QD T X b fb) : QD T X (.Compare a [.LtE] [b] pos) (dTV (dCmp gLeI fa fb)) := qd_cmp op_le vc_int (nomark _) ha hb
theorem qd_gt (ha : QD T X a fa) (hb : QD T X b fb) : QD T X (.Compare a [.Gt] [b] pos) (dTV (dCmp gGtI fa fb)) := qd_cmp op_gt vc_int (nomark _) ha hb
theorem qd_ge (ha : QD T X a fa) (hb : QD T X b fb) : QD T X (.Compare a [.GtE] [b] pos) (dTV (dCmp gGeI fa fb)) := qd_cmp op_ge vc_int (nomark _) ha hb
theorem qt_isN (ha : QD T X a fa) (hb : QD T X b fb) : QT T X (.Compare a [.Is] [b] pos) (dCmp gIsN fa fb) := qt_cmp op_isN vc_isN (nomark _) ha hb
theorem qd_isN (ha : QD T X a fa) (hb : QD T X b fb) : QD T X (.Compare a [.Is] [b] pos) (dTV (dCmp gIsN fa fb)) := qd_cmp op_isN vc_isN (nomark _) ha hb
theorem qt_isNotN (ha : QD T X a fa) (hb : QD T X b fb) : QT T X (.Compare a [.IsNot] [b] pos) (dCmp gIsNotN fa fb) := qt_cmp op_notN vc_isNotN (nomark _) ha hb
theorem qd_isNotN (ha : QD T X a fa) (hb : QD T X b fb) : QD T X (.Compare a [.IsNot] [b] pos) (dTV (dCmp gIsNotN fa fb)) := qd_cmp op_notN vc_isNotN (nomark _) ha hb
end

/-! ### tests -/
/-- a value that is a bool, as a test -/
def dTB (f : DD) : DT := fun ρ => match f ρ with
  | some (.bool b, ρ1) => some (b, ρ1)
  | _ => none
theorem qt_val {e : Expr} {f : DD} (h : QD T X e f) (he : ∀ whole, isTrue e X.env whole = (do let v ← whole; standAt e.pos; holding [v] (truthy v)) := by intro _; rfl) : QT T X e (dTB f) :=
  ⟨_, pt_val we_pe he, fun {Fr F H θ ρ ρ' σ z} s e Q q => by
  unfold dTB at e
  split at e
  · rename_i b ρ1 e1
    cases e
    show WE X _ σ H _
    refine h.run s e1 _ fun F1 H1 v1 sF1 s1 r1 => ?_
    obtain rfl := r1.blV
    exact ⟨_, rfl, q F1 H1 sF1 s1⟩
  · cases e⟩
def dNot (f : DT) : DT := fun ρ => match f ρ with
  | some (b, ρ1) => some (!b, ρ1)
  | none => none
theorem qt_not {e : Expr} {pos : Pos} {f : DT} (h : QT T X e f) : QT T X (.UnaryOp .Not e pos) (dNot f) := by
  obtain ⟨t, hp, ht⟩ := h
  refine ⟨_, pt_not hp, fun {Fr F H θ ρ ρ' σ z} s e Q q => ?_⟩
  unfold dNot at e
  split at e
  · rename_i b ρ1 e1
    cases e
    exact ht s e1 _ fun F1 H1 sF1 s1 => q F1 H1 sF1 s1
  · cases e
def dAnd (f g : DT) : DT := fun ρ => match f ρ with
  | some (true, ρ1) => g ρ1
  | some (false, ρ1) => some (false, ρ1)
  | none => none
def dOr (f g : DT) : DT := fun ρ => match f ρ with
  | some (true, ρ1) => some (true, ρ1)
  | some (false, ρ1) => g ρ1
  | none => none
theorem qw_and1 {a : Expr} {pos : Pos} {f : DT} (h : QT T X a f) : QW T X (.BoolOp .And [a] pos) f := by
  obtain ⟨t, hp, ht⟩ := h
  exact ⟨t, pw_and1 hp, ht⟩
theorem qw_or1 {a : Expr} {pos : Pos} {f : DT} (h : QT T X a f) : QW T X (.BoolOp .Or [a] pos) f := by
  obtain ⟨t, hp, ht⟩ := h
  exact ⟨t, pw_or1 hp, ht⟩
theorem qw_and {a b : Expr} {rest : List Expr} {pos : Pos} {f g : DT} (h : QT T X a f) (h2 : QW T X (.BoolOp .And (b :: rest) pos) g) : QW T X (.BoolOp .And (a :: b :: rest) pos) (dAnd f g) := by
  obtain ⟨t, hp, ht⟩ := h
  obtain ⟨u, hp2, hu⟩ := h2
  refine ⟨_, pw_and hp hp2, fun {Fr F H θ ρ ρ' σ z} s e Q q => ?_⟩
  unfold dAnd at e
  split at e
  · rename_i ρ1 e1
    refine ht s e1 _ fun F1 H1 sF1 s1 => ?_
    rw [if_pos rfl]
    exact hu s1 e _ fun F2 H2 sF2 s2 => q F2 H2 (sF1.trans sF2) s2
  · rename_i ρ1 e1
    cases e
    refine ht s e1 _ fun F1 H1 sF1 s1 => ?_
    rw [if_neg Bool.false_ne_true]
    exact q F1 H1 sF1 s1
  · cases e
theorem qw_or {a b : Expr} {rest : List Expr} {pos : Pos} {f g : DT} (h : QT T X a f) (h2 : QW T X (.BoolOp .Or (b :: rest) pos) g) : QW T X (.BoolOp .Or (a :: b :: rest) pos) (dOr f g) := by
  obtain ⟨t, hp, ht⟩ := h
  obtain ⟨u, hp2, hu⟩ := h2
  refine ⟨_, pw_or hp hp2, fun {Fr F H θ ρ ρ' σ z} s e Q q => ?_⟩
  unfold dOr at e
  split at e
  · rename_i ρ1 e1
    cases e
    refine ht s e1 _ fun F1 H1 sF1 s1 => ?_
    rw [if_pos rfl]
    exact q F1 H1 sF1 s1
  · rename_i ρ1 e1
    refine ht s e1 _ fun F1 H1 sF1 s1 => ?_
    rw [if_neg Bool.false_ne_true]
    exact hu s1 e _ fun F2 H2 sF2 s2 => q F2 H2 (sF1.trans sF2) s2
  · cases e
theorem qt_w {e : Expr} {f : DT} (h : QW T X e f) : QT T X e f := by
  obtain ⟨t, hp, ht⟩ := h
  exact ⟨t, hp.pt, ht⟩
/-! .. as values -/
def dAndV (f : DT) (g : DD) : DD := fun ρ => match f ρ with
  | some (true, ρ1) => g ρ1
  | some (false, ρ1) => some (.bool false, ρ1)
  | none => none
def dOrV (f : DT) (g : DD) : DD := fun ρ => match f ρ with
  | some (true, ρ1) => some (.bool true, ρ1)
  | some (false, ρ1) => g ρ1
  | none => none
theorem qd_one {op : _} {a : Expr} {pos : Pos} {f : DD} (h : QD T X a f) : QD T X (.BoolOp op [a] pos) f := ⟨fun s e Q q => PE.we (pe_one we_pe) (h.run s e Q q)⟩
theorem qd_and {a b : Expr} {rest : List Expr} {pos : Pos} {f g : DD} (h : QD T X a f) (h2 : QD T X (.BoolOp .And (b :: rest) pos) g) : QD T X (.BoolOp .And (a :: b :: rest) pos) (dAndV (dTB f) g) := ⟨fun {Fr F H θ ρ ρ' σ z} s e Q q => by
  have key : ∀ {bb : Bool} {ρ1 : Sl}, dTB f ρ = some (bb, ρ1) → f ρ = some (.bool bb, ρ1) := fun {bb ρ1} e => by
    unfold dTB at e
    split at e
    · rename_i b1 ρ2 e1; cases e; exact e1
    · cases e
  refine PE.we (pe_and we_pe we_pe) ?_
  unfold dAndV at e
  split at e
  · rename_i ρ1 e1
    refine h.run s (key e1) _ fun F1 H1 v1 sF1 s1 r1 => ?_
    obtain rfl := r1.blV
    refine ⟨_, rfl, ?_⟩
    rw [if_pos rfl]
    exact h2.run s1 e Q fun F2 H2 v2 sF2 s2 => q F2 H2 v2 (sF1.trans sF2) s2
  · rename_i ρ1 e1
    cases e
    refine h.run s (key e1) _ fun F1 H1 v1 sF1 s1 r1 => ?_
    obtain rfl := r1.blV
    refine ⟨_, rfl, ?_⟩
    rw [if_neg Bool.false_ne_true]
    exact q F1 H1 _ sF1 s1 (.bl _)
  · cases e⟩
theorem qd_or {a b : Expr} {rest : List Expr} {pos : Pos} {f g : DD} (h : QD T X a f) (h2 : QD T X (.BoolOp .Or (b :: rest) pos) g) : QD T X (.BoolOp .Or (a :: b :: rest) pos) (dOrV (dTB f) g) := ⟨fun {Fr F H θ ρ ρ' σ z} s e Q q => by
  have key : ∀ {bb : Bool} {ρ1 : Sl}, dTB f ρ = some (bb, ρ1) → f ρ = some (.bool bb, ρ1) := fun {bb ρ1} e => by
    unfold dTB at e
    split at e
    · rename_i b1 ρ2 e1; cases e; exact e1
    · cases e
  refine PE.we (pe_or we_pe we_pe) ?_
  unfold dOrV at e
  split at e
  · rename_i ρ1 e1
    cases e
    refine h.run s (key e1) _ fun F1 H1 v1 sF1 s1 r1 => ?_
    obtain rfl := r1.blV
    refine ⟨_, rfl, ?_⟩
    rw [if_pos rfl]
    exact q F1 H1 _ sF1 s1 (.bl _)
  · rename_i ρ1 e1
    refine h.run s (key e1) _ fun F1 H1 v1 sF1 s1 r1 => ?_
    obtain rfl := r1.blV
    refine ⟨_, rfl, ?_⟩
    rw [if_neg Bool.false_ne_true]
    exact h2.run s1 e Q fun F2 H2 v2 sF2 s2 => q F2 H2 v2 (sF1.trans sF2) s2
  · cases e⟩
theorem qd_not {a : Expr} {pos : Pos} {f : DD} (h : QD T X a f) : QD T X (.UnaryOp .Not a pos) (dTV (dNot (dTB f))) := ⟨fun {Fr F H θ ρ ρ' σ z} s e Q q => by
  unfold dTV dNot dTB at e
  split at e
  · rename_i b ρ1 e0
    cases e
    split at e0
    · rename_i b1 ρ2 e1
      cases e0
      split at e1
      · rename_i b2 ρ3 e2
        cases e1
        refine PE.we (pe_not we_pe) ?_
        refine h.run s e2 _ fun F1 H1 v1 sF1 s1 r1 => ?_
        obtain rfl := r1.blV
        exact ⟨_, rfl, q F1 H1 _ sF1 s1 (.bl _)⟩
      · cases e1
    · cases e0
  · cases e⟩
/-! a if c else b -/
def dIfE (c : DT) (f g : DE) : DE := fun ρ => match c ρ with
  | some (true, ρ1) => f ρ1
  | some (false, ρ1) => g ρ1
  | none => none
theorem qe_if {c a b : Expr} {pos : Pos} {fc : DT} {fa fb : DE} (hc : QT T X c fc) (ha : QE T X a fa) (hb : QE T X b fb) : QE T X (.IfExp c a b pos) (dIfE fc fa fb) := ⟨fun {Fr F H θ ρ ρ' σ z} s e Q q => by
  obtain ⟨t, hp, ht⟩ := hc
  refine PE.we (pe_ifExp hp we_pe we_pe) ?_
  unfold dIfE at e
  split at e
  · rename_i ρ1 e1
    refine ht s e1 _ fun F1 H1 sF1 s1 => ?_
    rw [if_pos rfl]
    exact ha.run s1 e Q fun F2 H2 v2 sF2 s2 => q F2 H2 v2 (sF1.trans sF2) s2
  · rename_i ρ1 e1
    refine ht s e1 _ fun F1 H1 sF1 s1 => ?_
    rw [if_neg Bool.false_ne_true]
    exact hb.run s1 e Q fun F2 H2 v2 sF2 s2 => q F2 H2 v2 (sF1.trans sF2) s2
  · cases e⟩
end
end LQ
set_option Elab.async false
set_option autoImplicit false
set_option linter.all false
set_option maxRecDepth 100000
set_option maxHeartbeats 4000000
/-! LQ3: statements, loops, the call of a def, a def by its body, the shared look at owned things. -/
namespace LQ
open PySem PySem.Spec PyProof.Rows L2

section
variable {T : Addr → Prop} {X : Cx} {k : Nat} {pos : Pos}

/-! ### blocks -/
def sNil : DSt := fun ρ => some (.nx, ρ)
def sSeq (f g : DSt) : DSt := fun ρ => match f ρ with
  | some (.nx, ρ1) => g ρ1
  | some (.bk, ρ1) => some (.bk, ρ1)
  | some (.ct, ρ1) => some (.ct, ρ1)
  | some (.rt r, ρ1) => some (.rt r, ρ1)
  | none => none
theorem Post.mono {Fr F F' : Hp} {θ : Nat → Addr} {fl : Fl} {ρ' : Sl} {Dn : Ends} (e : Same F F') (h : Post T X Fr F θ fl ρ' Dn) : Post T X Fr F' θ fl ρ' Dn := by
  cases fl with
  | nx => exact fun F2 H2 σ2 s => h F2 H2 σ2 (e.trans s)
  | bk => exact fun F2 H2 σ2 s => h F2 H2 σ2 (e.trans s)
  | ct => exact fun F2 H2 σ2 s => h F2 H2 σ2 (e.trans s)
  | rt r => exact fun F2 H2 σ2 v s => h F2 H2 σ2 v (e.trans s)
theorem qss_nil : QSs T X [] sNil := ⟨fun {Fr F H θ ρ ρ' σ fl} s e Dn q => by
  cases e
  exact PSs.wss pss_nil (q F H σ (Same.refl F) s)⟩
theorem qss_cons {st : Stmt} {rest : List Stmt} {f g : DSt} (h1 : QS T X st f) (h2 : QSs T X rest g) : QSs T X (st :: rest) (sSeq f g) := ⟨fun {Fr F H θ ρ ρ' σ fl} s e Dn q => by
  refine PSs.wss (pss_cons ws_ps wss_pss) ?_
  show WS X st { Dn with nx := WSs X rest Dn } σ H
  unfold sSeq at e
  split at e
  · rename_i ρ1 e1
    exact h1.run s e1 _ fun F1 H1 σ1 sF s1 => h2.run s1 e Dn (q.mono sF)
  · rename_i ρ1 e1
    cases e
    exact h1.run s e1 _ q
  · rename_i ρ1 e1
    cases e
    exact h1.run s e1 _ q
  · rename_i r ρ1 e1
    cases e
    exact h1.run s e1 _ q
  · cases e⟩
theorem qss_one {st : Stmt} {f : DSt} (h1 : QS T X st f) : QSs T X [st] f := ⟨fun s e Dn q => PSs.wss (pss_one ws_ps) (h1.run s e Dn q)⟩

/-! ### small statements -/
def sPass : DSt := fun ρ => some (.nx, ρ)
def sBreak : DSt := fun ρ => some (.bk, ρ)
def sCont : DSt := fun ρ => some (.ct, ρ)
theorem qs_pass : QS T X (.Pass pos) sPass := ⟨fun {Fr F H θ ρ ρ' σ fl} s e Dn q => by
  cases e; exact PS.ws ps_pass (q F H σ (Same.refl F) s)⟩
theorem qs_break : QS T X (.Break pos) sBreak := ⟨fun {Fr F H θ ρ ρ' σ fl} s e Dn q => by
  cases e; exact PS.ws ps_break (q F H σ (Same.refl F) s)⟩
theorem qs_continue : QS T X (.Continue pos) sCont := ⟨fun {Fr F H θ ρ ρ' σ fl} s e Dn q => by
  cases e; exact PS.ws ps_continue (q F H σ (Same.refl F) s)⟩
def sExpr (f : DE) : DSt := fun ρ => match f ρ with
  | some (_, ρ1) => some (.nx, ρ1)
  | none => none
theorem qs_expr {e : Expr} {f : DE} (h : QE T X e f) (hs : swapsWith e none pos.line X.env = pure false := by rfl) : QS T X (.Expr e pos) (sExpr f) := ⟨fun {Fr F H θ ρ ρ' σ fl} s e Dn q => by
  unfold sExpr at e
  split at e
  · rename_i r ρ1 e1
    cases e
    exact PS.ws (ps_expr we_pe hs) (h.run s e1 _ fun F1 H1 v sF s1 _ => q F1 H1 σ sF s1)
  · cases e⟩
def sRet (f : DE) : DSt := fun ρ => match f ρ with
  | some (r, ρ1) => some (.rt r, ρ1)
  | none => none
theorem qs_ret {e : Expr} {f : DE} (h : QE T X e f) : QS T X (.Return (some e) pos) (sRet f) := ⟨fun {Fr F H θ ρ ρ' σ fl} s e Dn q => by
  unfold sRet at e
  split at e
  · rename_i r ρ1 e1
    cases e
    exact PS.ws (ps_ret we_pe) (h.run s e1 _ fun F1 H1 v sF s1 rv => q F1 H1 σ v sF s1 rv)
  · cases e⟩
def sRetN : DSt := fun ρ => some (.rt (.dat .none), ρ)
theorem qs_retN : QS T X (.Return none pos) sRetN := ⟨fun {Fr F H θ ρ ρ' σ fl} s e Dn q => by
  cases e; exact PS.ws ps_retN (q F H σ .non (Same.refl F) s .non)⟩
def sIf (c : DT) (f g : DSt) : DSt := fun ρ => match c ρ with
  | some (true, ρ1) => f ρ1
  | some (false, ρ1) => g ρ1
  | none => none
theorem qs_if {c : Expr} {a b : List Stmt} {fc : DT} {f g : DSt} (hc : QT T X c fc) (ha : QSs T X a f) (hb : QSs T X b g) : QS T X (.If c a b pos) (sIf fc f g) := ⟨fun {Fr F H θ ρ ρ' σ fl} s e Dn q => by
  obtain ⟨t, hp, ht⟩ := hc
  refine PS.ws (ps_if hp wss_pss wss_pss) ?_
  unfold sIf at e
  split at e
  · rename_i ρ1 e1
    refine ht s e1 _ fun F1 H1 sF s1 => ?_
    rw [if_pos rfl]
    exact ha.run s1 e Dn (q.mono sF)
  · rename_i ρ1 e1
    refine ht s e1 _ fun F1 H1 sF s1 => ?_
    rw [if_neg Bool.false_ne_true]
    exact hb.run s1 e Dn (q.mono sF)
  · cases e⟩
/-- name = value -/
def sSet (i : Nat) (f : DE) : DSt := fun ρ => match f ρ with
  | some (r, ρ1) => some (.nx, ρ1.set i (some r))
  | none => none
theorem qs_set (i : Nat) {x : Str} {e : Expr} {pos' : Pos} {f : DE} (c : CO X k) (h : QE T X e f) (hi : X.N[i]? = some x := by rfl) (hx : Loc X.env.scope x := by first | exact Or.inl rfl | exact Or.inr rfl) (hs : swapsWith e (some (.Name x pos')) pos.line X.env = pure false := by rfl)
    (hf : X.fn x = true ∨ X.env.scope.names.lookup x = some .local := by first | exact .inl rfl | exact .inr rfl) : QS T X (.Assign [.Name x pos'] e pos) (sSet i f) := ⟨fun {Fr F H θ ρ ρ' σ fl} s e Dn q => WS.len fun hl => by
  unfold sSet at e
  split at e
  · rename_i r ρ1 e1
    cases e
    refine PS.ws (ps_set c.nd hi hx we_pe hs hf) ?_
    refine h.run s e1 _ fun F1 H1 v sF s1 rv => ?_
    exact q F1 H1 _ sF (s1.store i rv (by rw [hl]; exact (List.getElem?_eq_some_iff.mp hi).1))
  · cases e⟩
/-- name += value (ints) -/
def sAug (i : Nat) (f : DD) : DSt := fun ρ => match ρ[i]? with
  | some (some (.dat (.int a))) => match f ρ with
    | some (.int b, ρ1) => some (.nx, ρ1.set i (some (.dat (.int (a + b)))))
    | _ => none
  | _ => none
theorem qs_aug (i : Nat) {x : Str} {e : Expr} {pos' : Pos} {f : DD} (c : CO X k) (h : QD T X e f) (hi : X.N[i]? = some x := by rfl) (hx : Loc X.env.scope x := by first | exact Or.inl rfl | exact Or.inr rfl)
    (hf : X.fn x = true ∨ X.env.scope.names.lookup x = some .local := by first | exact .inl rfl | exact .inr rfl) : QS T X (.AugAssign (.Name x pos') .Add e pos) (sAug i f) := ⟨fun {Fr F H θ ρ ρ' σ fl} s e Dn q => WS.len fun hl => by
  unfold sAug at e
  split at e
  · rename_i a e0
    split at e
    · rename_i b ρ1 e1
      cases e
      obtain ⟨v0, hv0, r0⟩ := s.sl i _ e0
      obtain rfl : v0 = .int a := Rp.intV r0
      refine PS.ws (ps_aug c.nd hi hx we_pe ip_add hf) ⟨_, hv0, ?_⟩
      refine h.run s e1 _ fun F1 H1 v sF s1 rv => ?_
      obtain rfl := rv.intV
      refine ⟨a, b, rfl, rfl, ?_⟩
      exact q F1 H1 _ sF (s1.store i (r := .dat (.int (a + b))) (.int (a + b)) (by rw [hl]; exact (List.getElem?_eq_some_iff.mp hi).1))
    · cases e
  · cases e⟩

/-! ### targets; PY: a tuple that is read at once -/
def PY (X : Cx) (F : Hp) (v : V) (d : D) : Prop := ∃ a xs ds, v = .ref a ∧ d = .tuple ds ∧ SqT X.K F a xs ∧ RpA X.prog X.w X.K F xs ds
structure QGt (T : Addr → Prop) (X : Cx) (R : Hp → V → D → Prop) (tg : Expr) (ts : List Nat) (g : D → Sl → Option Sl) : Prop where
  run : ∀ {Fr F H : Hp} {θ : Nat → Addr} {ρ ρ' : Sl} {σ : L2.St} {d : D} {v : V}, SX X T Fr F H θ ρ σ → R F v d → g d ρ = some ρ' → ∀ Q : L2.St → Hp → Prop,
    (∀ σ', (∀ j, j ∉ ts → σ'[j]? = σ[j]?) → σ'.length = σ.length → SX X T Fr F H θ ρ' σ' → Q σ' H) → WG X tg v σ H Q
structure QGs (T : Addr → Prop) (X : Cx) (tgs : List Expr) (ts : List Nat) (g : List D → Sl → Option Sl) : Prop where
  run : ∀ {Fr F H : Hp} {θ : Nat → Addr} {ρ ρ' : Sl} {σ : L2.St} {ds : List D} {vs : List V}, SX X T Fr F H θ ρ σ → RpA X.prog X.w X.K F vs ds → g ds ρ = some ρ' → ∀ Q : L2.St → Hp → Prop,
    (∀ σ', (∀ j, j ∉ ts → σ'[j]? = σ[j]?) → σ'.length = σ.length → SX X T Fr F H θ ρ' σ' → Q σ' H) →
    ∀ (pins : List (Addr × Obj)) (s : Shared) (us : List Value), Inv X pins σ H s → Vals vs us →
    wpAny (model X.prog X.w) X.A (assignInOrder ((assignEach tgs X.env).map (·.2)) us) (fun _ s' => ∃ σ' H', Inv X pins σ' H' s' ∧ Q σ' H') X.xe s
def gN (i : Nat) : D → Sl → Option Sl := fun d ρ => some (ρ.set i (some (.dat d)))
theorem qg_name (i : Nat) {x : Str} (c : CO X k) (hi : X.N[i]? = some x := by rfl) (hx : Loc X.env.scope x := by first | exact Or.inl rfl | exact Or.inr rfl)
    (hf : X.fn x = true ∨ X.env.scope.names.lookup x = some .local := by first | exact .inl rfl | exact .inr rfl) : QGt T X (PX X) (.Name x pos) [i] (gN i) := ⟨fun {Fr F H θ ρ ρ' σ d v} s r e Q q => WG.len fun hl => by
  cases e
  refine PG.wg (pg_name c.nd hi hx hf) ?_
  refine q _ (fun j hj => ?_) (List.length_set ..) (s.store i (r := .dat d) r (by rw [hl]; exact (List.getElem?_eq_some_iff.mp hi).1))
  exact List.getElem?_set_ne fun z => hj (by rw [z]; exact List.mem_singleton.mpr rfl)⟩
def gNil : List D → Sl → Option Sl
  | [], ρ => some ρ
  | _ :: _, _ => none
def gCons (g : D → Sl → Option Sl) (gs : List D → Sl → Option Sl) : List D → Sl → Option Sl
  | [], _ => none
  | d :: ds, ρ => match g d ρ with
    | some ρ1 => gs ds ρ1
    | none => none
theorem qgs_nil : QGs T X [] [] gNil := ⟨fun {Fr F H θ ρ ρ' σ ds vs} s r e Q q pins s0 us I rv => by
  cases r with
  | cons _ _ => cases e
  | nil =>
    cases e
    cases rv
    exact assignInOrder_nil ⟨σ, H, I, q σ (fun _ _ => rfl) rfl s⟩⟩
theorem qgs_cons {tg : Expr} {tgs : List Expr} {t1 t2 : List Nat} {g : D → Sl → Option Sl} {gs : List D → Sl → Option Sl} (h1 : QGt T X (PX X) tg t1 g) (h2 : QGs T X tgs t2 gs)
    (hs : (assignEach (tg :: tgs) X.env).map (·.2) = assign tg X.env :: (assignEach tgs X.env).map (·.2) := by rfl) : QGs T X (tg :: tgs) (t1 ++ t2) (gCons g gs) := ⟨fun {Fr F H θ ρ ρ' σ ds vs} s r e Q q pins s0 us I rv => by
  cases r with
  | nil => cases e
  | cons r1 rr =>
    simp only [gCons] at e
    split at e
    · rename_i ρ1 e1
      cases rv with
      | cons w1 ww =>
        rw [hs]
        refine assignInOrder_cons (thn (h1.run s r1 e1 (fun σ1 H1 => H1 = H ∧ (∀ j, j ∉ t1 → σ1[j]? = σ[j]?) ∧ σ1.length = σ.length ∧ SX X T Fr F H θ ρ1 σ1) (fun σ1 a b c => ⟨rfl, a, b, c⟩) pins s0 _ I w1) fun _ s1 ⟨σ1, H1, I1, q1⟩ => ?_)
        obtain ⟨rfl, a1, b1, c1⟩ := q1
        refine h2.run c1 rr e Q (fun σ2 a2 b2 c2 => q σ2 (fun j hj => ?_) (b2.trans b1) c2) pins s1 _ I1 ww
        rw [List.mem_append] at hj
        exact (a2 j fun z => hj (.inr z)).trans (a1 j fun z => hj (.inl z))
    · cases e⟩
def gT (n : Nat) (gs : List D → Sl → Option Sl) : D → Sl → Option Sl
  | .tuple ds, ρ => if ds.length = n then gs ds ρ else none
  | _, _ => none
theorem qg_tup {tgs : List Expr} {kk n : Nat} {ts : List Nat} {gs : List D → Sl → Option Sl} (c : CO X k) (h : QGs T X tgs ts gs)
    (hn : (assignEach tgs X.env).length = n := by rfl) (hst : (assignEach tgs X.env).findIdx? (·.1) = none := by rfl) : QGt T X (PY X) (.Tuple tgs kk pos) ts (gT n gs) := ⟨fun {Fr F H θ ρ ρ' σ d v} s r e Q q => by
  obtain ⟨a, xs, ds, rfl, rfl, hq, ra⟩ := r
  unfold gT at e
  simp only at e
  split at e
  · rename_i hl
    refine PG.wg (pg_tup (t := fun vs σ1 H1 Q1 => vs = xs ∧ σ1 = σ ∧ H1 = H ∧ Q1 = Q) c.calm ⟨fun pins s0 σ1 H1 vs us Q1 I rv ht => ?_⟩ hn hst) ⟨a, xs, rfl, ?_, ra.length.trans hl, rfl, rfl, rfl, rfl⟩
    · obtain ⟨rfl, rfl, rfl, rfl⟩ := ht
      exact h.run s ra e _ q pins s0 us I rv
    · rcases hq with (z | ⟨o, z⟩) | z
      · exact .inl (.inl (s.fh _ _ z))
      · exact .inl (.inr ⟨o, s.fh _ _ z⟩)
      · exact .inr z
  · cases e⟩
theorem QGt.rp {tg : Expr} {ts : List Nat} {n : Nat} {gs : List D → Sl → Option Sl} (h : QGt T X (PY X) tg ts (gT n gs)) : QGt T X (PX X) tg ts (gT n gs) := ⟨fun {Fr F H θ ρ ρ' σ d v} s r e Q q => by
  cases d with
  | tuple ds =>
    obtain ⟨a, xs, rfl, h1, h2⟩ := r.tupV
    exact h.run s ⟨a, xs, ds, rfl, rfl, h1.sq, h2⟩ e Q q
  | _ => cases e⟩
/-- a, b = value -/
def sAsg (f : DD) (g : D → Sl → Option Sl) : DSt := fun ρ => match f ρ with
  | some (d, ρ1) => match g d ρ1 with
    | some ρ2 => some (.nx, ρ2)
    | none => none
  | none => none
theorem qs_asg {tg e : Expr} {ts : List Nat} {f : DD} {g : D → Sl → Option Sl} (h : QD T X e f) (hg : QGt T X (PX X) tg ts g) (hs : swapsWithSole [tg] e pos.line X.env = pure false := by rfl) (hw : swappedStores [tg] e X.env = pure none := by rfl)
    (h1 : (assignEach [tg] X.env).map (·.2) = [assign tg X.env] := by rfl) : QS T X (.Assign [tg] e pos) (sAsg f g) := ⟨fun {Fr F H θ ρ ρ' σ fl} s e Dn q => by
  unfold sAsg at e
  split at e
  · rename_i d ρ1 e1
    split at e
    · rename_i ρ2 e2
      cases e
      refine PS.ws (ps_asg we_pe wg_pg hs hw h1) ?_
      refine h.run s e1 _ fun F1 H1 v sF s1 rv => ?_
      exact hg.run s1 rv e2 _ fun σ2 _ _ s2 => q F1 H1 σ2 sF s2
    · cases e
  · cases e⟩

/-! ### for -/
def FeedR (T : Addr → Prop) (X : Cx) (R : Hp → V → D → Prop) (F : Hp) (J : It) (ds : List D) : Prop := ∀ {Fr F1 H : Hp} {θ : Nat → Addr} {ρ : Sl} {σ : L2.St} (i : Nat), Same F F1 → SX X T Fr F1 H θ ρ σ →
  (∀ d, ds[i]? = some d → J.go i H ∧ ∀ x H', J.yld i H x H' → ∃ F', Same F1 F' ∧ SX X T Fr F' H' θ ρ σ ∧ R F' x d) ∧ (ds.length ≤ i → J.stop i H)
structure QIt (T : Addr → Prop) (X : Cx) (R : Hp → V → D → Prop) (tg iter : Expr) (f : DI) : Prop where
  run : ∀ {Fr F H : Hp} {θ : Nat → Addr} {ρ ρ' : Sl} {σ : L2.St} {ds : List D}, SX X T Fr F H θ ρ σ → f ρ = some (ds, ρ') → ∀ Q : It → Hp → Prop,
    (∀ F' H' J, Same F F' → SX X T Fr F' H' θ ρ' σ → FeedR T X R F' J ds → Q J H') → WI X tg iter σ H Q
def sLoop (g : D → Sl → Option Sl) (body : DSt) : List D → DSt
  | [], ρ => some (.nx, ρ)
  | d :: ds, ρ => match g d ρ with
    | none => none
    | some ρ1 => match body ρ1 with
      | some (.nx, ρ2) => sLoop g body ds ρ2
      | some (.ct, ρ2) => sLoop g body ds ρ2
      | some (.bk, ρ2) => some (.nx, ρ2)
      | some (.rt r, ρ2) => some (.rt r, ρ2)
      | none => none
def sFor (src : DI) (g : D → Sl → Option Sl) (body : DSt) : DSt := fun ρ => match src ρ with
  | some (ds, ρ1) => sLoop g body ds ρ1
  | none => none
theorem qs_for {R : Hp → V → D → Prop} {tg iter : Expr} {body : List Stmt} {ts : List Nat} {src : DI} {g : D → Sl → Option Sl} {fb : DSt} (c : CO X k) (hi : QIt T X R tg iter src) (hg : QGt T X R tg ts g) (hb : QSs T X body fb)
    (hs : ∀ x, foldedSetIterable iter X.env x = pure x := by intro _; rfl) : QS T X (.For tg iter body [] pos) (sFor src g fb) := ⟨fun {Fr F H θ ρ ρ' σ fl} s e Dn q => by
  unfold sFor at e
  split at e
  · rename_i ds ρ0 e0
    refine PS.ws (ps_for c.own c.calm wi_pi wg_pg wss_pss hs) ?_
    refine hi.run s e0 _ fun F1 H1 J sF1 s1 feed => ?_
    refine ⟨fun i m σ2 H2 => m = ds.length - i ∧ i ≤ ds.length ∧ ∃ F2 ρ2, Same F1 F2 ∧ SX X T Fr F2 H2 θ ρ2 σ2 ∧ sLoop g fb (ds.drop i) ρ2 = some (fl, ρ'), ⟨ds.length, by simp, Nat.zero_le _, F1, ρ0, Same.refl F1, s1, by simpa using e⟩, ?_⟩
    rintro i m σ2 H2 ⟨rfl, hle, F2, ρ2, sF2, s2, e2⟩
    by_cases hlt : i < ds.length
    · obtain ⟨hgo, hy⟩ := (feed i sF2 s2).1 ds[i] (List.getElem?_eq_getElem hlt)
      rw [List.drop_eq_getElem_cons hlt] at e2
      refine .inr ⟨hgo, fun σ' H' => ∃ F3 ρ3, Same F1 F3 ∧ SX X T Fr F3 H' θ ρ3 σ' ∧ sLoop g fb (ds.drop (i + 1)) ρ3 = some (fl, ρ'), fun σ' H' ⟨F3, ρ3, a, b, c⟩ => ⟨ds.length - (i + 1), by omega, rfl, hlt, F3, ρ3, a, b, c⟩, fun x H' y => ?_⟩
      obtain ⟨F3, sF3, s3, rx⟩ := hy x H' y
      unfold sLoop at e2
      split at e2
      · cases e2
      · rename_i ρ3 e3
        refine hg.run s3 rx e3 _ fun σ3 _ _ s4 => ?_
        show WSs X body _ σ3 H'
        have up : Same F1 F3 := sF2.trans sF3
        split at e2
        · rename_i ρ4 e4
          exact hb.run s4 e4 _ fun F5 H5 σ5 sF5 s5 => ⟨F5, ρ4, up.trans sF5, s5, e2⟩
        · rename_i ρ4 e4
          exact hb.run s4 e4 _ fun F5 H5 σ5 sF5 s5 => ⟨F5, ρ4, up.trans sF5, s5, e2⟩
        · rename_i ρ4 e4
          cases e2
          exact hb.run s4 e4 _ fun F5 H5 σ5 sF5 s5 => q F5 H5 σ5 ((sF1.trans up).trans sF5) s5
        · rename_i r ρ4 e4
          cases e2
          exact hb.run s4 e4 _ fun F5 H5 σ5 v sF5 s5 rv => q F5 H5 σ5 v ((sF1.trans up).trans sF5) s5 rv
        · cases e2
    · have ei : i = ds.length := by omega
      subst ei
      rw [List.drop_length] at e2
      cases e2
      exact .inl ⟨(feed _ sF2 s2).2 (Nat.le_refl _), q F2 H2 σ2 (sF1.trans sF2) s2⟩
  · cases e⟩

/-! ### while -/
def sWhile (c : DT) (body : DSt) : Nat → DSt
  | 0, _ => none
  | n + 1, ρ => match c ρ with
    | none => none
    | some (false, ρ1) => some (.nx, ρ1)
    | some (true, ρ1) => match body ρ1 with
      | some (.nx, ρ2) => sWhile c body n ρ2
      | some (.ct, ρ2) => sWhile c body n ρ2
      | some (.bk, ρ2) => some (.nx, ρ2)
      | some (.rt r, ρ2) => some (.rt r, ρ2)
      | none => none
theorem qs_while (n : Nat) {c : Expr} {body : List Stmt} {fc : DT} {fb : DSt} (co : CO X k) (hc : QT T X c fc) (hb : QSs T X body fb) : QS T X (.While c body [] pos) (sWhile fc fb n) := ⟨fun {Fr F H θ ρ ρ' σ fl} s e Dn q => by
  obtain ⟨t, hp, ht⟩ := hc
  refine PS.ws (ps_while co.own hp wss_pss) ?_
  refine ⟨fun m σ2 H2 => ∃ F2 ρ2, Same F F2 ∧ SX X T Fr F2 H2 θ ρ2 σ2 ∧ sWhile fc fb m ρ2 = some (fl, ρ'), ⟨n, F, ρ, Same.refl F, s, e⟩, ?_⟩
  rintro m σ2 H2 ⟨F2, ρ2, sF2, s2, e2⟩
  cases m with
  | zero => cases e2
  | succ m =>
    unfold sWhile at e2
    split at e2
    · cases e2
    · rename_i ρ3 e3
      cases e2
      refine ht s2 e3 _ fun F3 H3 sF3 s3 => ?_
      rw [if_neg Bool.false_ne_true]
      exact q F3 H3 σ2 (sF2.trans sF3) s3
    · rename_i ρ3 e3
      refine ht s2 e3 _ fun F3 H3 sF3 s3 => ?_
      rw [if_pos rfl]
      have up := sF2.trans sF3
      refine ⟨fun σ' H' => ∃ F4 ρ4, Same F F4 ∧ SX X T Fr F4 H' θ ρ4 σ' ∧ sWhile fc fb m ρ4 = some (fl, ρ'), fun σ' H' ⟨F4, ρ4, a, b, c⟩ => ⟨m, Nat.lt_succ_self m, F4, ρ4, a, b, c⟩, ?_⟩
      show WSs X body _ σ2 H3
      split at e2
      · rename_i ρ4 e4
        exact hb.run s3 e4 _ fun F5 H5 σ5 sF5 s5 => ⟨F5, ρ4, up.trans sF5, s5, e2⟩
      · rename_i ρ4 e4
        exact hb.run s3 e4 _ fun F5 H5 σ5 sF5 s5 => ⟨F5, ρ4, up.trans sF5, s5, e2⟩
      · rename_i ρ4 e4
        cases e2
        exact hb.run s3 e4 _ fun F5 H5 σ5 sF5 s5 => q F5 H5 σ5 (up.trans sF5) s5
      · rename_i r ρ4 e4
        cases e2
        exact hb.run s3 e4 _ fun F5 H5 σ5 v sF5 s5 rv => q F5 H5 σ5 v (up.trans sF5) s5 rv
      · cases e2⟩

/-! ### a look at owned things: nothing of them is kept -/
def flat : D → Bool
  | .none => true
  | .bool _ => true
  | .int _ => true
  | .str _ => true
  | _ => false
def frz1 : Option SV → Option SV
  | some (.own _ o) => some (.dat o.fz)
  | x => x
def dShare (f : DD) : DD := fun ρ => match f (ρ.map frz1) with
  | some (d, _) => if flat d = true then some (d, ρ) else none
  | none => none
theorem frz1_dat {q : Option SV} {r : SV} (h : frz1 q = some r) : (∃ d, q = some (.dat d) ∧ r = .dat d) ∨ ∃ t o, q = some (.own t o) ∧ r = .dat o.fz := by
  cases q with
  | none => cases h
  | some s =>
    cases s with
    | dat d => cases h; exact .inl ⟨d, rfl, rfl⟩
    | own t o => cases h; exact .inr ⟨t, o, rfl, rfl⟩
theorem flat_rp {P : Program} {w : World} {K : PySem.W.Frag} {F F' : Hp} {v : V} {d : D} (h : flat d = true) (r : Rp P w K F v d) : Rp P w K F' v d := by
  cases r with
  | non => exact .non
  | bl b => exact .bl b
  | int i => exact .int i
  | str x => exact .str x
  | lst _ _ => cases h
  | tup _ _ => cases h
  | dct _ _ => cases h
open Classical in
theorem qd_share {e : Expr} {f : DD} (h : QD T X e f) : QD T X e (dShare f) := ⟨fun {Fr F H θ ρ ρ' σ d} s e Q q => by
  unfold dShare at e
  split at e
  · rename_i d1 ρ1 e1
    split at e
    · rename_i hfl
      cases e
      let F2 : Hp := fun a => if ∃ i, OwnsAt ρ σ i a then H a else F a
      have own2 : ∀ {i a}, OwnsAt ρ σ i a → F2 a = H a := fun {i a} ho => if_pos ⟨i, ho⟩
      have ownF : ∀ {i a}, OwnsAt ρ σ i a → F a = none ∧ Fr a = none ∧ ∃ o, OvAt X.prog X.w X.K F H a o := fun {i a} ⟨⟨t, o, h1⟩, h2⟩ => by
        obtain ⟨v, hv, p, e2, a1, a2, _, a4⟩ := s.sl i _ h1
        rw [h2] at hv
        cases hv
        cases e2
        exact ⟨a1, a2, o, a4⟩
      have sF2 : Same F F2 := fun a o e => by
        by_cases ho : ∃ i, OwnsAt ρ σ i a
        · obtain ⟨i, ho⟩ := ho
          rw [(ownF ho).1] at e
          cases e
        · show (if ∃ i, OwnsAt ρ σ i a then H a else F a) = some o
          rw [if_neg ho]
          exact e
      have s2 : SX X T Fr F2 H θ (ρ.map frz1) σ := by
        refine ⟨fun a o e => ?_, s.rh, fun a o e => ?_, fun a ha => ?_, fun i r hr => ?_, fun i j p ⟨⟨t, o, a1⟩, _⟩ => ?_⟩
        · by_cases ho : ∃ i, OwnsAt ρ σ i a
          · have e' : (if ∃ i, OwnsAt ρ σ i a then H a else F a) = some o := e
            rw [if_pos ho] at e'
            exact e'
          · have e' : (if ∃ i, OwnsAt ρ σ i a then H a else F a) = some o := e
            rw [if_neg ho] at e'
            exact s.fh _ _ e'
        · show (if ∃ i, OwnsAt ρ σ i a then H a else F a) = none
          by_cases ho : ∃ i, OwnsAt ρ σ i a
          · obtain ⟨i, ho⟩ := ho
            rw [(ownF ho).2.1] at e
            cases e
          · rw [if_neg ho]
            exact s.dj _ _ e
        · obtain ⟨t1, t2, t3⟩ := s.tb a ha
          refine ⟨?_, t2, t3⟩
          show (if ∃ i, OwnsAt ρ σ i a then H a else F a) = none
          by_cases ho : ∃ i, OwnsAt ρ σ i a
          · obtain ⟨i, ho⟩ := ho
            obtain ⟨_, _, o, ov⟩ := ownF ho
            exact (ov.notTab t3).elim
          · rw [if_neg ho]
            exact t1
        · rw [List.getElem?_map] at hr
          cases hq : ρ[i]? with
          | none => rw [hq] at hr; cases hr
          | some q0 =>
            rw [hq] at hr
            rcases frz1_dat (Option.some.inj hr) with ⟨d0, rfl, rfl⟩ | ⟨t, o, rfl, rfl⟩
            · obtain ⟨v, hv, r⟩ := s.sl i _ hq
              exact ⟨v, hv, Rp.mono sF2 r⟩
            · obtain ⟨v, hv, p, e2, a1, a2, a3, a4⟩ := s.sl i _ hq
              subst e2
              refine ⟨.ref p, hv, ?_⟩
              have hp : F2 p = H p := own2 ⟨⟨t, o, hq⟩, hv⟩
              cases o with
              | lst ds =>
                obtain ⟨xs, b1, b2⟩ := a4
                exact .lst (.inl (hp.trans b1)) (b2.mono sF2)
              | dct kvs =>
                obtain ⟨es, b1, b2⟩ := a4
                exact .dct (hp.trans b1) (b2.mono sF2)
        · rw [List.getElem?_map] at a1
          cases hq : ρ[i]? with
          | none => rw [hq] at a1; cases a1
          | some q0 =>
            rw [hq] at a1
            rcases frz1_dat (Option.some.inj a1) with ⟨d0, _, z⟩ | ⟨t, o, _, z⟩ <;> cases z
      refine h.run s2 e1 Q fun F3 H3 v sF3 s3 rv => ?_
      refine q F H3 v (Same.refl F) ⟨fun a o e => s3.fh _ _ (sF3 _ _ (sF2 _ _ e)), s3.rh, s.dj, fun a ha => ⟨(s.tb a ha).1, (s.tb a ha).2.1, (s3.tb a ha).2.2⟩, fun i r hr => ?_, s.ij⟩ (flat_rp hfl rv)
      obtain ⟨v0, hv, r0⟩ := s.sl i r hr
      refine ⟨v0, hv, ?_⟩
      cases r with
      | dat d0 => exact r0
      | own t o =>
        obtain ⟨p, e2, a1, a2, a3, a4⟩ := r0
        subst e2
        refine ⟨p, rfl, a1, a2, a3, a4.at ?_⟩
        obtain ⟨u, hu⟩ := a4.there
        have hp : F2 p = some u := (own2 ⟨⟨t, o, hr⟩, hv⟩).trans hu
        rw [hu]
        exact s3.fh _ _ (sF3 _ _ hp)
    · cases e
  · cases e⟩
end

/-! ### what a def promises -/
/-- the arguments: data, or what is lent (tagged by its place) -/
def ArgTags (as : List SV) : Prop := ∀ (j : Nat) (t : Nat) (o : OV), as[j]? = some (.own t o) → t = j + 1
def spQ (P : Program) (w : World) (K : PySem.W.Frag) (T : Addr → Prop) (n : Nat) (g : List SV → Option (SV × List SV)) : Sp := fun vs H Q _ => ∃ Fr F θ as r as', vs.length = n ∧ as.length = n ∧ Stt P w K T Fr F H θ (as.map some) (vs.map some) ∧ ArgTags as ∧ g as = some (r, as') ∧
  ∀ F' H' v, Same F F' → Stt P w K T Fr F' H' θ (as'.map some) (vs.map some) → RepR P w K Fr F' H' θ (as'.map some) (vs.map some) r v → Q v H'
def outs : Nat → List SV → Sl → Option (List SV)
  | _, [], _ => some []
  | j, .dat d :: as, ρ => match outs (j + 1) as ρ with
    | some l => some (.dat d :: l)
    | none => none
  | j, .own _ _ :: as, ρ => match ρ[j]? with
    | some (some (.own t o)) => if t = j + 1 then match outs (j + 1) as ρ with
        | some l => some (.own t o :: l)
        | none => none
      else none
    | _ => none
/-- a def's denotation by its body's -/
def dFun (m : Nat) (body : DSt) (as : List SV) : Option (SV × List SV) := match body (as.map some ++ List.replicate (m - as.length) none) with
  | some (.rt r, ρ) => match outs 0 as ρ with
    | some l => some (r, l)
    | none => none
  | some (.nx, ρ) => match outs 0 as ρ with
    | some l => some (.dat .none, l)
    | none => none
  | _ => none
theorem outs_get : ∀ {as l : List SV} {j : Nat} {ρ : Sl}, outs j as ρ = some l → l.length = as.length ∧ ∀ (i : Nat), (∀ (d : D), as[i]? = some (.dat d) → l[i]? = some (.dat d)) ∧
    (∀ (t : Nat) (o : OV), as[i]? = some (.own t o) → ∃ o', ρ[j + i]? = some (some (.own (j + i + 1) o')) ∧ l[i]? = some (.own (j + i + 1) o'))
  | [], l, j, ρ, e => by
    cases e
    exact ⟨rfl, fun i => ⟨fun d h => by simp at h, fun t o h => by simp at h⟩⟩
  | .dat d0 :: as, l, j, ρ, e => by
    unfold outs at e
    split at e
    · rename_i l' e1
      cases e
      obtain ⟨h1, h2⟩ := outs_get e1
      refine ⟨by simp [h1], fun i => ?_⟩
      cases i with
      | zero => exact ⟨fun d h => by simpa using h, fun t o h => by simp at h⟩
      | succ i =>
        have := h2 i
        rw [show j + 1 + i = j + (i + 1) by omega] at this
        simpa using this
    · cases e
  | .own t0 o0 :: as, l, j, ρ, e => by
    unfold outs at e
    split at e
    · rename_i t o eρ
      split at e
      · rename_i ht
        split at e
        · rename_i l' e1
          cases e
          subst ht
          obtain ⟨h1, h2⟩ := outs_get e1
          refine ⟨by simp [h1], fun i => ?_⟩
          cases i with
          | zero => exact ⟨fun d h => by simp at h, fun t o2 h => ⟨o, by simpa using eρ, rfl⟩⟩
          | succ i =>
            have := h2 i
            rw [show j + 1 + i = j + (i + 1) by omega] at this
            simpa using this
        · cases e
      · cases e
    · cases e
theorem get_map_some {α : Type} {l : List α} {i : Nat} {a : α} : (l.map some)[i]? = some (some a) ↔ l[i]? = some a := by
  rw [List.getElem?_map]
  cases l[i]? with
  | none => simp
  | some b => simp
theorem get_pad {as : List SV} {m i : Nat} {a : SV} (h : (as.map some ++ List.replicate m none)[i]? = some (some a)) : as[i]? = some a := by
  by_cases hi : i < as.length
  · rw [List.getElem?_append_left (by simpa using hi)] at h
    exact get_map_some.mp h
  · rw [List.getElem?_append_right (by simpa using hi), List.getElem?_replicate] at h
    split at h <;> cases h
theorem fn_q {P : Program} {w : World} {K : PySem.W.Frag} {mg : Str → Option Value} {base : Heap} {x qual : Str} {st : Stmt} {f : Addr} {fd : FuncData} {N ps : List Str} {k : Nat} {T : Addr → Prop} {body : DSt} (F : Fun K x qual st f fd) (S : FnScope N ps (defScope st)) (m : Nat) (hm : N.length = m)
    (hb : ∀ (cdv : Value) (A : Around) (outer : List Env) (s : Shared) (H : Hp) (E : XK), CO (cxOf CX0 P w K mg base N qual (defScope st) f cdv A outer s H E).nox k → QSs T (cxOf CX0 P w K mg base N qual (defScope st) f cdv A outer s H E).nox (defBody st) body) :
    FnOk P w K mg base CX0 (k + 1) f fd ps (spQ P w K T ps.length (dFun m body)) := by
  subst hm
  refine F.ok S (fun vs H Q E h => ?_) (fun cdv A outer s H vs Q E hr h => ?_)
  · obtain ⟨_, _, _, _, _, _, hl, _⟩ := h
    exact hl
  · obtain ⟨Fr, F0, θ, as, r, as', hl, hla, st0, tg, e, q⟩ := h
    have co : CO (cxOf CX0 P w K mg base N qual (defScope st) f cdv A outer s H E).nox k := ⟨rfl, S.nd, hr, rfl⟩
    refine ⟨_, wss_pss, ?_⟩
    have s1 : SX (cxOf CX0 P w K mg base N qual (defScope st) f cdv A outer s H E).nox T Fr F0 H θ (as.map some ++ List.replicate (N.length - as.length) none) (L2.start N vs) := by
      have back : ∀ i p, OwnsAt (as.map some ++ List.replicate (N.length - as.length) none) (L2.start N vs) i p → OwnsAt (as.map some) (vs.map some) i p := fun i p ⟨⟨t, o, a⟩, b⟩ => by
        have a' := get_pad a
        have hi : i < vs.length := by
          have := (List.getElem?_eq_some_iff.mp a').1
          omega
        refine ⟨⟨t, o, get_map_some.mpr a'⟩, ?_⟩
        unfold L2.start at b
        rw [List.getElem?_append_left (by simpa using hi)] at b
        exact b
      refine ⟨st0.fh, st0.rh, st0.dj, st0.tb, fun i r hr => ?_, fun i j p a b => st0.ij i j p (back i p a) (back j p b)⟩
      have hr' := get_pad hr
      obtain ⟨v, hv, rv⟩ := st0.sl i r (get_map_some.mpr hr')
      have hi : i < vs.length := (List.getElem?_eq_some_iff.mp (get_map_some.mp hv)).1
      refine ⟨v, ?_, rv⟩
      unfold L2.start
      rw [List.getElem?_append_left (by simpa using hi)]
      exact hv
    -- the end
    have fin : ∀ {ρ' : Sl} {r0 : SV}, outs 0 as ρ' = some as' → r0 = r → ∀ F' H' σ' v, Same F0 F' → Stt P w K T Fr F' H' θ ρ' σ' → RepR P w K Fr F' H' θ ρ' σ' r0 v → Q v H' := by
      rintro ρ' r0 ho rfl F' H' σ' v sF s2 rv
      obtain ⟨hlo, hg⟩ := outs_get ho
      have kind : ∀ (i : Nat), (∃ d, as[i]? = some (.dat d) ∧ as'[i]? = some (.dat d)) ∨ (∃ o o', as[i]? = some (.own (i + 1) o) ∧ as'[i]? = some (.own (i + 1) o') ∧ ρ'[i]? = some (some (.own (i + 1) o'))) ∨ (as[i]? = none ∧ as'[i]? = none) := fun i => by
        cases hi : as[i]? with
        | none =>
          refine .inr (.inr ⟨rfl, ?_⟩)
          rw [List.getElem?_eq_none_iff] at hi ⊢
          omega
        | some a =>
          cases a with
          | dat d => exact .inl ⟨d, rfl, (hg i).1 d hi⟩
          | own t o =>
            obtain ⟨o', h1, h2⟩ := (hg i).2 t o hi
            have ht := tg i t o hi
            subst ht
            rw [Nat.zero_add] at h1 h2
            exact .inr (.inl ⟨o, o', rfl, h2, h1⟩)
      have mine : ∀ i p, OwnsAt (as'.map some) (vs.map some) i p → OwnsAt (as.map some) (vs.map some) i p ∧ OwnsAt ρ' σ' i p := fun i p ⟨⟨t, o, a⟩, b⟩ => by
        have a' := get_map_some.mp a
        rcases kind i with ⟨d, _, z⟩ | ⟨o1, o2, z1, z2, z3⟩ | ⟨_, z⟩
        · rw [z] at a'; cases a'
        · refine ⟨⟨⟨_, _, get_map_some.mpr z1⟩, b⟩, ⟨_, _, z3⟩, ?_⟩
          obtain ⟨v1, hv1, p1, e1, _, _, t1, _⟩ := st0.sl i _ (get_map_some.mpr z1)
          obtain ⟨v2, hv2, p2, e2, _, _, t2, _⟩ := s2.sl i _ z3
          rw [b] at hv1
          cases hv1
          cases e1
          subst e2
          have e3 : p2 = p := (t2 (Nat.succ_ne_zero i)).trans (t1 (Nat.succ_ne_zero i)).symm
          rw [e3] at hv2
          exact hv2
        · rw [z] at a'; cases a'
      refine q F' H' v sF ⟨s2.fh, s2.rh, s2.dj, s2.tb, fun i r1 hr1 => ?_, fun i j p a b => st0.ij i j p (mine i p a).1 (mine j p b).1⟩ ?_
      · have hr1' := get_map_some.mp hr1
        rcases kind i with ⟨d, z1, z2⟩ | ⟨o1, o2, z1, z2, z3⟩ | ⟨_, z⟩
        · rw [z2] at hr1'
          cases hr1'
          obtain ⟨v1, hv1, rv1⟩ := st0.sl i _ (get_map_some.mpr z1)
          exact ⟨v1, hv1, Rp.mono sF rv1⟩
        · rw [z2] at hr1'
          cases hr1'
          obtain ⟨v1, hv1, p1, e1, _, _, t1, _⟩ := st0.sl i _ (get_map_some.mpr z1)
          obtain ⟨v2, hv2, p2, e2, b1, b2, t2, b4⟩ := s2.sl i _ z3
          have e3 : p2 = p1 := (t2 (Nat.succ_ne_zero i)).trans (t1 (Nat.succ_ne_zero i)).symm
          subst e3
          exact ⟨v1, hv1, p2, e1, b1, b2, t2, b4⟩
        · rw [z] at hr1'; cases hr1'
      · cases r0 with
        | dat d => exact rv
        | own t o =>
          obtain ⟨ht, p, e1, ho1, hn⟩ := rv
          exact ⟨ht, p, e1, ho1, fun i hi => hn i (mine i p hi).2⟩
    unfold dFun at e
    split at e
    · rename_i r1 ρ1 e1
      split at e
      · rename_i l e2
        cases e
        exact (hb cdv A outer s H E co).run s1 e1 _ fun F' H' σ' v sF s2 rv => fin e2 rfl F' H' σ' v sF s2 rv
      · cases e
    · rename_i ρ1 e1
      split at e
      · rename_i l e2
        cases e
        exact (hb cdv A outer s H E co).run s1 e1 _ fun F' H' σ' sF s2 => fin e2 rfl F' H' σ' .non sF s2 .non
      · cases e
    · cases e

/-! ### the call -/
def bors : List AV → List Nat
  | [] => []
  | .d _ :: l => bors l
  | .b i :: l => i :: bors l
def mkArgs : Nat → List AV → Sl → Option (List SV)
  | _, [], _ => some []
  | j, .d d :: l, ρ => match mkArgs (j + 1) l ρ with
    | some as => some (.dat d :: as)
    | none => none
  | j, .b i :: l, ρ => match ρ[i]? with
    | some (some (.own _ o)) => match mkArgs (j + 1) l ρ with
      | some as => some (.own (j + 1) o :: as)
      | none => none
    | _ => none
def putOuts : List AV → List SV → Sl → Option Sl
  | [], [], ρ => some ρ
  | .d _ :: l, _ :: as, ρ => putOuts l as ρ
  | .b i :: l, .own _ o :: as, ρ => match ρ[i]? with
    | some (some (.own t _)) => putOuts l as (ρ.set i (some (.own t o)))
    | _ => none
  | _, _, _ => none
def dCall (g : List SV → Option (SV × List SV)) (fa : DA) : DE := fun ρ => match fa ρ with
  | some (avs, ρ1) => if (bors avs).Nodup then match mkArgs 0 avs ρ1 with
      | some as => match g as with
        | some (r, as') => match putOuts avs as' ρ1 with
          | some ρ2 => some (r, ρ2)
          | none => none
        | none => none
      | none => none
    else none
  | none => none
theorem mkArgs_get : ∀ {avs : List AV} {as : List SV} {j : Nat} {ρ : Sl}, mkArgs j avs ρ = some as → as.length = avs.length ∧ ∀ (i : Nat), (∀ (d : D), avs[i]? = some (.d d) → as[i]? = some (.dat d)) ∧ (∀ (b : Nat), avs[i]? = some (.b b) → ∃ t o, ρ[b]? = some (some (.own t o)) ∧ as[i]? = some (.own (j + i + 1) o))
  | [], as, j, ρ, e => by
    cases e
    exact ⟨rfl, fun i => ⟨fun d h => by simp at h, fun b h => by simp at h⟩⟩
  | .d d0 :: l, as, j, ρ, e => by
    unfold mkArgs at e
    split at e
    · rename_i as1 e1
      cases e
      obtain ⟨h1, h2⟩ := mkArgs_get e1
      refine ⟨by simp [h1], fun i => ?_⟩
      cases i with
      | zero => exact ⟨fun d h => by simpa using h, fun b h => by simp at h⟩
      | succ i =>
        have := h2 i
        rw [show j + 1 + i + 1 = j + (i + 1) + 1 by omega] at this
        simpa using this
    · cases e
  | .b b0 :: l, as, j, ρ, e => by
    unfold mkArgs at e
    split at e
    · rename_i t o eb
      split at e
      · rename_i as1 e1
        cases e
        obtain ⟨h1, h2⟩ := mkArgs_get e1
        refine ⟨by simp [h1], fun i => ?_⟩
        cases i with
        | zero => exact ⟨fun d h => by simp at h, fun b h => ⟨t, o, by simp at h; subst h; exact eb, rfl⟩⟩
        | succ i =>
          have := h2 i
          rw [show j + 1 + i + 1 = j + (i + 1) + 1 by omega] at this
          simpa using this
      · cases e
    · cases e
theorem mem_bors {i : Nat} : ∀ {avs : List AV}, i ∈ bors avs ↔ ∃ j : Nat, avs[j]? = some (.b i)
  | [] => by simp [bors]
  | .d d :: l => by
    unfold bors
    rw [mem_bors (avs := l)]
    constructor
    · rintro ⟨j, h⟩; exact ⟨j + 1, by simpa using h⟩
    · rintro ⟨j, h⟩
      cases j with
      | zero => simp at h
      | succ j => exact ⟨j, by simpa using h⟩
  | .b b :: l => by
    unfold bors
    rw [List.mem_cons, mem_bors (avs := l)]
    constructor
    · rintro (rfl | ⟨j, h⟩)
      · exact ⟨0, rfl⟩
      · exact ⟨j + 1, by simpa using h⟩
    · rintro ⟨j, h⟩
      cases j with
      | zero => simp at h; exact .inl h.symm
      | succ j => exact .inr ⟨j, by simpa using h⟩
theorem bors_inj {b : Nat} : ∀ {avs : List AV}, (bors avs).Nodup → ∀ {i j : Nat}, avs[i]? = some (.b b) → avs[j]? = some (.b b) → i = j
  | [], _, i, j, h, _ => by simp at h
  | .d d :: l, nd, i, j, hi, hj => by
    cases i with
    | zero => simp at hi
    | succ i => cases j with
      | zero => simp at hj
      | succ j => rw [bors_inj (avs := l) nd (i := i) (j := j) (by simpa using hi) (by simpa using hj)]
  | .b b0 :: l, nd, i, j, hi, hj => by
    unfold bors at nd
    obtain ⟨n1, n2⟩ := List.nodup_cons.mp nd
    cases i with
    | zero =>
      simp at hi
      cases j with
      | zero => rfl
      | succ j => exact absurd (mem_bors.mpr ⟨j, by simpa using hj⟩) (hi ▸ n1)
    | succ i => cases j with
      | zero =>
        simp at hj
        exact absurd (mem_bors.mpr ⟨i, by simpa using hi⟩) (hj ▸ n1)
      | succ j => rw [bors_inj (avs := l) n2 (i := i) (j := j) (by simpa using hi) (by simpa using hj)]
theorem putOuts_get : ∀ {avs : List AV} {as : List SV} {ρ ρ' : Sl}, putOuts avs as ρ = some ρ' → (bors avs).Nodup → (∀ (i : Nat), i ∉ bors avs → ρ'[i]? = ρ[i]?) ∧ ∀ (j b : Nat), avs[j]? = some (.b b) → ∃ t o t1 o1, ρ[b]? = some (some (.own t o)) ∧ as[j]? = some (.own t1 o1) ∧ ρ'[b]? = some (some (.own t o1))
  | [], [], ρ, ρ', e, _ => by
    cases e
    exact ⟨fun _ _ => rfl, fun j b h => by simp at h⟩
  | [], _ :: _, ρ, ρ', e, _ => by cases e
  | .d d :: l, [], ρ, ρ', e, _ => by cases e
  | .d d :: l, a :: as, ρ, ρ', e, nd => by
    obtain ⟨h1, h2⟩ := putOuts_get (avs := l) (as := as) e nd
    refine ⟨h1, fun j b h => ?_⟩
    cases j with
    | zero => simp at h
    | succ j =>
      obtain ⟨t, o, t1, o1, a1, a2, a3⟩ := h2 j b (by simpa using h)
      exact ⟨t, o, t1, o1, a1, by simpa using a2, a3⟩
  | .b i :: l, [], ρ, ρ', e, _ => by cases e
  | .b i :: l, .dat d :: as, ρ, ρ', e, _ => by cases e
  | .b i :: l, .own t0 o0 :: as, ρ, ρ', e, nd => by
    unfold bors at nd
    obtain ⟨n1, n2⟩ := List.nodup_cons.mp nd
    unfold putOuts at e
    split at e
    · rename_i t o eb
      obtain ⟨h1, h2⟩ := putOuts_get (avs := l) (as := as) e n2
      have li : i < ρ.length := (List.getElem?_eq_some_iff.mp eb).1
      refine ⟨fun j hj => ?_, fun j b h => ?_⟩
      · unfold bors at hj
        rw [List.mem_cons, not_or] at hj
        rw [h1 j hj.2, List.getElem?_set_ne (Ne.symm hj.1)]
      · cases j with
        | zero =>
          simp at h
          subst h
          exact ⟨t, o, t0, o0, eb, rfl, by rw [h1 i n1, List.getElem?_set_self li]⟩
        | succ j =>
          have hb : l[j]? = some (.b b) := by simpa using h
          obtain ⟨t2, o2, t1, o1, a1, a2, a3⟩ := h2 j b hb
          have ne : i ≠ b := fun z => n1 (mem_bors.mpr ⟨j, by rw [z]; exact hb⟩)
          rw [List.getElem?_set_ne ne] at a1
          exact ⟨t2, o2, t1, o1, a1, by simpa using a2, a3⟩
    · cases e
theorem paired_at {α β : Type} {R : α → β → Prop} : ∀ {a : List α} {b : List β} {i : Nat} {x : α}, Paired R a b → a[i]? = some x → ∃ y, b[i]? = some y ∧ R x y
  | _, _, i, _, .nil, h => by simp at h
  | _, _, 0, _, .cons r _, h => by simp at h; subst h; exact ⟨_, rfl, r⟩
  | _, _, i + 1, _, .cons _ t, h => by
    obtain ⟨y, h1, h2⟩ := paired_at (i := i) t (by simpa using h)
    exact ⟨y, by simpa using h1, h2⟩
theorem paired_len {α β : Type} {R : α → β → Prop} : ∀ {a : List α} {b : List β}, Paired R a b → a.length = b.length
  | _, _, .nil => rfl
  | _, _, .cons _ t => by rw [List.length_cons, List.length_cons, paired_len t]
section
variable {T : Addr → Prop} {X : Cx} {k k' : Nat} {pos p : Pos}
open Classical in
theorem call_ok {Fr F H : Hp} {θ : Nat → Addr} {ρ ρ' : Sl} {σ : L2.St} {avs : List AV} {vs : List V} {n : Nat} {g : List SV → Option (SV × List SV)} {as as' : List SV} {r : SV} (s : SX X T Fr F H θ ρ σ) (hv : RpAvs X F σ avs vs) (nd : (bors avs).Nodup) (hn : avs.length = n)
    (e1 : mkArgs 0 avs ρ = some as) (e2 : g as = some (r, as')) (e3 : putOuts avs as' ρ = some ρ') (Q : VK) (q : ∀ F' H' v, Same F F' → SX X T Fr F' H' θ ρ' σ → RX X Fr F' H' θ ρ' σ r v → Q v H') (E : XK) : spQ X.prog X.w X.K T n g vs H Q E := by
  obtain ⟨la, ga⟩ := mkArgs_get e1
  obtain ⟨p1, p2⟩ := putOuts_get e3 nd
  have lv := paired_len hv
  let θ' : Nat → Addr := fun t => match vs[t - 1]? with
    | some (.ref a) => a
    | _ => 0
  let Fr' : Hp := fun a => if ∃ i, OwnsAt ρ σ i a ∧ i ∉ bors avs then H a else Fr a
  have ownF : ∀ {i a}, OwnsAt ρ σ i a → F a = none ∧ Fr a = none ∧ ∃ o, OvAt X.prog X.w X.K F H a o := fun {i a} ⟨⟨t, o, h1⟩, h2⟩ => by
    obtain ⟨v, hv, p, e2, a1, a2, _, a4⟩ := s.sl i _ h1
    rw [h2] at hv
    cases hv
    cases e2
    exact ⟨a1, a2, o, a4⟩
  have frO : ∀ {i a}, OwnsAt ρ σ i a → i ∉ bors avs → Fr' a = H a := fun h1 h2 => if_pos ⟨_, h1, h2⟩
  have frN : ∀ {a}, (¬ ∃ i, OwnsAt ρ σ i a ∧ i ∉ bors avs) → Fr' a = Fr a := fun h => if_neg h
  -- a lent argument
  have lent : ∀ (j : Nat) (o : OV) (t : Nat), as[j]? = some (.own t o) → ∃ b t0 a, avs[j]? = some (.b b) ∧ ρ[b]? = some (some (.own t0 o)) ∧ σ[b]? = some (some (.ref a)) ∧ vs[j]? = some (.ref a) ∧ t = j + 1 := fun j o t h => by
    have hj : j < avs.length := by rw [← la]; exact (List.getElem?_eq_some_iff.mp h).1
    cases hav : avs[j]? with
    | none => rw [List.getElem?_eq_none_iff] at hav; omega
    | some av =>
      cases av with
      | d d => rw [(ga j).1 d hav] at h; cases h
      | b b =>
        obtain ⟨t0, o0, z1, z2⟩ := (ga j).2 b hav
        rw [z2] at h
        cases h
        obtain ⟨v, hv1, p, e4, _⟩ := s.sl b _ z1
        subst e4
        obtain ⟨y, hy, ry⟩ := paired_at hv hav
        have ry' : σ[b]? = some (some y) := ry
        rw [hv1] at ry'
        cases ry'
        exact ⟨b, t0, p, rfl, z1, hv1, hy, by omega⟩
  have sub : Stt X.prog X.w X.K T Fr' F H θ' (as.map some) (vs.map some) := by
    refine ⟨s.fh, fun a o e => ?_, fun a o e => ?_, fun a ha => ?_, fun j r0 hr0 => ?_, fun j1 j2 p ⟨⟨t1, o1, a1⟩, b1⟩ ⟨⟨t2, o2, a2⟩, b2⟩ => ?_⟩
    · by_cases ho : ∃ i, OwnsAt ρ σ i a ∧ i ∉ bors avs
      · obtain ⟨i, h1, h2⟩ := ho
        rw [frO h1 h2] at e
        exact e
      · rw [frN ho] at e
        exact s.rh _ _ e
    · by_cases ho : ∃ i, OwnsAt ρ σ i a ∧ i ∉ bors avs
      · obtain ⟨i, h1, h2⟩ := ho
        exact (ownF h1).1
      · rw [frN ho] at e
        exact s.dj _ _ e
    · obtain ⟨t1, t2, t3⟩ := s.tb a ha
      refine ⟨t1, ?_, t3⟩
      by_cases ho : ∃ i, OwnsAt ρ σ i a ∧ i ∉ bors avs
      · obtain ⟨i, h1, h2⟩ := ho
        obtain ⟨_, _, o, ov⟩ := ownF h1
        exact (ov.notTab t3).elim
      · rw [frN ho]
        exact t2
    · have hr1 := get_map_some.mp hr0
      cases r0 with
      | dat d =>
        have hj : j < avs.length := by rw [← la]; exact (List.getElem?_eq_some_iff.mp hr1).1
        cases hav : avs[j]? with
        | none => rw [List.getElem?_eq_none_iff] at hav; omega
        | some av =>
          cases av with
          | d d' =>
            rw [(ga j).1 d' hav] at hr1
            cases hr1
            obtain ⟨y, hy, ry⟩ := paired_at hv hav
            exact ⟨y, get_map_some.mpr hy, ry⟩
          | b b =>
            obtain ⟨t0, o0, z1, z2⟩ := (ga j).2 b hav
            rw [z2] at hr1
            cases hr1
      | own t o =>
        obtain ⟨b, t0, a, h1, h2, h3, h4, rfl⟩ := lent j o t hr1
        obtain ⟨v, hv1, p, e4, k1, k2, k3, k4⟩ := s.sl b _ h2
        rw [h3] at hv1
        cases hv1
        cases e4
        refine ⟨.ref a, get_map_some.mpr h4, a, rfl, k1, ?_, fun _ => ?_, k4⟩
        · have : ¬ ∃ i, OwnsAt ρ σ i a ∧ i ∉ bors avs := fun ⟨i, z1, z2⟩ => by
            have : i = b := s.ij i b a z1 ⟨⟨_, _, h2⟩, h3⟩
            subst this
            exact z2 (mem_bors.mpr ⟨j, h1⟩)
          rw [frN this]
          exact k2
        · show a = match vs[j + 1 - 1]? with
            | some (.ref a) => a
            | _ => 0
          rw [Nat.add_sub_cancel, h4]
    · obtain ⟨c1, _, q1, y1, y2, y3, y4, _⟩ := lent j1 o1 t1 (get_map_some.mp a1)
      obtain ⟨c2, _, q2, x1, x2, x3, x4, _⟩ := lent j2 o2 t2 (get_map_some.mp a2)
      have b1' := get_map_some.mp b1
      have b2' := get_map_some.mp b2
      rw [y4] at b1'
      rw [x4] at b2'
      cases b1'
      cases b2'
      have : c1 = c2 := s.ij c1 c2 _ ⟨⟨_, _, y2⟩, y3⟩ ⟨⟨_, _, x2⟩, x3⟩
      subst this
      exact bors_inj nd y1 x1
  have tags : ArgTags as := fun j t o h => by
    obtain ⟨_, _, _, _, _, _, _, e⟩ := lent j o t h
    exact e
  refine ⟨Fr', F, θ', as, r, as', by omega, by omega, sub, tags, e2, fun F' H' v sF s' rv => ?_⟩
  -- the caller's state behind the call
  have owns2 : ∀ i a, OwnsAt ρ' σ i a → OwnsAt ρ σ i a := fun i a ⟨⟨t, o, h1⟩, h2⟩ => by
    by_cases hi : i ∈ bors avs
    · obtain ⟨j, hj⟩ := mem_bors.mp hi
      obtain ⟨t1, o1, t2, o2, z1, _, _⟩ := p2 j i hj
      exact ⟨⟨_, _, z1⟩, h2⟩
    · rw [p1 i hi] at h1
      exact ⟨⟨_, _, h1⟩, h2⟩
  have frK : ∀ a o, Fr a = some o → Fr' a = some o := fun a o e => by
    rw [frN fun ⟨i, z1, _⟩ => by rw [(ownF z1).2.1] at e; cases e]
    exact e
  have st2 : SX X T Fr F' H' θ ρ' σ := by
    refine ⟨s'.fh, fun a o e => s'.rh _ _ (frK a o e), fun a o e => s'.dj _ _ (frK a o e), fun a ha => ⟨(s'.tb a ha).1, (s.tb a ha).2.1, (s'.tb a ha).2.2⟩, fun i r0 hr0 => ?_, fun i j p a b => s.ij i j p (owns2 i p a) (owns2 j p b)⟩
    by_cases hi : i ∈ bors avs
    · obtain ⟨j, hj⟩ := mem_bors.mp hi
      obtain ⟨t1, o1, t2, o2, z1, z2, z3⟩ := p2 j i hj
      rw [z3] at hr0
      cases hr0
      obtain ⟨v1, hv1, a, e4, k1, k2, k3, k4⟩ := s.sl i _ z1
      subst e4
      obtain ⟨y, hy, ry⟩ := paired_at hv hj
      have ry' : σ[i]? = some (some y) := ry
      rw [hv1] at ry'
      cases ry'
      obtain ⟨v2, hv2, a2, e5, m1, m2, m3, m4⟩ := s'.sl j _ (get_map_some.mpr z2)
      rw [get_map_some.mpr hy] at hv2
      cases hv2
      cases e5
      exact ⟨.ref a, hv1, a, rfl, m1, k2, k3, m4⟩
    · rw [p1 i hi] at hr0
      obtain ⟨v1, hv1, rv1⟩ := s.sl i _ hr0
      refine ⟨v1, hv1, ?_⟩
      cases r0 with
      | dat d => exact Rp.mono sF rv1
      | own t o =>
        obtain ⟨a, e4, k1, k2, k3, k4⟩ := rv1
        subst e4
        obtain ⟨u, hu⟩ := k4.there
        have hF : Fr' a = some u := (frO ⟨⟨_, _, hr0⟩, hv1⟩ hi).trans hu
        refine ⟨a, rfl, s'.dj _ _ hF, k2, k3, (k4.monoF sF).at ?_⟩
        rw [hu]
        exact s'.rh _ _ hF
  refine q F' H' v sF st2 ?_
  cases r with
  | dat d => exact rv
  | own t o =>
    obtain ⟨ht, a, e4, ⟨k1, k2, k3, k4⟩, hn2⟩ := rv
    have nO : ¬ ∃ i, OwnsAt ρ σ i a ∧ i ∉ bors avs := fun ⟨i, z1, z2⟩ => by
      obtain ⟨_, _, o1, ov⟩ := ownF z1
      obtain ⟨u, hu⟩ := ov.there
      rw [frO z1 z2, hu] at k2
      cases k2
    rw [frN nO] at k2
    refine ⟨ht, a, e4, ⟨k1, k2, fun z => absurd ht z, k4⟩, fun i hi => ?_⟩
    have h0 := owns2 i a hi
    by_cases hb : i ∈ bors avs
    · obtain ⟨j, hj⟩ := mem_bors.mp hb
      obtain ⟨t1, o1, t2, o2, z1, z2, z3⟩ := p2 j i hj
      obtain ⟨y, hy, ry⟩ := paired_at hv hj
      have ry' : σ[i]? = some (some y) := ry
      rw [hi.2] at ry'
      cases ry'
      exact hn2 j ⟨⟨_, _, get_map_some.mpr z2⟩, get_map_some.mpr hy⟩
    · exact nO ⟨i, h0, hb⟩
theorem QA.len {es : List Expr} {f : DA} {Fr F H : Hp} {θ : Nat → Addr} {ρ : Sl} {σ : L2.St} (h : QA T X es f) : True := trivial
theorem qe_call {f : Addr} {fd : FuncData} {ps : List Str} {g : List SV → Option (SV × List SV)} {x : Str} {e : Expr} {es : List Expr} {fa : DA} (F : FnOk X.prog X.w X.K X.mg X.base CX0 k' f fd ps (spQ X.prog X.w X.K T ps.length g)) (c : CO X k) (hk : k' ≤ k) (hm : X.mg x = some (.ref f)) (hkp : PySem.W.keepIn X.K (.ref f) = true) (hb : Binds X.K fd ps [])
    (ha : QA T X (e :: es) fa) (hl : ∀ ρ avs ρ', fa ρ = some (avs, ρ') → avs.length = ps.length) (hg : Gl X x := by rfl) (hdb : (x == ("__debug__" : Str)) = false := by decide) (he : starEach (e :: es) X.env = (false, eval e X.env) :: starEach es X.env := by rfl) (hpl : (backTo pos (starEach es X.env)).any (·.1) = false := by rfl) :
    QE T X (.Call (.Name x p) (e :: es) [] pos) (dCall g fa) := ⟨fun {Fr F0 H θ ρ ρ' σ r} s e Q q => by
  unfold dCall at e
  split at e
  · rename_i avs ρ1 e1
    split at e
    · rename_i nd
      split at e
      · rename_i as e2
        split at e
        · rename_i r1 as' e3
          split at e
          · rename_i ρ2 e4
            cases e
            refine PE.we (pe_call F (c.room.mono hk) hg hm hkp hb .nil pass0 wa_pa hdb he hpl) ?_
            refine ha.run s e1 _ fun F1 H1 vs sF1 s1 rvs => ?_
            show spQ X.prog X.w X.K T ps.length g (vs ++ []) H1 Q E0
            rw [List.append_nil]
            exact call_ok s1 rvs nd (hl _ _ _ e1) e2 e3 e4 Q (fun F' H' v sF => q F' H' v (sF1.trans sF)) E0
          · cases e
        · cases e
      · cases e
    · cases e
  · cases e⟩
theorem qe_call0 {f : Addr} {fd : FuncData} {ps : List Str} {g : List SV → Option (SV × List SV)} {x : Str} (F : FnOk X.prog X.w X.K X.mg X.base CX0 k' f fd ps (spQ X.prog X.w X.K T ps.length g)) (c : CO X k) (hk : k' ≤ k) (hm : X.mg x = some (.ref f)) (hkp : PySem.W.keepIn X.K (.ref f) = true) (hb : Binds X.K fd ps [])
    (hl : ps.length = 0 := by rfl) (hg : Gl X x := by rfl) (hdb : (x == ("__debug__" : Str)) = false := by decide) : QE T X (.Call (.Name x p) [] [] pos) (dCall g aNil) := ⟨fun {Fr F0 H θ ρ ρ' σ r} s e Q q => by
  unfold dCall aNil at e
  simp only at e
  split at e
  · rename_i nd
    split at e
    · rename_i as e2
      split at e
      · rename_i r1 as' e3
        split at e
        · rename_i ρ2 e4
          cases e
          refine PE.we (pe_call0 F (c.room.mono hk) hg hm hkp hb .nil pass0 hdb) ?_
          show spQ X.prog X.w X.K T ps.length g ([] ++ []) H Q E0
          exact call_ok (vs := []) s .nil nd hl.symm e2 e3 e4 Q q E0
        · cases e
      · cases e
    · cases e
  · cases e⟩
end
end LQ
set_option Elab.async false
set_option autoImplicit false
set_option linter.all false
set_option maxRecDepth 100000
set_option maxHeartbeats 4000000
/-! LQ4: subscripts, slices, built-in calls, methods, what is walked, comprehensions. -/
namespace LQ
open PySem PySem.Spec PyProof.Rows L2

section
variable {T : Addr → Prop} {X : Cx} {k : Nat} {pos : Pos}

/-! ### subscripts -/
theorem RpA.atI {P : Program} {w : World} {K : PySem.W.Frag} {F : Hp} {vs : List V} {ds : List D} {i : Int} {d : D} (h : RpA P w K F vs ds) (e : L2.atI ds i = some d) : ∃ v, L2.atI vs i = some v ∧ Rp P w K F v d := by
  unfold L2.atI at e ⊢
  rw [h.length]
  cases hj : ixN ds.length i with
  | none => rw [hj] at e; cases e
  | some j =>
    rw [hj] at e
    exact h.get (i := j) e
def gIx : D → D → Option SV
  | .list ds, .int i => match L2.atI ds i with
    | some d => some (.dat d)
    | none => none
  | .tuple ds, .int i => match L2.atI ds i with
    | some d => some (.dat d)
    | none => none
  | .str z, .int i => if z.length ≤ sizeLine then match L2.atI z.cps.toList i with
      | some c => some (.dat (.str ⟨#[c]⟩))
      | none => none
    else none
  | _, _ => none
theorem vo_ix : VOp T X (rIx X.K) gIx := fun {Fr F H θ ρ σ x y a b z} s ra rb e Q q => by
  unfold gIx at e
  split at e
  · rename_i ds i
    split at e
    · rename_i d e1
      cases e
      obtain ⟨a1, us, rfl, h1, t1⟩ := ra.lstV
      obtain rfl := rb.intV
      obtain ⟨v, hv, rv⟩ := t1.atI e1
      exact .inl ⟨a1, us, i, v, rfl, rfl, .inl (Same.rd s.fh h1), hv, q F H v (Same.refl F) s rv⟩
    · cases e
  · rename_i ds i
    split at e
    · rename_i d e1
      cases e
      obtain ⟨a1, us, rfl, h1, t1⟩ := ra.tupV
      obtain rfl := rb.intV
      obtain ⟨v, hv, rv⟩ := t1.atI e1
      exact .inr (.inl ⟨a1, us, i, v, rfl, rfl, Same.sqT s.fh h1, hv, q F H v (Same.refl F) s rv⟩)
    · cases e
  · rename_i u i
    split at e
    · rename_i hl
      split at e
      · rename_i c e1
        cases e
        obtain rfl := ra.strV
        obtain rfl := rb.intV
        exact .inr (.inr ⟨u, i, c, rfl, rfl, hl, e1, q F H _ (Same.refl F) s (.str _)⟩)
      · cases e
    · cases e
  · cases e
theorem qe_ix {a b : Expr} {fa fb : DD} (ha : QD T X a fa) (hb : QD T X b fb) (hs : PlainIx b := by exact fun _ _ => rfl) : QE T X (.Subscript a b pos) (dOp2 gIx fa fb) := qe_two (fun _ _ h1 h2 => pe_ix ix_seq h1 h2 hs) vo_ix ha hb
/-- a named list, looked into: what it owns stays its own -/
def dIxO (i : Nat) (fb : DD) : DD := fun ρ => match fb ρ with
  | some (.int j, ρ1) => match ρ1[i]? with
    | some (some (.own _ (.lst ds))) => match L2.atI ds j with
      | some d => some (d, ρ1)
      | none => none
    | some (some (.dat (.list ds))) => match L2.atI ds j with
      | some d => some (d, ρ1)
      | none => none
    | _ => none
  | _ => none
/-- the slot has a value ahead -/
def had (i : Nat) (ρ : Sl) : Bool := match ρ[i]? with
  | some (some _) => true
  | _ => false
theorem qd_ixO (i : Nat) {x : Str} {px : Pos} {b : Expr} {fb : DD} (hb : QD T X b fb) (hs : PlainIx b := by exact fun _ _ => rfl) (hN : X.N[i]? = some x := by rfl) (hv : Vis X.env.scope x := by first | exact Or.inl rfl | exact Or.inr (Or.inl rfl) | exact Or.inr (Or.inr rfl)) (hd : (x == ("__debug__" : Str)) = false := by decide)
    (hcd : (x == ("__classdict__" : Str)) = false := by decide) : QD T X (.Subscript (.Name x px) b pos) (fun ρ => if had i ρ = true then dIxO i fb ρ else none) := ⟨fun {Fr F H θ ρ ρ' σ d} s e Q q => by
  split at e
  · rename_i hh
    unfold dIxO at e
    split at e
    · rename_i j ρ1 e1
      have hσ : ∃ v, σ[i]? = some (some v) := by
        unfold had at hh
        split at hh
        · rename_i sv e2
          obtain ⟨v, hv, _⟩ := s.sl i _ e2
          exact ⟨v, hv⟩
        · cases hh
      obtain ⟨v, hv1⟩ := hσ
      refine PE.we (pe_ix ix_list (pe_var hN hv hd hcd) we_pe hs) ⟨v, hv1, ?_⟩
      refine hb.run s e1 _ fun F1 H1 w sF s1 rw => ?_
      obtain rfl := rw.intV
      split at e
      · rename_i t ds e2
        split at e
        · rename_i d1 e3
          cases e
          obtain ⟨v', hv', p, e4, k1, k2, k3, xs, k4, k5⟩ := s1.sl i _ e2
          rw [hv1] at hv'
          cases hv'
          subst e4
          obtain ⟨v2, hv2, rv2⟩ := k5.atI e3
          exact ⟨p, xs, j, v2, rfl, rfl, .inl (.inl k4), hv2, q F1 H1 v2 sF s1 rv2⟩
        · cases e
      · rename_i ds e2
        split at e
        · rename_i d1 e3
          cases e
          obtain ⟨v', hv', r⟩ := s1.sl i _ e2
          rw [hv1] at hv'
          cases hv'
          obtain ⟨a1, us, rfl, h1, t1⟩ := Rp.lstV r
          obtain ⟨v2, hv2, rv2⟩ := t1.atI e3
          exact ⟨a1, us, j, v2, rfl, rfl, .inl (Same.rd s1.fh h1), hv2, q F1 H1 v2 sF s1 rv2⟩
        · cases e
      · cases e
    · cases e
  · cases e⟩

/-! ### slices -/
abbrev DO := Sl → Option (Option Int × Sl)
def oNone : DO := fun ρ => some (none, ρ)
def oSome (f : DD) : DO := fun ρ => match f ρ with
  | some (.int i, ρ1) => some (some i, ρ1)
  | _ => none
structure QO (T : Addr → Prop) (X : Cx) (e : Option Expr) (f : DO) : Prop where
  run : ∃ t, PO X e t ∧ ∀ {Fr F H : Hp} {θ : Nat → Addr} {ρ ρ' : Sl} {σ : L2.St} {o : Option Int}, SX X T Fr F H θ ρ σ → f ρ = some (o, ρ') → ∀ Q : Option Int → Hp → Prop,
    (∀ F' H', Same F F' → SX X T Fr F' H' θ ρ' σ → Q o H') → t σ H Q
theorem qo_none : QO T X none oNone := ⟨_, po_none, fun {Fr F H θ ρ ρ' σ o} s e Q q => by
  cases e
  exact q F H (Same.refl F) s⟩
theorem qo_some {e : Expr} {f : DD} (h : QD T X e f) : QO T X (some e) (oSome f) := ⟨_, po_some we_pe, fun {Fr F H θ ρ ρ' σ o} s e Q q => by
  unfold oSome at e
  split at e
  · rename_i i ρ1 e1
    cases e
    show WE X _ σ H _
    refine h.run s e1 _ fun F1 H1 v sF s1 rv => ?_
    obtain rfl := rv.intV
    exact ⟨i, rfl, q F1 H1 sF s1⟩
  · cases e⟩
def cutD (xs : List D) (lo hi : Option Int) : List D := (xs.drop (HT.sIx xs.length 0 lo)).take (HT.sIx xs.length xs.length hi - HT.sIx xs.length 0 lo)
theorem RpA.cut {P : Program} {w : World} {K : PySem.W.Frag} {F : Hp} {vs : List V} {ds : List D} (h : RpA P w K F vs ds) (lo hi : Option Int) : RpA P w K F (cutV vs lo hi) (cutD ds lo hi) := by
  unfold cutV cutD
  rw [h.length]
  exact (h.drop _).take _
def gSl : D → Option Int → Option Int → Option SV
  | .list ds, lo, hi => some (.own 0 (.lst (cutD ds lo hi)))
  | .tuple ds, lo, hi => some (.dat (.tuple (cutD ds lo hi)))
  | _, _, _ => none
/-- t[lo:hi] -/
def rSlF (K : PySem.W.Frag) : V → Option Int → Option Int → Hp → VK → Prop := fun x lo hi H Q => ∃ a xs, x = .ref a ∧ SqT K H a xs ∧
  (HT.sIx xs.length 0 lo = 0 ∧ HT.sIx xs.length xs.length hi = xs.length → Q (.ref a) H) ∧ (¬ (HT.sIx xs.length 0 lo = 0 ∧ HT.sIx xs.length xs.length hi = xs.length) → ∀ (p : Addr) (o : Obj), H p = none → o.dict = none → Q (.ref p) (upd H p (.frz o (.tup (cutV xs lo hi)))))
theorem sl_tupF : SlR X (rSlF X.K) := fun pins s σ H x v vl vu lo hi sl Q I rx hs pl pu ⟨a, xs, ex, hx, q1, q2⟩ => by
  subst ex
  by_cases hw : HT.sIx xs.length 0 lo = 0 ∧ HT.sIx xs.length xs.length hi = xs.length
  · exact sl_tupA pins s σ H _ v vl vu lo hi sl Q I rx hs pl pu ⟨a, xs, rfl, hx, q1, fun n => absurd hw n⟩
  · cases rx
    obtain ⟨us, r, ht, hz⟩ := I.tuple hx
    have hlen : us.toArray.size = xs.length := by rw [List.size_toArray, r.length]
    refine ⟨"tuple", _, PyProof.Rows.slot_tuple_getitem.lookup, ht.typeIs, HT.getItem_tuple_cut ht hs pl pu (by rw [hlen]; exact hw) ?_ (by rw [hlen]; exact hz)⟩
    rw [hlen]
    exact ⟨.ref s.heap.objs.size, _, I.tnew (t' := s.toks) ((r.drop _).take _) (Nat.le_trans (cutV_length xs lo hi) hz), rfl, q2 hw _ _ I.fresh rfl⟩
def dSl (fa : DD) (fl fh : DO) : DE := fun ρ => match fa ρ with
  | some (a, ρ1) => match fl ρ1 with
    | some (lo, ρ2) => match fh ρ2 with
      | some (hi, ρ3) => match gSl a lo hi with
        | some z => some (z, ρ3)
        | none => none
      | none => none
    | none => none
  | none => none
theorem cut_whole {xs : List V} {lo hi : Option Int} (h : HT.sIx xs.length 0 lo = 0 ∧ HT.sIx xs.length xs.length hi = xs.length) : cutV xs lo hi = xs := by
  unfold cutV
  rw [h.1, h.2]
  simp
theorem qe_slice {a : Expr} {lo hi : Option Expr} {p2 : Pos} {fa : DD} {fl fh : DO} (ha : QD T X a fa) (hl : QO T X lo fl) (hh : QO T X hi fh) : QE T X (.Subscript a (.Slice lo hi none p2) pos) (dSl fa fl fh) := ⟨fun {Fr F H θ ρ ρ' σ r} s e Q q => by
  obtain ⟨tl, hl1, hl2⟩ := hl.run
  obtain ⟨th, hh1, hh2⟩ := hh.run
  unfold dSl at e
  split at e
  · rename_i a1 ρ1 e1
    split at e
    · rename_i lo1 ρ2 e2
      split at e
      · rename_i hi1 ρ3 e3
        split at e
        · rename_i z e4
          cases e
          refine PE.we (pe_slice (sl_list.or sl_tupF) we_pe hl1 hh1) ?_
          refine ha.run s e1 _ fun F1 H1 v sF1 s1 rv => ?_
          refine hl2 s1 e2 _ fun F2 H2 sF2 s2 => ?_
          refine hh2 s2 e3 _ fun F3 H3 sF3 s3 => ?_
          have rv3 := Rp.mono (sF2.trans sF3) rv
          have up := (sF1.trans sF2).trans sF3
          unfold gSl at e4
          split at e4
          · rename_i ds lo2 hi2
            cases e4
            obtain ⟨b, us, rfl, h1, t1⟩ := rv3.lstV
            refine .inl ⟨b, us, rfl, .inl (Same.rd s3.fh h1), fun p np => ?_⟩
            obtain ⟨s4, rr⟩ := s3.newL np (t1.cut lo1 hi1)
            exact q _ _ _ up s4 rr
          · rename_i ds lo2 hi2
            cases e4
            obtain ⟨b, us, rfl, h1, t1⟩ := rv3.tupV
            refine .inr ⟨b, us, rfl, Same.sqT s3.fh h1, fun hw => ?_, fun hw p o np od => ?_⟩
            · have t2 := t1.cut lo1 hi1
              rw [cut_whole hw] at t2
              exact q _ _ _ up s3 (.tup h1 t2)
            · obtain ⟨s4, sF4, rr⟩ := s3.newT np od (t1.cut lo1 hi1)
              exact q _ _ _ (up.trans sF4) s4 rr
          · cases e4
        · cases e
      · cases e
    · cases e
  · cases e⟩

/-! ### built-in calls of one argument, by values -/
def VC1 (T : Addr → Prop) (X : Cx) (r : List V → Hp → VK → Prop) (g : D → Option SV) : Prop := ∀ {Fr F H : Hp} {θ : Nat → Addr} {ρ : Sl} {σ : L2.St} {x : V} {a : D} {z : SV}, SX X T Fr F H θ ρ σ → PX X F x a → g a = some z → ∀ Q : VK,
  (∀ F' H' v, Same F F' → SX X T Fr F' H' θ ρ σ → RX X Fr F' H' θ ρ σ z v → Q v H') → r [x] H Q
theorem qe_c1 {a e : Expr} {fa : DD} {r : List V → Hp → VK → Prop} {g : D → Option SV} (hp : PE X e (tCB r (tCons (WE X a) tNil))) (hv : VC1 T X r g) (ha : QD T X a fa) : QE T X e (dOp1 g fa) := ⟨fun {Fr F H θ ρ ρ' σ z} s e Q q => by
  unfold dOp1 at e
  split at e
  · rename_i a1 ρ1 e1
    split at e
    · rename_i z1 e3
      cases e
      refine PE.we hp ?_
      refine ha.run s e1 _ fun F1 H1 v1 sF1 s1 r1 => ?_
      exact hv s1 r1 e3 Q fun F' H' v sF => q F' H' v (sF1.trans sF)
    · cases e
  · cases e⟩
theorem qe_callB1 {id : String} {x : Str} {a : Expr} {p : Pos} {fa : DD} {r : List V → Hp → VK → Prop} {g : D → Option SV} (hc : CallR X (.builtin id) r) (hv : VC1 T X r g) (hm : X.mg x = none) (hbt : bootBuiltins x = some (.builtin id)) (ha : QD T X a fa) (hg : Gl X x) (hn : x ≠ "__name__") (hdb : (x == ("__debug__" : Str)) = false)
    (hs : starEach [a] X.env = (false, eval a X.env) :: starEach [] X.env) : QE T X (.Call (.Name x p) [a] [] pos) (dOp1 g fa) :=
  qe_c1 (pe_callB hc hg hm hbt (pa_cons we_pe pa_nil hs) hn hdb hs (by rfl)) hv ha
theorem qe_callT1 {id : String} {x : Str} {a : Expr} {p : Pos} {fa : DD} {r : List V → Hp → VK → Prop} {g : D → Option SV} (hc : CallR X (.type id) r) (hv : VC1 T X r g) (hm : X.mg x = none) (hbt : bootBuiltins x = some (.type id)) (ha : QD T X a fa) (hg : Gl X x) (hn : x ≠ "__name__") (hdb : (x == ("__debug__" : Str)) = false)
    (hs : starEach [a] X.env = (false, eval a X.env) :: starEach [] X.env) : QE T X (.Call (.Name x p) [a] [] pos) (dOp1 g fa) :=
  qe_c1 (pe_callTy hc hg hm hbt (pa_cons we_pe pa_nil hs) hn hdb hs (by rfl)) hv ha
/-! len -/
def gLen : D → Option SV
  | .list ds => some (.dat (.int ds.length))
  | .tuple ds => some (.dat (.int ds.length))
  | .str z => if z.length ≤ sizeLine then some (.dat (.int z.length)) else none
  | _ => none
theorem vc_len : VC1 T X (fun xs H Q => ∃ x n, xs = [x] ∧ LenV X.K x H n ∧ Q (.int (n : Nat)) H) gLen := fun {Fr F H θ ρ σ x a z} s ra e Q q => by
  unfold gLen at e
  split at e
  · cases e
    obtain ⟨a1, us, rfl, h1, t1⟩ := ra.lstV
    exact ⟨_, _, rfl, .inl ⟨us, .inl (Same.rd s.fh h1), rfl⟩, q F H _ (Same.refl F) s (by rw [t1.length]; exact .int _)⟩
  · cases e
    obtain ⟨a1, us, rfl, h1, t1⟩ := ra.tupV
    exact ⟨_, _, rfl, .inr ⟨us, Same.sqT s.fh h1, rfl⟩, q F H _ (Same.refl F) s (by rw [t1.length]; exact .int _)⟩
  · split at e
    · rename_i hl
      cases e
      obtain rfl := ra.strV
      exact ⟨_, _, rfl, ⟨hl, rfl⟩, q F H _ (Same.refl F) s (.int _)⟩
    · cases e
  · cases e
theorem qe_len {a : Expr} {p : Pos} {fa : DD} (ha : QD T X a fa) (hm : X.mg "len" = none) (hg : Gl X "len" := by rfl) (hs : starEach [a] X.env = (false, eval a X.env) :: starEach [] X.env := by rfl) : QE T X (.Call (.Name "len" p) [a] [] pos) (dOp1 gLen fa) :=
  qe_callB1 call_len vc_len hm PySem.boot_len ha hg (by decide) (by decide) hs
/-- the length of a named list, which stays its owner's -/
def dLenO (i : Nat) : DD := fun ρ => match ρ[i]? with
  | some (some (.own _ (.lst ds))) => some (.int ds.length, ρ)
  | some (some (.dat (.list ds))) => some (.int ds.length, ρ)
  | some (some (.dat (.tuple ds))) => some (.int ds.length, ρ)
  | _ => none
theorem qd_lenO (i : Nat) {x : Str} {px p : Pos} (hm : X.mg "len" = none) (hg : Gl X "len" := by rfl) (hN : X.N[i]? = some x := by rfl) (hv : Vis X.env.scope x := by first | exact Or.inl rfl | exact Or.inr (Or.inl rfl) | exact Or.inr (Or.inr rfl)) (hd : (x == ("__debug__" : Str)) = false := by decide)
    (hcd : (x == ("__classdict__" : Str)) = false := by decide) : QD T X (.Call (.Name "len" p) [.Name x px] [] pos) (dLenO i) := ⟨fun {Fr F H θ ρ ρ' σ d} s e Q q => by
  refine PE.we (pe_callB call_len hg hm PySem.boot_len (pa_cons (pe_var hN hv hd hcd) pa_nil)) ?_
  unfold dLenO at e
  split at e
  · rename_i t ds e1
    cases e
    obtain ⟨v, hv1, p, rfl, k1, k2, k3, xs, k4, k5⟩ := s.sl i _ e1
    exact ⟨_, hv1, _, _, rfl, .inl ⟨xs, .inl (.inl k4), rfl⟩, q F H _ (Same.refl F) s (by rw [k5.length]; exact .int _)⟩
  · rename_i ds e1
    cases e
    obtain ⟨v, hv1, r⟩ := s.sl i _ e1
    obtain ⟨a1, us, rfl, h1, t1⟩ := Rp.lstV r
    exact ⟨_, hv1, _, _, rfl, .inl ⟨us, .inl (Same.rd s.fh h1), rfl⟩, q F H _ (Same.refl F) s (by rw [t1.length]; exact .int _)⟩
  · rename_i ds e1
    cases e
    obtain ⟨v, hv1, r⟩ := s.sl i _ e1
    obtain ⟨a1, us, rfl, h1, t1⟩ := Rp.tupV r
    exact ⟨_, hv1, _, _, rfl, .inr ⟨us, Same.sqT s.fh h1, rfl⟩, q F H _ (Same.refl F) s (by rw [t1.length]; exact .int _)⟩
  · cases e⟩
/-! list(x), tuple(x), int(x) -/
def gList : D → Option SV
  | .list ds => some (.own 0 (.lst ds))
  | .tuple ds => some (.own 0 (.lst ds))
  | _ => none
theorem vc_list : VC1 T X (fun xs H Q => ∃ p ys, xs = [.ref p] ∧ (SqL X.K H p ys ∨ SqT X.K H p ys) ∧ ∀ l, H l = none → Q (.ref l) (upd H l (.lst ys))) gList := fun {Fr F H θ ρ σ x a z} s ra e Q q => by
  unfold gList at e
  split at e
  · cases e
    obtain ⟨a1, us, rfl, h1, t1⟩ := ra.lstV
    exact ⟨_, us, rfl, .inl (.inl (Same.rd s.fh h1)), fun l nl => let ⟨s2, rr⟩ := s.newL nl t1; q _ _ _ (Same.refl F) s2 rr⟩
  · cases e
    obtain ⟨a1, us, rfl, h1, t1⟩ := ra.tupV
    exact ⟨_, us, rfl, .inr (Same.sqT s.fh h1), fun l nl => let ⟨s2, rr⟩ := s.newL nl t1; q _ _ _ (Same.refl F) s2 rr⟩
  · cases e
theorem qe_list {a : Expr} {p : Pos} {fa : DD} (ha : QD T X a fa) (hm : X.mg "list" = none) (hg : Gl X "list" := by rfl) (hs : starEach [a] X.env = (false, eval a X.env) :: starEach [] X.env := by rfl) : QE T X (.Call (.Name "list" p) [a] [] pos) (dOp1 gList fa) :=
  qe_callT1 call_list_of vc_list hm (by decide +kernel) ha hg (by decide) (by decide) hs
def gTuple : D → Option SV
  | .list ds => some (.dat (.tuple ds))
  | .tuple ds => some (.dat (.tuple ds))
  | _ => none
def rTupF (K : PySem.W.Frag) : List V → Hp → VK → Prop := fun xs H Q => ∃ a ys, xs = [.ref a] ∧ ((SqL K H a ys ∧ ∀ (p : Addr) (o : Obj), H p = none → o.dict = none → Q (.ref p) (upd H p (.frz o (.tup ys)))) ∨ (SqT K H a ys ∧ Q (.ref a) H))
theorem call_tupF : CallR X (.type "tuple") (rTupF X.K) := fun pins s σ H xs us Q I r ⟨a, ys, e, h⟩ => by
  subst e
  rcases h with ⟨hl, q⟩ | ⟨ht, q⟩
  · obtain ⟨u, rfl, rx⟩ := vals1 r
    cases rx
    obtain ⟨ws, rv, pl, hz⟩ := I.list hl
    have hlen := rv.length
    refine call_tuple_list pl.isList (fun h' kp => ?_) (by simp only [List.size_toArray]; omega)
    have J : Inv X pins σ H { s with heap := h' } := I.kept (t' := s.toks) kp
    exact ⟨.ref h'.objs.size, _, J.tnew (t' := s.toks) rv hz, rfl, q _ _ J.fresh rfl⟩
  · exact call_tuple_of pins s σ H _ us Q I r ⟨a, ys, rfl, .inr ⟨ht, q⟩⟩
theorem vc_tuple : VC1 T X (rTupF X.K) gTuple := fun {Fr F H θ ρ σ x a z} s ra e Q q => by
  unfold gTuple at e
  split at e
  · cases e
    obtain ⟨a1, us, rfl, h1, t1⟩ := ra.lstV
    exact ⟨_, us, rfl, .inl ⟨.inl (Same.rd s.fh h1), fun p o np od => let ⟨s2, sF, rr⟩ := s.newT np od t1; q _ _ _ sF s2 rr⟩⟩
  · cases e
    obtain ⟨a1, us, rfl, h1, t1⟩ := ra.tupV
    exact ⟨_, us, rfl, .inr ⟨Same.sqT s.fh h1, q F H _ (Same.refl F) s (.tup h1 t1)⟩⟩
  · cases e
theorem qe_tuple {a : Expr} {p : Pos} {fa : DD} (ha : QD T X a fa) (hm : X.mg "tuple" = none) (hg : Gl X "tuple" := by rfl) (hs : starEach [a] X.env = (false, eval a X.env) :: starEach [] X.env := by rfl) : QE T X (.Call (.Name "tuple" p) [a] [] pos) (dOp1 gTuple fa) :=
  qe_callT1 call_tupF vc_tuple hm (by decide +kernel) ha hg (by decide) (by decide) hs
def gIntOf : D → Option SV
  | .int i => some (.dat (.int i))
  | _ => none
theorem vc_int1 : VC1 T X (fun xs H Q => (∃ i, xs = [.int i] ∧ Q (.int i) H) ∨ ∃ k, xs = [.bl k] ∧ Q (.int (if k then 1 else 0)) H) gIntOf := fun {Fr F H θ ρ σ x a z} s ra e Q q => by
  unfold gIntOf at e
  split at e
  · cases e
    obtain rfl := ra.intV
    exact .inl ⟨_, rfl, q F H _ (Same.refl F) s (.int _)⟩
  · cases e
theorem qe_int {a : Expr} {p : Pos} {fa : DD} (ha : QD T X a fa) (hm : X.mg "int" = none) (hg : Gl X "int" := by rfl) (hs : starEach [a] X.env = (false, eval a X.env) :: starEach [] X.env := by rfl) : QE T X (.Call (.Name "int" p) [a] [] pos) (dOp1 gIntOf fa) :=
  qe_callT1 call_int1 vc_int1 hm (by decide +kernel) ha hg (by decide) (by decide) hs

/-! ### isinstance(x, T) -/
def tyN : D → String
  | .none => "NoneType"
  | .bool _ => "bool"
  | .int _ => "int"
  | .str _ => "str"
  | .list _ => "list"
  | .tuple _ => "tuple"
  | .dict _ => "dict"
theorem rp_tyX {Fr F H : Hp} {θ : Nat → Addr} {ρ : Sl} {σ : L2.St} {x : V} {a : D} (s : SX X T Fr F H θ ρ σ) (r : PX X F x a) (hd : ∀ kvs, a ≠ .dict kvs) : TyX X.K H x (.type (tyN a)) := by
  cases r with
  | non => exact .base .non
  | bl b => exact .base (.bl b)
  | int i => exact .base (.int i)
  | str x => exact .base (.str x)
  | lst h _ =>
    rcases h with h | ⟨o, h⟩
    · exact .base (.lst (s.fh _ _ h))
    · exact .base (.frz (s.fh _ _ h))
  | tup h _ =>
    obtain ⟨o, h, _⟩ := h
    exact .fTuple (s.fh _ _ h)
  | dct _ _ => exact absurd rfl (hd _)
def isD : D → Bool
  | .dict _ => true
  | _ => false
/-- isinstance(x, T): the answer is the table's -/
def rIsiQ (P : Program) (w : World) (K : PySem.W.Frag) (c : String) : List V → Hp → VK → Prop := fun xs H Q => ∃ x t b, xs = [x, .ty c] ∧ (TyX K H x (.type t) ∨ (t = "dict" ∧ ∃ a es, x = .ref a ∧ H a = some (dkO P w a es))) ∧ kitB t c = some b ∧ Q (.bl b) H
theorem call_isiQ {c : String} : CallR X (.builtin "isinstance") (rIsiQ X.prog X.w X.K c) := fun pins s σ H xs us Q I r ⟨x, t, b, e, h, hk, q⟩ => by
  rcases h with h | ⟨rfl, a, es, rfl, ha⟩
  · exact call_isi pins s σ H xs us Q I r ⟨x, .ty c, .type t, .type c, b, e, .ty c, h, kit_ty hk, q⟩
  · subst e
    obtain ⟨u1, u2, rfl, r1, r2⟩ := vals2 r
    cases r1
    cases r2
    obtain ⟨⟨_, _, _, _, o, es', ep, e1, e2, _⟩, _, _⟩ := I.hok a _ ha
    exact PySem.W.kia_one PySem.W.kitx_dict I.kIn ⟨o, e1, e2.1⟩ (kit_ty hk) (fun z => nomatch z) fun tk => ⟨.bl b, H, I.tok tk, rfl, q⟩
def dIsi (c : String) (fa : DD) : DD := fun ρ => match fa ρ with
  | some (a, ρ1) => match kitB (tyN a) c with
    | some b => some (.bool b, ρ1)
    | none => none
  | none => none
theorem qd_isi (c : String) {a : Expr} {p px : Pos} {x : Str} {fa : DD} (ha : QD T X a fa) (hm : X.mg "isinstance" = none) (hmx : X.mg x = none) (hbx : bootBuiltins x = some (.type c)) (hnx : x ≠ "__name__" := by decide) (hdx : (x == ("__debug__" : Str)) = false := by decide) (hg : Gl X "isinstance" := by rfl) (hgx : Gl X x := by rfl)
    (hs : starEach [a, .Name x px] X.env = (false, eval a X.env) :: starEach [.Name x px] X.env := by rfl) (hs2 : starEach [.Name x px] X.env = (false, eval (.Name x px) X.env) :: starEach [] X.env := by rfl) : QD T X (.Call (.Name "isinstance" p) [a, .Name x px] [] pos) (dIsi c fa) := ⟨fun {Fr F H θ ρ ρ' σ d} s e Q q => by
  unfold dIsi at e
  split at e
  · rename_i a1 ρ1 e1
    split at e
    · rename_i b e2
      cases e
      refine PE.we (pe_callB (call_isiQ (c := c)) hg hm (by decide +kernel) (pa_cons we_pe (pa_cons (pe_bltn (v := .ty c) hgx hmx hbx rfl hnx hdx) pa_nil hs2) hs) (by decide) (by decide) hs (by rw [hs2]; rfl)) ?_
      refine ha.run s e1 _ fun F1 H1 v sF s1 rv => ?_
      refine ⟨v, tyN a1, b, rfl, ?_, e2, q F1 H1 _ sF s1 (.bl _)⟩
      cases hd : isD a1 with
      | false => exact .inl (rp_tyX s1 rv fun kvs z => by subst z; cases hd)
      | true =>
        cases a1 with
        | dict kvs =>
          obtain ⟨a2, es, rfl, h1, _⟩ := rv.dctV
          exact .inr ⟨rfl, a2, es, rfl, s1.fh _ _ h1⟩
        | _ => cases hd
    · cases e
  · cases e⟩

/-! ### list(range(n)) -/
def rgD (n : Int) : List D := (List.range n.toNat).map fun i => PyData.int (i : Nat)
theorem rgA {P : Program} {w : World} {K : PySem.W.Frag} {F : Hp} (n : Int) : RpA P w K F (rgV 0 n) (rgD n) := by
  unfold rgV rgD
  rw [Int.sub_zero]
  refine RpA.ofAll (by simp) fun i v d hv hd => ?_
  rw [List.getElem?_map] at hv hd
  cases e : (List.range n.toNat)[i]? with
  | none => rw [e] at hv; cases hv
  | some j =>
    rw [e] at hv hd
    cases hv
    cases hd
    have z : (0 : Int) + (j : Nat) = (j : Nat) := Int.zero_add _
    show Rp P w K F (.int ((0 : Int) + (j : Nat))) (.int (j : Nat))
    rw [z]
    exact .int _
def dLstRg (fa : DD) : DE := fun ρ => match fa ρ with
  | some (.int n, ρ1) => if 0 ≤ n ∧ n ≤ 16777216 then some (.own 0 (.lst (rgD n)), ρ1) else none
  | _ => none
theorem qe_listRg {a : Expr} {p p2 q2 : Pos} {fa : DD} (c : CO X k) (ha : QD T X a fa) (hm : X.mg "list" = none) (hm2 : X.mg "range" = none) (hg : Gl X "list" := by rfl) (hg2 : Gl X "range" := by rfl) (na : starEach [a] X.env = (false, eval a X.env) :: starEach [] X.env := by rfl)
    (nb : starEach [.Call (.Name "range" p2) [a] [] q2] X.env = (false, eval (.Call (.Name "range" p2) [a] [] q2) X.env) :: starEach [] X.env := by rfl) : QE T X (.Call (.Name "list" p) [.Call (.Name "range" p2) [a] [] q2] [] pos) (dLstRg fa) := ⟨fun {Fr F H θ ρ ρ' σ r} s e Q q => by
  unfold dLstRg at e
  split at e
  · rename_i n ρ1 e1
    split at e
    · rename_i hn
      cases e
      refine PE.we (pe_listRg c.calm hg hm (prg_1 hg2 hm2 we_pe na) nb) ?_
      refine ha.run s e1 _ fun F1 H1 v sF s1 rv => ?_
      obtain rfl := rv.intV
      refine ⟨n, rfl, ⟨by omega, by omega, by omega, by omega, by omega⟩, fun p2 np => ?_⟩
      obtain ⟨s2, rr⟩ := s1.newL np (rgA n)
      exact q _ _ _ sF s2 rr
    · cases e
  · cases e⟩
end
end LQ
set_option Elab.async false
set_option autoImplicit false
set_option linter.all false
set_option maxRecDepth 100000
set_option maxHeartbeats 4000000
/-! LQ5: what is walked; comprehensions; methods of lists and tuples. -/
namespace LQ
open PySem PySem.Spec PyProof.Rows L2

section
variable {T : Addr → Prop} {X : Cx} {k : Nat} {pos : Pos}

/-! ### a list, a tuple, a text, walked -/
def iSeq (K : PySem.W.Frag) (tl : TE) : TI := fun σ H R => tl σ H fun x H1 => (∃ a xs, x = .ref a ∧ SqL K H1 a xs ∧ R (Itl K a) H1) ∨ (∃ a xs, x = .ref a ∧ SqT K H1 a xs ∧ R (Itt K a) H1)
theorem pi_seq {tg l : Expr} {tl : TE} (hl : PE X l tl) : PI X tg l (iSeq X.K tl) := ⟨fun pins s σ H R I h => thn (hl.run pins s σ H _ I h) fun v s1 ⟨x, H1, I1, r1, q1⟩ => by
  rcases q1 with ⟨a, xs, rfl, hq, q⟩ | ⟨a, xs, rfl, hq, q⟩
  · cases r1
    obtain ⟨us, _, p, _⟩ := I1.list hq
    exact wpAny_pyIter_list p.isList (pi_one (tk := s1.toks) I1 _ (turn_list a _) ⟨_, Heap.get?_push_size _ rfl, rfl, rfl⟩ q)
  · cases r1
    obtain ⟨us, _, p, _⟩ := I1.tuple hq
    exact wpAny_pyIter_tuple (show s1.heap.IsTuple a us.toArray from p) (pi_one (tk := s1.toks) I1 _ (turn_tuple a _) ⟨_, Heap.get?_push_size _ rfl, rfl, rfl⟩ q)⟩
def dSrc (f : DD) : DI := fun ρ => match f ρ with
  | some (.list ds, ρ1) => some (ds, ρ1)
  | some (.tuple ds, ρ1) => some (ds, ρ1)
  | _ => none
theorem feed_list {F : Hp} {a : Addr} {xs : List V} {ds : List D} (h : Rd F a (.lst xs)) (t : RpA X.prog X.w X.K F xs ds) : FeedR T X (PX X) F (Itl X.K a) ds := fun {Fr F1 H θ ρ σ} i sF s => by
  have hq : SqL X.K H a xs := .inl (Same.rd (sF.trans s.fh) h)
  refine ⟨fun d hd => ?_, fun hl => ⟨xs, hq, by rw [t.length]; exact hl⟩⟩
  obtain ⟨v, hv, rv⟩ := t.get hd
  refine ⟨⟨xs, v, hq, hv⟩, fun x H' hy => ?_⟩
  obtain ⟨rfl, hx⟩ := hy
  have e := hx xs hq
  rw [hv] at e
  cases e
  exact ⟨F1, Same.refl F1, s, Rp.mono sF rv⟩
theorem feed_tup {F : Hp} {a : Addr} {xs : List V} {ds : List D} (h : TupR F a xs) (t : RpA X.prog X.w X.K F xs ds) : FeedR T X (PX X) F (Itt X.K a) ds := fun {Fr F1 H θ ρ σ} i sF s => by
  have hq : SqT X.K H a xs := Same.sqT (sF.trans s.fh) h
  refine ⟨fun d hd => ?_, fun hl => ⟨xs, hq, by rw [t.length]; exact hl⟩⟩
  obtain ⟨v, hv, rv⟩ := t.get hd
  refine ⟨⟨xs, v, hq, hv⟩, fun x H' hy => ?_⟩
  obtain ⟨rfl, hx⟩ := hy
  have e := hx xs hq
  rw [hv] at e
  cases e
  exact ⟨F1, Same.refl F1, s, Rp.mono sF rv⟩
theorem qi_seq {tg e : Expr} {f : DD} (h : QD T X e f) : QIt T X (PX X) tg e (dSrc f) := ⟨fun {Fr F H θ ρ ρ' σ ds} s e Q q => by
  unfold dSrc at e
  split at e
  · rename_i ds1 ρ1 e1
    cases e
    refine PI.wi (pi_seq we_pe) ?_
    refine h.run s e1 _ fun F1 H1 v sF s1 rv => ?_
    obtain ⟨a, xs, rfl, h1, t1⟩ := rv.lstV
    exact .inl ⟨a, xs, rfl, .inl (Same.rd s1.fh h1), q F1 H1 _ sF s1 (feed_list h1 t1)⟩
  · rename_i ds1 ρ1 e1
    cases e
    refine PI.wi (pi_seq we_pe) ?_
    refine h.run s e1 _ fun F1 H1 v sF s1 rv => ?_
    obtain ⟨a, xs, rfl, h1, t1⟩ := rv.tupV
    exact .inr ⟨a, xs, rfl, Same.sqT s1.fh h1, q F1 H1 _ sF s1 (feed_tup h1 t1)⟩
  · cases e⟩
/-- tuples unpacked at once -/
theorem FeedR.y {F : Hp} {J : It} {ds : List D} (h : FeedR T X (PX X) F J ds) (ht : ∀ d ∈ ds, ∃ l, d = .tuple l) : FeedR T X (PY X) F J ds := fun {Fr F1 H θ ρ σ} i sF s => by
  obtain ⟨h1, h2⟩ := h i sF s
  refine ⟨fun d hd => ?_, h2⟩
  obtain ⟨g, y⟩ := h1 d hd
  refine ⟨g, fun x H' hy => ?_⟩
  obtain ⟨F2, sF2, s2, r⟩ := y x H' hy
  obtain ⟨l, rfl⟩ := ht d (List.mem_of_getElem? hd)
  obtain ⟨a, xs, rfl, a1, a2⟩ := Rp.tupV r
  exact ⟨F2, sF2, s2, a, xs, l, rfl, rfl, a1.sq, a2⟩

/-! ### ranges -/
def rgD3 (lo c : Int) (n : Nat) : List D := (List.range n).map fun i => PyData.int (lo + (i : Nat) * c)
theorem rgD3_get {lo c : Int} {n i : Nat} {d : D} (h : (rgD3 lo c n)[i]? = some d) : i < n ∧ d = .int (lo + (i : Nat) * c) := by
  unfold rgD3 at h
  rw [List.getElem?_map] at h
  by_cases hi : i < n
  · rw [List.getElem?_range hi] at h
    cases h
    exact ⟨hi, rfl⟩
  · rw [List.getElem?_eq_none (by simpa using hi)] at h
    cases h
theorem feed_rg {F : Hp} {lo : Int} {n : Nat} {ds : List D} (hd : ds.length = n) (hg : ∀ (i : Nat) (d : D), ds[i]? = some d → d = .int (lo + (i : Nat))) : FeedR T X (PX X) F (Itr lo n) ds := fun {Fr F1 H θ ρ σ} i sF s => by
  refine ⟨fun d h => ⟨?_, fun x H' hy => ?_⟩, fun hl => by rw [hd] at hl; exact hl⟩
  · have := (List.getElem?_eq_some_iff.mp h).1
    rw [hd] at this
    exact this
  · obtain ⟨rfl, rfl⟩ := hy
    rw [hg i d h]
    exact ⟨F1, Same.refl F1, s, .int _⟩
def rg1 (n : Int) : List D := (List.range n.toNat).map fun i => PyData.int (i : Nat)
def rg2 (a b : Int) : List D := (List.range (b - a).toNat).map fun i => PyData.int (a + (i : Nat))
theorem map_range_get {f : Nat → D} {n i : Nat} {d : D} (h : ((List.range n).map f)[i]? = some d) : i < n ∧ d = f i := by
  rw [List.getElem?_map] at h
  by_cases hi : i < n
  · rw [List.getElem?_range hi] at h
    cases h
    exact ⟨hi, rfl⟩
  · rw [List.getElem?_eq_none (by simpa using hi)] at h
    cases h
def small62 (n : Int) : Bool := decide (-(2 ^ 62) ≤ n) && decide (n < 2 ^ 62)
theorem small62_ok {n : Int} (h : small62 n = true) : -(2 ^ 62) ≤ n ∧ n < 2 ^ 62 := by
  unfold small62 at h
  simpa using h
def dRg1 (fa : DD) : DI := fun ρ => match fa ρ with
  | some (.int n, ρ1) => if small62 n = true then some (rg1 n, ρ1) else none
  | _ => none
theorem qi_range1 {tg a : Expr} {p : Pos} {fa : DD} (ha : QD T X a fa) (hm : X.mg "range" = none) (hg : Gl X "range" := by rfl) (hs : starEach [a] X.env = [(false, eval a X.env)] := by rfl) : QIt T X (PX X) tg (.Call (.Name "range" p) [a] [] pos) (dRg1 fa) := ⟨fun {Fr F H θ ρ ρ' σ ds} s e Q q => by
  unfold dRg1 at e
  split at e
  · rename_i n ρ1 e1
    split at e
    · rename_i hn
      cases e
      obtain ⟨h1, h2⟩ := small62_ok hn
      refine PI.wi (pi_range1 hg hm (pa_cons we_pe pa_nil (by rw [hs]; rfl)) hs) ?_
      refine ha.run s e1 _ fun F1 H1 v sF s1 rv => ?_
      obtain rfl := rv.intV
      refine ⟨n, rfl, h1, h2, q F1 H1 _ sF s1 (feed_rg (by simp [rg1]) fun i d h => ?_)⟩
      rw [(map_range_get h).2, Int.zero_add]
    · cases e
  · cases e⟩
def dRg2 (fa fb : DD) : DI := fun ρ => match fa ρ with
  | some (.int a, ρ1) => match fb ρ1 with
    | some (.int b, ρ2) => if small62 a = true ∧ small62 b = true then some (rg2 a b, ρ2) else none
    | _ => none
  | _ => none
theorem qi_range2 {tg a b : Expr} {p : Pos} {fa fb : DD} (ha : QD T X a fa) (hb : QD T X b fb) (hm : X.mg "range" = none) (hg : Gl X "range" := by rfl) (hs : starEach [a, b] X.env = [(false, eval a X.env), (false, eval b X.env)] := by rfl) (hs2 : starEach [b] X.env = [(false, eval b X.env)] := by rfl) : QIt T X (PX X) tg (.Call (.Name "range" p) [a, b] [] pos) (dRg2 fa fb) := ⟨fun {Fr F H θ ρ ρ' σ ds} s e Q q => by
  unfold dRg2 at e
  split at e
  · rename_i n ρ1 e1
    split at e
    · rename_i m ρ2 e2
      split at e
      · rename_i hn
        cases e
        obtain ⟨h1, h2⟩ := small62_ok hn.1
        obtain ⟨h3, h4⟩ := small62_ok hn.2
        refine PI.wi (pi_range2 hg hm (pa_cons we_pe (pa_cons we_pe pa_nil (by rw [hs2]; rfl)) (by rw [hs, hs2])) hs hs2) ?_
        refine ha.run s e1 _ fun F1 H1 v sF s1 rv => ?_
        refine hb.run s1 e2 _ fun F2 H2 v2 sF2 s2 rv2 => ?_
        obtain rfl := rv.intV
        obtain rfl := rv2.intV
        exact ⟨n, m, rfl, ⟨h1, h2, h3, h4⟩, q F2 H2 _ (sF.trans sF2) s2 (feed_rg (by simp [rg2]) fun i d h => (map_range_get h).2)⟩
      · cases e
    · cases e
  · cases e⟩

/-! ### comprehensions -/
def wipeS (ρ : Sl) : List Nat → Sl
  | [] => ρ
  | v :: vs => (wipeS ρ vs).set v none
theorem wipeS_some {ρ : Sl} {i : Nat} {x : SV} : ∀ {vs : List Nat}, (wipeS ρ vs)[i]? = some (some x) → ρ[i]? = some (some x) ∧ i ∉ vs
  | [], h => ⟨h, by simp⟩
  | v :: vs, h => by
    unfold wipeS at h
    by_cases hi : v = i
    · subst hi
      by_cases hv : v < (wipeS ρ vs).length
      · rw [List.getElem?_set_self hv] at h; cases h
      · rw [List.getElem?_eq_none (by simpa using hv)] at h; cases h
    · rw [List.getElem?_set_ne hi] at h
      obtain ⟨h1, h2⟩ := wipeS_some h
      exact ⟨h1, fun z => (List.mem_cons.mp z).elim (fun e => hi e.symm) h2⟩
theorem wipe_get {σ : L2.St} {i : Nat} : ∀ {vs : List Nat}, i ∉ vs → (wipe σ vs)[i]? = σ[i]?
  | [], _ => rfl
  | v :: vs, h => by
    rw [List.mem_cons, not_or] at h
    unfold wipe
    rw [List.getElem?_set_ne (Ne.symm h.1)]
    exact wipe_get h.2
theorem wipe_in {σ : L2.St} {i : Nat} : ∀ {vs : List Nat}, i ∈ vs → i < σ.length → (wipe σ vs)[i]? = some none
  | v :: vs, h, hl => by
    unfold wipe
    by_cases hv : v = i
    · subst hv
      exact List.getElem?_set_self (by rw [wipe_length]; exact hl)
    · rw [List.getElem?_set_ne hv]
      exact wipe_in ((List.mem_cons.mp h).resolve_left fun z => hv z.symm) hl
theorem wipe_eq {σ σ' : L2.St} {vs ts : List Nat} (hl : σ'.length = σ.length) (hs : ∀ j, j ∉ ts → σ'[j]? = (wipe σ vs)[j]?) (ht : ∀ j ∈ ts, j ∈ vs) : wipe σ' vs = wipe σ vs := by
  apply List.ext_getElem?
  intro j
  by_cases hj : j ∈ vs
  · by_cases hlt : j < σ.length
    · rw [wipe_in hj hlt, wipe_in hj (by rw [hl]; exact hlt)]
    · rw [List.getElem?_eq_none (by rw [wipe_length]; omega), List.getElem?_eq_none (by rw [wipe_length]; omega)]
  · rw [wipe_get hj, hs j fun z => hj (ht j z)]
def restS (ρ0 : Sl) (ρ : Sl) : List Nat → Sl
  | [] => ρ
  | v :: vs => match ρ0[v]? with
    | some (some (.dat d)) => (restS ρ0 ρ vs).set v (some (.dat d))
    | _ => (restS ρ0 ρ vs).set v none
section
variable {P : Program} {w : World} {K : PySem.W.Frag} {Fr F H : Hp} {θ : Nat → Addr} {ρ ρ' : Sl} {σ σ' : L2.St}
theorem Stt.move {vs : List Nat} (s : Stt P w K T Fr F H θ (wipeS ρ vs) σ) (h : ∀ j, j ∉ vs → σ'[j]? = σ[j]?) : Stt P w K T Fr F H θ (wipeS ρ vs) σ' :=
  ⟨s.fh, s.rh, s.dj, s.tb, fun i r hr => by rw [h i (wipeS_some hr).2]; exact s.sl i r hr,
    fun i j p ⟨⟨t1, o1, a1⟩, b1⟩ ⟨⟨t2, o2, a2⟩, b2⟩ => s.ij i j p ⟨⟨t1, o1, a1⟩, (h i (wipeS_some a1).2) ▸ b1⟩ ⟨⟨t2, o2, a2⟩, (h j (wipeS_some a2).2) ▸ b2⟩⟩
theorem Stt.wiped (s : Stt P w K T Fr F H θ ρ σ) (vs : List Nat) : Stt P w K T Fr F H θ (wipeS ρ vs) σ := s.weak fun i q h => (wipeS_some h).1
/-- the frame's piece at D grows -/
theorem Stt.grow {D1 : Addr} {o o' : HO} (s : Stt P w K T (upd Fr D1 o) F H θ ρ σ) (nt : ∀ ps, o ≠ .tbl ps) : Stt P w K T (upd Fr D1 o') F (upd H D1 o') θ ρ σ := by
  have hD : H D1 = some o := s.rh _ _ upd_same
  have nF : F D1 = none := s.dj _ _ upd_same
  refine ⟨fun a u e => ?_, fun a u e => ?_, fun a u e => ?_, fun a ha => ?_, fun i r hr => ?_, s.ij⟩
  · rw [upd_ne (ne_of_none e nF)]; exact s.fh _ _ e
  · by_cases ha : a = D1
    · subst ha; rw [upd_same] at e ⊢; exact e
    · rw [upd_ne ha] at e ⊢; exact s.rh _ _ (by rw [upd_ne ha]; exact e)
  · by_cases ha : a = D1
    · subst ha; exact nF
    · rw [upd_ne ha] at e; exact s.dj _ _ (by rw [upd_ne ha]; exact e)
  · obtain ⟨t1, t2, ps, t3, t4⟩ := s.tb a ha
    have ne : a ≠ D1 := fun z => by
      rw [z, hD] at t3
      exact nt ps (Option.some.inj t3)
    rw [upd_ne ne] at t2
    exact ⟨t1, by rw [upd_ne ne]; exact t2, ps, by rw [upd_ne ne]; exact t3, t4⟩
  · obtain ⟨v, hv, rv⟩ := s.sl i r hr
    refine ⟨v, hv, ?_⟩
    cases r with
    | dat d => exact rv
    | own t ov =>
      obtain ⟨a, e, k1, k2, k3, k4⟩ := rv
      have ne : a ≠ D1 := fun z => by rw [z, upd_same] at k2; cases k2
      rw [upd_ne ne] at k2
      exact ⟨a, e, k1, by rw [upd_ne ne]; exact k2, k3, k4.at (by rw [upd_ne ne])⟩
/-- a new object for the frame -/
theorem Stt.newR {D1 : Addr} {o : HO} (s : Stt P w K T Fr F H θ ρ σ) (n : H D1 = none) : Stt P w K T (upd Fr D1 o) F (upd H D1 o) θ ρ σ := by
  have nF : F D1 = none := s.fh.free n
  have nR : Fr D1 = none := s.rh.free n
  have s1 := s.newO (o := o) n
  refine ⟨s1.fh, fun a u e => ?_, fun a u e => ?_, fun a ha => ?_, fun i r hr => ?_, s.ij⟩
  · by_cases ha : a = D1
    · subst ha; rw [upd_same] at e ⊢; exact e
    · rw [upd_ne ha] at e; exact s1.rh _ _ e
  · by_cases ha : a = D1
    · subst ha; exact nF
    · rw [upd_ne ha] at e; exact s.dj _ _ e
  · obtain ⟨t1, t2, t3⟩ := s1.tb a ha
    obtain ⟨_, _, ps, t4, _⟩ := s.tb a ha
    exact ⟨t1, by rw [upd_ne (ne_of_none t4 n)]; exact t2, t3⟩
  · obtain ⟨v, hv, rv⟩ := s1.sl i r hr
    refine ⟨v, hv, ?_⟩
    cases r with
    | dat d => exact rv
    | own t ov =>
      obtain ⟨a, e, k1, k2, k3, k4⟩ := rv
      obtain ⟨v0, hv0, a0, e0, _, _, _, k40⟩ := s.sl i _ hr
      rw [hv] at hv0
      cases hv0
      subst e
      cases e0
      obtain ⟨u, hu⟩ := k40.there
      exact ⟨a, rfl, k1, by rw [upd_ne (ne_of_none hu n)]; exact k2, k3, k4⟩
/-- the frame's piece given up -/
theorem Stt.dropR {D1 : Addr} {o : HO} (s : Stt P w K T (upd Fr D1 o) F H θ ρ σ) (nR : Fr D1 = none) : Stt P w K T Fr F H θ ρ σ ∧ F D1 = none ∧ H D1 = some o ∧ ∀ i, ¬ OwnsAt ρ σ i D1 := by
  have up : ∀ a u, Fr a = some u → upd Fr D1 o a = some u := fun a u e => by rw [upd_ne (ne_of_none e nR)]; exact e
  refine ⟨⟨s.fh, fun a u e => s.rh _ _ (up a u e), fun a u e => s.dj _ _ (up a u e), fun a ha => ?_, fun i r hr => ?_, s.ij⟩, s.dj _ _ upd_same, s.rh _ _ upd_same, fun i ⟨⟨t, ov, hi⟩, hp⟩ => ?_⟩
  · obtain ⟨t1, t2, t3⟩ := s.tb a ha
    refine ⟨t1, ?_, t3⟩
    cases e : Fr a with
    | none => rfl
    | some u => rw [up a u e] at t2; cases t2
  · obtain ⟨v, hv, rv⟩ := s.sl i r hr
    refine ⟨v, hv, ?_⟩
    cases r with
    | dat d => exact rv
    | own t ov =>
      obtain ⟨a, e, k1, k2, k3, k4⟩ := rv
      refine ⟨a, e, k1, ?_, k3, k4⟩
      cases e2 : Fr a with
      | none => rfl
      | some u => rw [up a u e2] at k2; cases k2
  · obtain ⟨v, hv, a, e, k1, k2, _⟩ := s.sl i _ hi
    rw [hp] at hv
    cases hv
    cases e
    rw [upd_same] at k2
    cases k2
theorem Stt.restore {vs : List Nat} {F0 H0 : Hp} {ρ0 : Sl} {Fr0 : Hp} (s0 : Stt P w K T Fr0 F0 H0 θ ρ0 σ) (sF : Same F0 F) (s : Stt P w K T Fr F H θ (wipeS ρ vs) σ) : Stt P w K T Fr F H θ (restS ρ0 (wipeS ρ vs) vs) σ := by
  have key : ∀ (us : List Nat) (i : Nat) (q : SV), (restS ρ0 (wipeS ρ vs) us)[i]? = some (some q) → (wipeS ρ vs)[i]? = some (some q) ∨ ∃ d, q = .dat d ∧ ρ0[i]? = some (some (.dat d)) := by
    intro us
    induction us with
    | nil => exact fun i q h => .inl h
    | cons v us ih =>
      intro i q h
      unfold restS at h
      split at h
      · rename_i d e
        by_cases z : v = i
        · subst z
          by_cases l : v < (restS ρ0 (wipeS ρ vs) us).length
          · rw [List.getElem?_set_self l] at h
            cases h
            exact .inr ⟨d, rfl, e⟩
          · rw [List.getElem?_eq_none (by simpa using l)] at h; cases h
        · rw [List.getElem?_set_ne z] at h
          exact ih i q h
      · exact ih i q (set_none h)
  refine ⟨s.fh, s.rh, s.dj, s.tb, fun i r hr => ?_, fun i j p ⟨⟨t1, o1, a1⟩, b1⟩ ⟨⟨t2, o2, a2⟩, b2⟩ => ?_⟩
  · rcases key vs i r hr with h | ⟨d, rfl, h⟩
    · exact s.sl i r h
    · obtain ⟨v, hv, rv⟩ := s0.sl i _ h
      exact ⟨v, hv, Rp.mono sF rv⟩
  · rcases key vs i _ a1 with h1 | ⟨d, z, _⟩
    · rcases key vs j _ a2 with h2 | ⟨d, z, _⟩
      · exact s.ij i j p ⟨⟨t1, o1, h1⟩, b1⟩ ⟨⟨t2, o2, h2⟩, b2⟩
      · cases z
    · cases z
end

/-! the block of a comprehension -/
abbrev BK (X : Cx) (scope : Scope) (s : Shared) (H : Hp) (C : Addr) (cl : List (Str × Addr)) (fp : List Addr) : Cx := X.blk s H scope (compEnvC scope cl C X.env) fp
theorem CO.blk (c : CO X k) {scope : Scope} {s : Shared} {H : Hp} {C : Addr} {cl : List (Str × Addr)} {fp : List Addr} : CO (BK X scope s H C cl fp) k := ⟨c.calm, c.nd, c.room, rfl⟩
/-- in every block -/
def gB (X : Cx) (scope : Scope) (tg : Expr) : TG := fun v σ H Q => ∀ (s : Shared) (H0 : Hp) (C : Addr) (cl : List (Str × Addr)) (fp : List Addr), WG (BK X scope s H0 C cl fp) tg v σ H Q
def eB (X : Cx) (scope : Scope) (e : Expr) : TE := fun σ H Q => ∀ (s : Shared) (H0 : Hp) (C : Addr) (cl : List (Str × Addr)) (fp : List Addr), WE (BK X scope s H0 C cl fp) e σ H Q
def tB1 (X : Cx) (scope : Scope) (e : Expr) : TT := fun σ H Q => ∀ (s : Shared) (H0 : Hp) (C : Addr) (cl : List (Str × Addr)) (fp : List Addr), WT (BK X scope s H0 C cl fp) e σ H Q
/-- a clause's tests: none, or one -/
structure QTs (T : Addr → Prop) (X : Cx) (scope : Scope) (ifs : List Expr) (f : DT) : Prop where
  run : ∃ t : TT, (∀ (s : Shared) (H0 : Hp) (C : Addr) (cl : List (Str × Addr)) (fp : List Addr), PTs (BK X scope s H0 C cl fp) ifs t) ∧ TOk T X t f
def tTrue : DT := fun ρ => some (true, ρ)
theorem qts_nil {scope : Scope} : QTs T X scope [] tTrue := ⟨tYes, fun _ _ _ _ _ => pts_nil, fun {Fr F H θ ρ ρ' σ b} s e Q q => by
  cases e
  exact q F H (Same.refl F) s⟩
theorem qts_one {scope : Scope} {c : Expr} {f : DT} (h : ∀ (s : Shared) (H0 : Hp) (C : Addr) (cl : List (Str × Addr)) (fp : List Addr), QT T (BK X scope s H0 C cl fp) c f) : QTs T X scope [c] f := by
  refine ⟨tB1 X scope c, fun s H0 C cl fp => pts_one ⟨fun pins s1 σ H Q I hw => hw s H0 C cl fp pins s1 I⟩, fun {Fr F H θ ρ ρ' σ b} s e Q q => ?_⟩
  intro s0 H0 C cl fp
  obtain ⟨t, hp, ht⟩ := h s0 H0 C cl fp
  exact PT.wt hp (ht s e Q q)
def lcLoop (g : D → Sl → Option Sl) (ft : DT) (fe : DD) (vs : List Nat) : List D → Sl → Option (List D × Sl)
  | [], ρ => some ([], ρ)
  | d :: ds, ρ => match g d (wipeS ρ vs) with
    | none => none
    | some ρ1 => match ft ρ1 with
      | none => none
      | some (false, ρ2) => lcLoop g ft fe vs ds ρ2
      | some (true, ρ2) => match fe ρ2 with
        | none => none
        | some (y, ρ3) => match lcLoop g ft fe vs ds ρ3 with
          | some (ys, ρ4) => some (y :: ys, ρ4)
          | none => none
def dLc (src : DI) (g : D → Sl → Option Sl) (ft : DT) (fe : DD) (vs : List Nat) : DE := fun ρ => match src ρ with
  | some (ds, ρ1) => if ds.length ≤ sizeLine then match lcLoop g ft fe vs ds ρ1 with
      | some (ys, ρ2) => some (.own 0 (.lst ys), restS ρ1 (wipeS ρ2 vs) vs)
      | none => none
    else none
  | none => none
theorem lc_ok {R : Hp → V → D → Prop} {tg iter elt : Expr} {scope : Scope} {src : DI} {ts vs : List Nat} {g : D → Sl → Option Sl} {ft : DT} {fe : DD} {tt : TT} (hi : QIt T X R tg iter src) (hts : ∀ j ∈ ts, j ∈ vs)
    (hg : ∀ (s : Shared) (H0 : Hp) (C : Addr) (cl : List (Str × Addr)) (fp : List Addr), QGt T (BK X scope s H0 C cl fp) R tg ts g) (htt : TOk T X tt ft) (he : ∀ (s : Shared) (H0 : Hp) (C : Addr) (cl : List (Str × Addr)) (fp : List Addr), QD T (BK X scope s H0 C cl fp) elt fe)
    {Fr F H : Hp} {θ : Nat → Addr} {ρ ρ' : Sl} {σ : L2.St} {r : SV} (s : SX X T Fr F H θ ρ σ) (e : dLc src g ft fe vs ρ = some (r, ρ')) (Q : VK) (q : ∀ F' H' v, Same F F' → SX X T Fr F' H' θ ρ' σ → RX X Fr F' H' θ ρ' σ r v → Q v H') :
    tLc (WI X tg iter) (gB X scope tg) tt (eB X scope elt) vs σ H Q := by
  unfold dLc at e
  split at e
  · rename_i ds ρ1 e1
    split at e
    · rename_i hlen
      split at e
      · rename_i ys ρ2 e2
        cases e
        refine hi.run s e1 _ fun F1 H1 J sF1 s1 feed => ?_
        intro D1 nD
        have nR : Fr D1 = none := s1.rh.free nD
        refine ⟨fun i m H2 => m = ds.length - i ∧ i ≤ ds.length ∧ ∃ F2 ρa xs as ys2, Same F1 F2 ∧ RpA X.prog X.w X.K F2 xs as ∧ xs.length ≤ i ∧ SX X T (upd Fr D1 (.lst xs)) F2 H2 θ (wipeS ρa vs) σ ∧ lcLoop g ft fe vs (ds.drop i) ρa = some (ys2, ρ2) ∧ ys = as ++ ys2,
          ⟨ds.length, by simp, Nat.zero_le _, F1, ρ1, [], [], ys, Same.refl F1, .nil, Nat.le_refl _, (s1.newR nD).wiped vs, by simpa using e2, rfl⟩, ?_⟩
        rintro i m H2 ⟨rfl, hle, F2, ρa, xs, as, ys2, sF2, ra, hx, s2, e3, ey⟩
        by_cases hlt : i < ds.length
        · obtain ⟨hgo, hy⟩ := (feed i sF2 s2).1 ds[i] (List.getElem?_eq_getElem hlt)
          rw [List.drop_eq_getElem_cons hlt] at e3
          refine .inr ⟨hgo, fun H3 => ∃ F2 ρa xs as ys2, Same F1 F2 ∧ RpA X.prog X.w X.K F2 xs as ∧ xs.length ≤ i + 1 ∧ SX X T (upd Fr D1 (.lst xs)) F2 H3 θ (wipeS ρa vs) σ ∧ lcLoop g ft fe vs (ds.drop (i + 1)) ρa = some (ys2, ρ2) ∧ ys = as ++ ys2,
            fun H3 ⟨F2, ρa, xs, as, ys2, h⟩ => ⟨ds.length - (i + 1), by omega, rfl, hlt, F2, ρa, xs, as, ys2, h⟩, fun x H3 hyy => ?_⟩
          obtain ⟨F3, sF3, s3, rx⟩ := hy x H3 hyy
          have s4 : SX X T (upd Fr D1 (.lst xs)) F3 H3 θ (wipeS ρa vs) (wipe σ vs) := s3.move fun j hj => wipe_get hj
          unfold lcLoop at e3
          split at e3
          · cases e3
          · rename_i ρb eb
            intro s0 H0 C cl fp
            refine (hg s0 H0 C cl fp).run s4 rx eb _ fun σ2 a2 l2 s5 => ?_
            have l2' : σ2.length = σ.length := l2.trans (wipe_length σ vs)
            have back : ∀ j, j ∉ vs → σ[j]? = σ2[j]? := fun j hj => ((a2 j fun z => hj (hts j z)).trans (wipe_get hj)).symm
            refine ⟨wipe_eq l2' a2 hts, ?_⟩
            split at e3
            · cases e3
            · rename_i ρc ec
              refine htt s5 ec _ fun F6 H6 sF6 s6 => ?_
              rw [if_neg Bool.false_ne_true]
              exact ⟨F6, ρc, xs, as, ys2, (sF2.trans sF3).trans sF6, ra.mono (sF3.trans sF6), by omega, (s6.wiped vs).move back, e3, ey⟩
            · rename_i ρc ec
              refine htt s5 ec _ fun F6 H6 sF6 s6 => ?_
              rw [if_pos rfl]
              split at e3
              · cases e3
              · rename_i y ρd ed
                split at e3
                · rename_i ys3 ρe ee
                  cases e3
                  intro s0 H0 C cl fp
                  refine (he s0 H0 C cl fp).run s6 ed _ fun F7 H7 v sF7 s7 rv => ?_
                  have hD : H7 D1 = some (.lst xs) := s7.rh _ _ upd_same
                  refine ⟨xs, hD, by omega, F7, ρd, xs ++ [v], as ++ [y], ys3, ((sF2.trans sF3).trans sF6).trans sF7, (ra.mono ((sF3.trans sF6).trans sF7)).snoc rv, by rw [List.length_append, List.length_singleton]; omega, ?_, ee, by rw [ey]; simp⟩
                  exact ((s7.grow fun ps z => by cases z).wiped vs).move back
                · cases e3
        · have ei : i = ds.length := by omega
          subst ei
          rw [List.drop_length] at e3
          cases e3
          refine .inl ⟨(feed _ sF2 s2).2 (Nat.le_refl _), ?_⟩
          rw [List.append_nil] at ey
          subst ey
          obtain ⟨s3, k1, k2, k3⟩ := s2.dropR nR
          have s4 := s1.restore sF2 s3
          refine q F2 H2 _ (sF1.trans sF2) s4 ⟨rfl, D1, rfl, ⟨k1, nR, fun z => absurd rfl z, xs, k2, ra⟩, fun j hj => ?_⟩
          obtain ⟨⟨t, o, a⟩, b⟩ := hj
          have hown : (wipeS ρ2 vs)[j]? = some (some (.own t o)) := by
            have key : ∀ us : List Nat, (restS ρ1 (wipeS ρ2 vs) us)[j]? = some (some (.own t o)) → (wipeS ρ2 vs)[j]? = some (some (.own t o)) := by
              intro us
              induction us with
              | nil => exact id
              | cons v us ih =>
                intro h
                unfold restS at h
                split at h
                · by_cases z : v = j
                  · subst z
                    by_cases l : v < (restS ρ1 (wipeS ρ2 vs) us).length
                    · rw [List.getElem?_set_self l] at h; cases h
                    · rw [List.getElem?_eq_none (by simpa using l)] at h; cases h
                  · rw [List.getElem?_set_ne z] at h
                    exact ih h
                · exact ih (set_none h)
            exact key vs a
          exact k3 j ⟨⟨t, o, hown⟩, b⟩
      · cases e
    · cases e
  · cases e
section
variable {R : Hp → V → D → Prop} {tg iter elt : Expr} {ifs : List Expr} {scope : Scope} {src : DI} {ts : List Nat} {g : D → Sl → Option Sl} {ft : DT} {fe : DD} {own : List (Str × Nat)}
theorem qe_lc (own : List (Str × Nat)) (c : CO X k) (hi : QIt T X R tg iter src) (hg : ∀ (s : Shared) (H0 : Hp) (C : Addr) (cl : List (Str × Addr)) (fp : List Addr), QGt T (BK X scope s H0 C cl fp) R tg ts g) (ht : QTs T X scope ifs ft) (he : ∀ (s : Shared) (H0 : Hp) (C : Addr) (cl : List (Str × Addr)) (fp : List Addr), QD T (BK X scope s H0 C cl fp) elt fe)
    (ok : blkC X.N X.env.scope scope own = true := by decide +kernel) (hts : ∀ j ∈ ts, j ∈ own.map (·.2) := by decide) (hs : ∀ x, foldedSetIterable iter X.env x = pure x := by intro _; rfl) : QE T X (.ListComp elt [⟨tg, iter, ifs, 0⟩] scope pos) (dLc src g ft fe (own.map (·.2))) := ⟨fun {Fr F H θ ρ ρ' σ r} s e Q q => by
  obtain ⟨tt, h1, h2⟩ := ht.run
  exact PE.we (pe_lc (g := gB X scope tg) (te := eB X scope elt) c.calm c.nd wi_pi (blkOk_by ok) (fun s H0 C cl fp => ⟨fun pins s1 σ1 H1 v u Q1 I r h => h s H0 C cl fp pins s1 u I r⟩) h1 (fun s H0 C cl fp => ⟨fun pins s1 σ1 H1 Q1 I h => h s H0 C cl fp pins s1 I⟩) hs) (lc_ok hi hts hg h2 he s e Q q)⟩
theorem qs_setLc (own : List (Str × Nat)) (i : Nat) {y : Str} {py spos : Pos} (c : CO X k) (hi : QIt T X R tg iter src) (hg : ∀ (s : Shared) (H0 : Hp) (C : Addr) (cl : List (Str × Addr)) (fp : List Addr), QGt T (BK X scope s H0 C cl fp) R tg ts g) (ht : QTs T X scope ifs ft) (he : ∀ (s : Shared) (H0 : Hp) (C : Addr) (cl : List (Str × Addr)) (fp : List Addr), QD T (BK X scope s H0 C cl fp) elt fe)
    (hsw : swapsWith (.ListComp elt [⟨tg, iter, ifs, 0⟩] scope pos) (some (.Name y py)) spos.line X.env = pure true) (ok : blkC X.N X.env.scope scope own = true := by decide +kernel) (hts : ∀ j ∈ ts, j ∈ own.map (·.2) := by decide) (hs : ∀ x, foldedSetIterable iter X.env x = pure x := by intro _; rfl)
    (hy : X.N[i]? = some y := by rfl) (hyl : X.env.scope.names.lookup y = some .local := by rfl) : QS T X (.Assign [.Name y py] (.ListComp elt [⟨tg, iter, ifs, 0⟩] scope pos) spos) (sSet i (dLc src g ft fe (own.map (·.2)))) := ⟨fun {Fr F H θ ρ ρ' σ fl} s e Dn q => WS.len fun hl => by
  obtain ⟨tt, h1, h2⟩ := ht.run
  unfold sSet at e
  split at e
  · rename_i r ρ1 e1
    cases e
    refine PS.ws (ps_setLc (g := gB X scope tg) (te := eB X scope elt) c.calm c.nd hy hyl hsw wi_pi (blkOk_by ok) (fun s H0 C cl fp => ⟨fun pins s1 σ1 H1 v u Q1 I r h => h s H0 C cl fp pins s1 u I r⟩) h1 (fun s H0 C cl fp => ⟨fun pins s1 σ1 H1 Q1 I h => h s H0 C cl fp pins s1 I⟩) hs) ?_
    refine lc_ok hi hts hg h2 he s e1 _ fun F1 H1 v sF s1 rv => ?_
    exact q F1 H1 _ sF (s1.store i rv (by rw [hl]; exact (List.getElem?_eq_some_iff.mp hy).1))
  · cases e⟩
end

/-! ### methods of an owned list -/
section
variable {a o : Expr} {fa : DD} {px apos cpos : Pos}
/-- xs.append(e) -/
def sApp (i : Nat) (fa : DD) : DSt := fun ρ => match ρ[i]? with
  | some (some (.own _ (.lst _))) => match fa ρ with
    | some (d, ρ1) => match ρ1[i]? with
      | some (some (.own t (.lst ds))) => if ds.length < sizeLine then some (.nx, ρ1.set i (some (.own t (.lst (ds ++ [d]))))) else none
      | _ => none
    | none => none
  | _ => none
theorem qs_app (i : Nat) {x : Str} (ha : QD T X a fa) (hN : X.N[i]? = some x := by rfl) (hv : Vis X.env.scope x := by first | exact Or.inl rfl | exact Or.inr (Or.inl rfl) | exact Or.inr (Or.inr rfl)) (hd : (x == ("__debug__" : Str)) = false := by decide)
    (hcd : (x == ("__classdict__" : Str)) = false := by decide) (hbase : attributeBase (.Name x px) "append" X.env (eval (.Name x px) X.env) = eval (.Name x px) X.env := by rfl)
    (hfew : ((backTo cpos (starEach [a] X.env)).all (fun x => !x.1) && (backToKw cpos (keywordEach [] X.env)).all (fun x => x.1.isSome) && decide ([a].length + ([] : List Keyword).length + (if ([] : List Keyword).isEmpty then 0 else 1) < 30)) = true := by rfl)
    (hline : (apos.endLine == cpos.line) = true := by rfl) (hs : starEach [a] X.env = (false, eval a X.env) :: starEach [] X.env := by rfl) (hplain : (backTo cpos (starEach [] X.env)).any (·.1) = false := by rfl)
    (hsw : swapsWith (.Call (.Attribute (.Name x px) "append" apos) [a] [] cpos) none pos.line X.env = pure false := by rfl) : QS T X (.Expr (.Call (.Attribute (.Name x px) "append" apos) [a] [] cpos) pos) (sApp i fa) := ⟨fun {Fr F H θ ρ ρ' σ fl} s e Dn q => by
  unfold sApp at e
  split at e
  · rename_i t0 ds0 e0
    split at e
    · rename_i d ρ1 e1
      split at e
      · rename_i t ds e2
        split at e
        · rename_i hl
          cases e
          refine PS.ws (ps_expr (pe_bm PySem.F.plainAttrs_list PySem.F.slot_list_append PySem.F.type_list_append mt_append (pe_var hN hv hd hcd) (pa_cons we_pe pa_nil hs) hbase hfew hline hs hplain) hsw) ?_
          obtain ⟨v0, hv0, p0, rfl, _, _, _, xs0, h0, _⟩ := s.sl i _ e0
          refine ⟨_, hv0, .inl ⟨rfl, xs0, .inl (.inl h0)⟩, ?_⟩
          refine ha.run s e1 _ fun F1 H1 v sF s1 rv => ?_
          obtain ⟨v1, hv1, p1, e3, k1, k2, k3, xs, k4, k5⟩ := s1.sl i _ e2
          rw [hv0] at hv1
          cases hv1
          cases e3
          refine ⟨p0, xs, v, rfl, rfl, k4, by rw [k5.length]; exact hl, ?_⟩
          exact q F1 _ σ sF (s1.write e2 hv0 ⟨xs ++ [v], upd_same, k5.snoc rv⟩)
        · cases e
      · cases e
    · cases e
  · cases e⟩
/-- xs.pop(e) -/
def dPop (i : Nat) (fa : DD) : DD := fun ρ => match ρ[i]? with
  | some (some (.own _ (.lst _))) => match fa ρ with
    | some (.int j, ρ1) => match ρ1[i]? with
      | some (some (.own t (.lst ds))) => if 0 ≤ j ∧ j < ds.length ∧ ds.length < 1000000 then match ds[j.toNat]? with
          | some d => some (d, ρ1.set i (some (.own t (.lst (ds.eraseIdx j.toNat)))))
          | none => none
        else none
      | _ => none
    | _ => none
  | _ => none
theorem qd_pop (i : Nat) {x : Str} (ha : QD T X a fa) (hN : X.N[i]? = some x := by rfl) (hv : Vis X.env.scope x := by first | exact Or.inl rfl | exact Or.inr (Or.inl rfl) | exact Or.inr (Or.inr rfl)) (hd : (x == ("__debug__" : Str)) = false := by decide)
    (hcd : (x == ("__classdict__" : Str)) = false := by decide) (hbase : attributeBase (.Name x px) "pop" X.env (eval (.Name x px) X.env) = eval (.Name x px) X.env := by rfl)
    (hfew : ((backTo cpos (starEach [a] X.env)).all (fun x => !x.1) && (backToKw cpos (keywordEach [] X.env)).all (fun x => x.1.isSome) && decide ([a].length + ([] : List Keyword).length + (if ([] : List Keyword).isEmpty then 0 else 1) < 30)) = true := by rfl)
    (hline : (apos.endLine == cpos.line) = true := by rfl) (hs : starEach [a] X.env = (false, eval a X.env) :: starEach [] X.env := by rfl) (hplain : (backTo cpos (starEach [] X.env)).any (·.1) = false := by rfl) : QD T X (.Call (.Attribute (.Name x px) "pop" apos) [a] [] cpos) (dPop i fa) := ⟨fun {Fr F H θ ρ ρ' σ dd} s e Q q => by
  unfold dPop at e
  split at e
  · rename_i t0 ds0 e0
    split at e
    · rename_i j ρ1 e1
      split at e
      · rename_i t ds e2
        split at e
        · rename_i hl
          split at e
          · rename_i d ed
            cases e
            refine PE.we (pe_bm PySem.F.plainAttrs_list PySem.F.slot_list_pop PySem.F.type_list_pop mt_popAt (pe_var hN hv hd hcd) (pa_cons we_pe pa_nil hs) hbase hfew hline hs hplain) ?_
            obtain ⟨v0, hv0, p0, rfl, _, _, _, xs0, h0, _⟩ := s.sl i _ e0
            refine ⟨_, hv0, .inl ⟨rfl, xs0, .inl (.inl h0)⟩, ?_⟩
            refine ha.run s e1 _ fun F1 H1 v sF s1 rv => ?_
            obtain rfl := rv.intV
            obtain ⟨v1, hv1, p1, e3, k1, k2, k3, xs, k4, k5⟩ := s1.sl i _ e2
            rw [hv0] at hv1
            cases hv1
            cases e3
            obtain ⟨y, hy, ry⟩ := k5.get ed
            refine ⟨p0, xs, j, j.toNat, y, rfl, rfl, k4, by omega, by omega, PySem.seqIndex_of hl.1 (by rw [k5.length]; exact hl.2.1), hy, ?_⟩
            exact q F1 _ y sF (s1.write e2 hv0 ⟨xs.eraseIdx j.toNat, upd_same, k5.eraseIdx _⟩) ry
          · cases e
        · cases e
      · cases e
    · cases e
  · cases e⟩
/-- xs[e] = v -/
def sSetIx (i : Nat) (fb fv : DD) : DSt := fun ρ => match fv ρ with
  | some (d, ρ1) => match ρ1[i]? with
    | some (some (.own _ (.lst _))) => match fb ρ1 with
      | some (.int j, ρ2) => match ρ2[i]? with
        | some (some (.own t (.lst ds))) => match ixN ds.length j with
          | some n => some (.nx, ρ2.set i (some (.own t (.lst (ds.set n d)))))
          | none => none
        | _ => none
      | _ => none
    | _ => none
  | none => none
theorem qs_setIx (i : Nat) {x : Str} {b v : Expr} {fb fv : DD} {tpos : Pos} (hb : QD T X b fb) (hvv : QD T X v fv) (hN : X.N[i]? = some x := by rfl) (hv : Vis X.env.scope x := by first | exact Or.inl rfl | exact Or.inr (Or.inl rfl) | exact Or.inr (Or.inr rfl)) (hd : (x == ("__debug__" : Str)) = false := by decide)
    (hcd : (x == ("__classdict__" : Str)) = false := by decide) (hs : swapsWithSole [.Subscript (.Name x px) b tpos] v pos.line X.env = pure false := by rfl) (hw : swappedStores [.Subscript (.Name x px) b tpos] v X.env = pure none := by rfl) (h1 : (assignEach [.Subscript (.Name x px) b tpos] X.env).map (·.2) = [assign (.Subscript (.Name x px) b tpos) X.env] := by rfl)
    (hss : ∀ u, assign (.Subscript (.Name x px) b tpos) X.env u = (do
      let ov ← holding [u] (eval (.Name x px) X.env)
      let iv ← holding [u, ov] (eval b X.env)
      standAt tpos
      holding [u, ov, iv] (setItem ov iv u)
      release [u, ov, iv] []) := by intro _; rfl) : QS T X (.Assign [.Subscript (.Name x px) b tpos] v pos) (sSetIx i fb fv) := ⟨fun {Fr F H θ ρ ρ' σ fl} s e Dn q => by
  unfold sSetIx at e
  split at e
  · rename_i d ρ1 e1
    split at e
    · rename_i t0 ds0 e0
      split at e
      · rename_i j ρ2 e2
        split at e
        · rename_i t ds e3
          split at e
          · rename_i n hn
            cases e
            refine PS.ws (ps_asg we_pe (pg_sub (pe_var hN hv hd hcd) we_pe set_list hss) hs hw h1) ?_
            refine hvv.run s e1 _ fun F1 H1 v1 sF1 s1 rv1 => ?_
            obtain ⟨v0, hv0, p0, rfl, _⟩ := s1.sl i _ e0
            refine ⟨_, hv0, ?_⟩
            refine hb.run s1 e2 _ fun F2 H2 v2 sF2 s2 rv2 => ?_
            obtain rfl := rv2.intV
            obtain ⟨v3, hv3, p3, e4, k1, k2, k3, xs, k4, k5⟩ := s2.sl i _ e3
            rw [hv0] at hv3
            cases hv3
            cases e4
            refine ⟨p0, xs, j, n, rfl, rfl, k4, by rw [k5.length]; exact hn, ?_⟩
            exact q F2 _ σ (sF1.trans sF2) (s2.write e3 hv0 ⟨xs.set n v1, upd_same, k5.set (Rp.mono sF2 rv1) n⟩)
          · cases e
        · cases e
      · cases e
    · cases e
  · cases e⟩
/-! t.index(x), t a tuple of whole numbers -/
theorem pe_mtF {e : Expr} {es : List Expr} {to : TE} {t : TA} {name : Str} {Ty id : String} {r : V → List V → Hp → VK → Prop} (tyF : V → Hp → Prop) (hty : ∀ (pins : List (Addr × Obj)) (σ : L2.St) (H : Hp) (s : Shared) (x : V) (v : Value), Inv X pins σ H s → RelV x v → tyF x H → s.TypeIs v Ty ∧ ∀ a, v = .ref a → ∃ ob, s.heap.get? a = some ob ∧ ob.dict = none)
    (pa : PlainAttrs Ty) (slot : Slot Ty name id) (htd : typeOf (.builtin id) = pure (.type "method_descriptor")) (hm : MtR X id r) (ho : PE X o to) (ha : PA X (e :: es) t) (hbase : attributeBase o name X.env (eval o X.env) = eval o X.env)
    (hfew : ((backTo cpos (starEach (e :: es) X.env)).all (fun x => !x.1) && (backToKw cpos (keywordEach [] X.env)).all (fun x => x.1.isSome) && decide ((e :: es).length + ([] : List Keyword).length + (if ([] : List Keyword).isEmpty then 0 else 1) < 30)) = true)
    (hline : (apos.endLine == cpos.line) = true) (hs : starEach (e :: es) X.env = (false, eval e X.env) :: starEach es X.env) (hplain : (backTo cpos (starEach es X.env)).any (·.1) = false) :
    PE X (.Call (.Attribute o name apos) (e :: es) [] cpos) (fun σ H Q => to σ H fun x H1 => tyF x H1 ∧ t σ H1 fun xs H2 => r x xs H2 Q) := ⟨fun pins s σ H Q I h =>
  wpAny_Call_method_late hbase hfew hline rfl (thn (ho.run pins s σ H _ I h) fun v s1 ⟨x, H1, I1, r1, ty, q1⟩ => by
    obtain ⟨h1, h2⟩ := hty pins σ H1 s1 x v I1 r1 ty
    refine ⟨Ty, id, pa, slot, htd, h1, h2, ?_⟩
    have hA := ha.run cpos pins s1 σ H1 _ I1 q1
    rw [hs] at hA ⊢
    exact Calls.callWith_builtin (by show (false || (backTo cpos (starEach es X.env)).any (·.1)) = false; rw [hplain]; rfl) (Calls.evalArgs_plain (thn hA fun us s2 ⟨vs, H2, I2, r2, q2⟩ => hm pins s2 σ H2 x vs v us Q I2 r1 r2 q2)))⟩
def rTIx (K : PySem.W.Frag) : V → List V → Hp → VK → Prop := fun x xs H Q => ∃ (a : Addr) (ns : List Int) (n : Int), x = .ref a ∧ xs = [.int n] ∧ SqT K H a (ns.map V.int) ∧ n ∈ ns ∧ Q (.int (ns.idxOf n : Nat)) H
theorem mt_tix : MtR X "tuple.index" (rTIx X.K) := fun pins s σ H x xs v us Q I rx rs ⟨a, ns, n, ex, es, hq, hn, q⟩ => by
  subst ex es
  cases rx
  obtain ⟨u, rfl, t, rfl⟩ := vals1 rs
  obtain ⟨ws, rv, pl, _⟩ := I.tuple hq
  exact PySem.SeqAt.tuple_index_ints (show s.heap.IsTuple a ws.toArray from pl) rv.ints hn ⟨.int (ns.idxOf n : Nat), H, I.tok _, ⟨_, rfl⟩, q⟩
def intsOf : List D → Option (List Int)
  | [] => some []
  | .int i :: ds => match intsOf ds with
    | some l => some (i :: l)
    | none => none
  | _ => none
theorem intsOf_ok {P : Program} {w : World} {K : PySem.W.Frag} {F : Hp} : ∀ {vs : List V} {ds : List D} {l : List Int}, intsOf ds = some l → RpA P w K F vs ds → vs = l.map V.int
  | _, [], _, e, .nil => by cases e; rfl
  | _, d :: ds, _, e, .cons r t => by
    cases d with
    | int i =>
      unfold intsOf at e
      split at e
      · rename_i l e1
        cases e
        rw [intsOf_ok e1 t, r.intV]
        rfl
      · cases e
    | _ => cases e
def gTIx : D → D → Option SV
  | .tuple ds, .int n => match intsOf ds with
    | some l => if n ∈ l then some (.dat (.int (l.idxOf n : Nat))) else none
    | none => none
  | _, _ => none
theorem qe_tix {fo : DD} (ho : QD T X o fo) (ha : QD T X a fa) (hbase : attributeBase o "index" X.env (eval o X.env) = eval o X.env := by rfl)
    (hfew : ((backTo cpos (starEach [a] X.env)).all (fun x => !x.1) && (backToKw cpos (keywordEach [] X.env)).all (fun x => x.1.isSome) && decide ([a].length + ([] : List Keyword).length + (if ([] : List Keyword).isEmpty then 0 else 1) < 30)) = true := by rfl)
    (hline : (apos.endLine == cpos.line) = true := by rfl) (hs : starEach [a] X.env = (false, eval a X.env) :: starEach [] X.env := by rfl) (hplain : (backTo cpos (starEach [] X.env)).any (·.1) = false := by rfl) : QE T X (.Call (.Attribute o "index" apos) [a] [] cpos) (dOp2 gTIx fo fa) := ⟨fun {Fr F H θ ρ ρ' σ z} s e Q q => by
  unfold dOp2 at e
  split at e
  · rename_i a1 ρ1 e1
    split at e
    · rename_i b1 ρ2 e2
      split at e
      · rename_i z1 e3
        cases e
        unfold gTIx at e3
        split at e3
        · rename_i ds n
          split at e3
          · rename_i l el
            split at e3
            · rename_i hn
              cases e3
              refine PE.we (pe_mtF (fun x H => ∃ b xs, x = .ref b ∧ TupR H b xs) (fun pins σ1 H1 s1 x v I r ⟨b, xs, ex, o1, hb, hdn⟩ => ?_) PySem.F.plainAttrs_tuple PySem.F.slot_tuple_index PySem.F.type_tuple_index mt_tix we_pe (pa_cons we_pe pa_nil hs) hbase hfew hline hs hplain) ?_
              · subst ex
                cases r
                obtain ⟨e4, _, _, _, o2, e5, e6, _⟩ := I.hok b _ hb
                rw [e4] at e5
                cases e5
                exact ⟨⟨o1, e4, e6⟩, fun a2 z => by cases z; exact ⟨o1, e4, hdn⟩⟩
              · refine ho.run s e1 _ fun F1 H1 v1 sF1 s1 r1 => ?_
                obtain ⟨b, xs, rfl, h1, t1⟩ := r1.tupV
                refine ⟨⟨b, xs, rfl, Same.tupR s1.fh h1⟩, ?_⟩
                refine ha.run s1 e2 _ fun F2 H2 v2 sF2 s2 r2 => ?_
                obtain rfl := r2.intV
                have hx := intsOf_ok el t1
                subst hx
                exact ⟨b, l, n, rfl, rfl, Same.sqT (sF2.trans s2.fh) h1, hn, q F2 H2 _ (sF1.trans sF2) s2 (.int _)⟩
            · cases e3
          · cases e3
        · cases e3
      · cases e
    · cases e
  · cases e⟩
end
end
end LQ
set_option Elab.async false
set_option autoImplicit false
set_option linter.all false
set_option maxRecDepth 100000
set_option maxHeartbeats 4000000
/-! LQ6: dicts whose keys are tuples. -/
namespace LQ
open PySem PySem.Spec PyProof.Rows L2

/-! ### entries -/
def atE (es : DE3) (k : NestedKey) : Option (Addr × V) := (es.find? fun x => decide (x.1 = k)).map (·.2)
def putE (es : DE3) (k : NestedKey) (a : Addr) (v : V) : DE3 := if (atE es k).isSome = true then es.map fun x => if x.1 = k then (x.1, x.2.1, v) else x else es ++ [(k, a, v)]
/-- on the data's side -/
def isKey (k : NestedKey) (p : D × D) : Bool := decide (keyOf p.1 = some k)
def atD (kvs : List (D × D)) (k : NestedKey) : Option D := (kvs.find? (isKey k)).map (·.2)
def putD (kvs : List (D × D)) (kd : D) (k : NestedKey) (d : D) : List (D × D) := if (atD kvs k).isSome = true then kvs.map fun p => if isKey k p = true then (p.1, d) else p else kvs ++ [(kd, d)]
abbrev EV : (NestedKey × Addr × V) → (NestedKey × Addr × Value) → Prop := fun p q => p.1 = q.1 ∧ p.2.1 = q.2.1 ∧ RelV p.2.2 q.2.2
theorem ev_at {k : NestedKey} : ∀ {es : DE3} {xs : List (NestedKey × Addr × Value)}, Paired EV es xs → (atE es k = none ∧ atKey xs k = none) ∨ ∃ a v u, atE es k = some (a, v) ∧ atKey xs k = some (a, u) ∧ RelV v u
  | _, _, .nil => .inl ⟨rfl, rfl⟩
  | (k1, a1, v1) :: es, (k2, a2, u2) :: xs, .cons h t => by
    obtain ⟨rfl, rfl, r⟩ := h
    by_cases e : k1 = k
    · exact .inr ⟨a1, v1, u2, by simp [atE, e], by simp [atKey, e], r⟩
    · rcases ev_at (k := k) t with ⟨h1, h2⟩ | ⟨a, v, u, h1, h2, h3⟩
      · exact .inl ⟨by simpa [atE, e] using h1, by simpa [atKey, e] using h2⟩
      · exact .inr ⟨a, v, u, by simpa [atE, e] using h1, by simpa [atKey, e] using h2, h3⟩
theorem ev_map {k : NestedKey} {v : V} {u : Value} (r : RelV v u) : ∀ {es : DE3} {xs : List (NestedKey × Addr × Value)}, Paired EV es xs → Paired EV (es.map fun x => if x.1 = k then (x.1, x.2.1, v) else x) (xs.map (putAt k u))
  | _, _, .nil => .nil
  | (k1, a1, v1) :: es, (k2, a2, u2) :: xs, .cons h t => by
    obtain ⟨rfl, rfl, r1⟩ := h
    refine .cons ?_ (ev_map r t)
    by_cases e : k1 = k
    · simp only [putAt, e, if_true]; exact ⟨rfl, rfl, r⟩
    · simp only [putAt, e, if_false]; exact ⟨rfl, rfl, r1⟩
theorem pd_append {α β : Type} {R : α → β → Prop} : ∀ {a b : List α} {c d : List β}, Paired R a c → Paired R b d → Paired R (a ++ b) (c ++ d)
  | _, _, _, _, .nil, h => h
  | _, _, _, _, .cons r t, h => .cons r (pd_append t h)
theorem ev_put {k : NestedKey} {a : Addr} {v : V} {u : Value} (r : RelV v u) {es : DE3} {xs : List (NestedKey × Addr × Value)} (h : Paired EV es xs) : Paired EV (putE es k a v) (storedH xs k a u) := by
  unfold putE storedH
  rcases ev_at (k := k) h with ⟨h1, h2⟩ | ⟨b, v1, u1, h1, h2, _⟩
  · rw [h1, h2]
    exact pd_append h (.cons ⟨rfl, rfl, r⟩ .nil)
  · rw [h1, h2]
    exact ev_map r h
theorem putE_length (es : DE3) (k : NestedKey) (a : Addr) (v : V) : (putE es k a v).length ≤ es.length + 1 := by
  unfold putE
  split
  · rw [List.length_map]; omega
  · rw [List.length_append, List.length_singleton]; omega
section
variable {P : Program} {w : World} {K : PySem.W.Frag} {F : Hp}
theorem rpE_at {k : NestedKey} : ∀ {es : DE3} {kvs : List (D × D)}, RpE P w K F es kvs → (atE es k = none ∧ atD kvs k = none) ∨ ∃ a v d, atE es k = some (a, v) ∧ atD kvs k = some d ∧ Rp P w K F v d
  | _, _, .nil => .inl ⟨rfl, rfl⟩
  | (k1, a1, v1) :: es, (kd, d) :: kvs, .cons hk hd h1 h2 t => by
    by_cases e : k1 = k
    · subst e
      exact .inr ⟨a1, v1, d, by simp [atE], by simp [atD, isKey, hk], h2⟩
    · have ne : ¬ (keyOf kd = some k) := by rw [hk]; simpa using e
      rcases rpE_at (k := k) t with ⟨h3, h4⟩ | ⟨a, v, d', h3, h4, h5⟩
      · exact .inl ⟨by simpa [atE, e] using h3, by simpa [atD, isKey, ne] using h4⟩
      · exact .inr ⟨a, v, d', by simpa [atE, e] using h3, by simpa [atD, isKey, ne] using h4, h5⟩
theorem rpE_map {k : NestedKey} {v : V} {d : D} (r : Rp P w K F v d) : ∀ {es : DE3} {kvs : List (D × D)}, RpE P w K F es kvs → RpE P w K F (es.map fun x => if x.1 = k then (x.1, x.2.1, v) else x) (kvs.map fun p => if isKey k p = true then (p.1, d) else p)
  | _, _, .nil => .nil
  | (k1, a1, v1) :: es, (kd, d1) :: kvs, .cons hk hd h1 h2 t => by
    by_cases e : k1 = k
    · subst e
      have hi : isKey k1 (kd, d1) = true := by simp [isKey, hk]
      simp only [List.map_cons, hi, if_true]
      exact .cons hk hd h1 r (rpE_map r t)
    · have hi : isKey k (kd, d1) = false := by
        unfold isKey
        rw [hk]
        exact decide_eq_false (by simpa using e)
      simp only [List.map_cons, e, hi, if_false]
      exact .cons hk hd h1 h2 (rpE_map r t)
theorem RpE.append : ∀ {a b : DE3} {c d : List (D × D)}, RpE P w K F a c → RpE P w K F b d → RpE P w K F (a ++ b) (c ++ d)
  | _, _, _, _, .nil, h => h
  | _, _, _, _, .cons hk hd h1 h2 t, h => .cons hk hd h1 h2 (RpE.append t h)
theorem rpE_put {k : NestedKey} {a : Addr} {v : V} {kd d : D} (hk : keyOf kd = some k) (hd : k.depth ≤ 8) (ra : Rp P w K F (.ref a) kd) (r : Rp P w K F v d) {es : DE3} {kvs : List (D × D)} (h : RpE P w K F es kvs) : RpE P w K F (putE es k a v) (putD kvs kd k d) := by
  unfold putE putD
  rcases rpE_at (k := k) h with ⟨h1, h2⟩ | ⟨b, v1, d1, h1, h2, _⟩
  · rw [h1, h2]
    exact h.append (.cons hk hd ra r .nil)
  · rw [h1, h2]
    exact rpE_map r h
theorem RpE.length : ∀ {es : DE3} {kvs : List (D × D)}, RpE P w K F es kvs → es.length = kvs.length
  | _, _, .nil => rfl
  | _, _, .cons _ _ _ _ t => by rw [List.length_cons, List.length_cons, RpE.length t]
end

/-! ### the heap's side -/
section
variable {T : Addr → Prop} {X : Cx} {k : Nat} {pos : Pos} {pins : List (Addr × Obj)} {σ : L2.St} {H : Hp} {s : Shared}
mutual
theorem rp_nested (I : Inv X pins σ H s) : ∀ (d : D) (v : V) (u : Value) (kk : NestedKey), PX X H v d → RelV v u → keyOf d = some kk → NestedIs s.heap kk u
  | .none, _, _, _, h, r, e => by
    cases h; cases r
    simp only [keyOf] at e
    cases e
    exact .none
  | .bool b, _, _, _, h, r, e => by
    cases h; cases r
    simp only [keyOf] at e
    cases e
    exact .bool rfl
  | .int i, _, _, _, h, r, e => by
    cases h
    obtain ⟨t, rfl⟩ := r
    simp only [keyOf] at e
    cases e
    exact .int i t
  | .str x, _, _, _, h, r, e => by
    cases h
    obtain ⟨t, rfl⟩ := r
    simp only [keyOf] at e
    cases e
    exact .text x t
  | .list _, _, _, _, _, _, e => by simp [keyOf] at e
  | .dict _, _, _, _, _, _, e => by simp [keyOf] at e
  | .tuple ds, _, _, _, h, r, e => by
    cases h with
    | tup ht ha =>
      cases r
      simp only [keyOf] at e
      cases hk : keyAll ds with
      | none => rw [hk] at e; cases e
      | some ks =>
        rw [hk] at e
        cases e
        obtain ⟨us, rv, ⟨o, ho, hc, n, hd⟩, _⟩ := I.tuple (TupR.sq ht)
        exact .tup ho hc hd (rp_nestedAll I ds _ us ks ha rv hk)
theorem rp_nestedAll (I : Inv X pins σ H s) : ∀ (ds : List D) (vs : List V) (us : List Value) (ks : List NestedKey), RpA X.prog X.w X.K H vs ds → Vals vs us → keyAll ds = some ks → NestedAll s.heap ks us
  | [], _, _, _, h, r, e => by
    cases h; cases r
    simp only [keyAll] at e
    cases e
    exact .nil
  | d :: ds, _, _, _, h, r, e => by
    cases h with
    | cons h1 h2 =>
      cases r with
      | cons r1 r2 =>
        simp only [keyAll] at e
        split at e
        · rename_i k1 ks1 e1 e2
          cases e
          exact .cons (rp_nested I d _ _ k1 h1 r1 e1) (rp_nestedAll I ds _ _ ks1 h2 r2 e2)
        · cases e
end
/-- what stands at a, as a key -/
def KeyAt (X : Cx) (H : Hp) (a : Addr) (kk : NestedKey) : Prop := ∃ kd, PX X H (.ref a) kd ∧ keyOf kd = some kk ∧ kk.depth ≤ 8
theorem KeyAt.is {a : Addr} {kk : NestedKey} (I : Inv X pins σ H s) (h : KeyAt X H a kk) : (nestedKind X.prog X.w).is s.heap kk a := let ⟨kd, h1, h2, h3⟩ := h; ⟨rp_nested I kd (.ref a) (.ref a) kk h1 rfl h2, h3⟩
def KeysAt (X : Cx) (H : Hp) (es : DE3) : Prop := ∀ e ∈ es, KeyAt X H e.2.1 e.1
theorem keysAt_of {F : Hp} (sF : Same F H) : ∀ {es : DE3} {kvs : List (D × D)}, RpE X.prog X.w X.K F es kvs → KeysAt X H es
  | _, _, .nil => fun e he => nomatch he
  | _, _, .cons hk hd h1 _ t => fun e he => by
    rcases List.mem_cons.mp he with rfl | he
    · exact ⟨_, Rp.mono sF h1, hk, hd⟩
    · exact keysAt_of sF t e he
theorem dict_of {a : Addr} {es : DE3} (I : Inv X pins σ H s) (h : H a = some (dkO X.prog X.w a es)) (hk : KeysAt X H es) : es.length ≤ sizeLine ∧ (a == sysModules) = false ∧ ∃ xs, Paired EV es xs ∧ s.heap.DictOfH (nestedKind X.prog X.w) a xs := by
  obtain ⟨⟨h1, h2, xs, h3, o, es', ep, h4, h5, h6, h7, h8⟩, _, _⟩ := I.hok a _ h
  refine ⟨h1, h2, xs, h3, o, es', ep, h4, h5, h6, h7, fun x hx => ?_, h8⟩
  obtain ⟨i, hi, e⟩ := List.getElem_of_mem hx
  have key : ∀ {es : DE3} {xs : List (NestedKey × Addr × Value)}, Paired EV es xs → ∀ x ∈ xs, ∃ e ∈ es, e.1 = x.1 ∧ e.2.1 = x.2.1 := by
    intro es xs hp
    induction hp with
    | nil => intro x hx; cases hx
    | cons r t ih =>
      intro x hx
      rcases List.mem_cons.mp hx with rfl | hx
      · exact ⟨_, List.mem_cons_self, r.1, r.2.1⟩
      · obtain ⟨e, he, h⟩ := ih x hx
        exact ⟨e, List.mem_cons_of_mem _ he, h⟩
  obtain ⟨e0, he0, q1, q2⟩ := key h3 x hx
  have := (hk e0 he0).is I
  rw [q1, q2] at this
  exact this
theorem dkPhi_at {P : Program} {w : World} {a : Addr} {es : DE3} {H' : Hp} {h' : Heap} {xs : List (NestedKey × Addr × Value)} (hl : es.length ≤ sizeLine) (hs : (a == sysModules) = false) (r : Paired EV es xs) (hm : h'.DictOfH (nestedKind P w) a xs) : ObjOk P w H' h' a (dkO P w a es) := by
  obtain ⟨o, es', ep, h1, h2, h3, h4, _, h5⟩ := hm
  refine ⟨⟨hl, hs, xs, r, o, es', ep, h1, h2, h3, h4, h5⟩, ⟨o, h1⟩, fun g g' hp hk => ?_⟩
  obtain ⟨a1, a2, ys, a3, o2, es2, ep2, b1, b2, b3, b4, b5⟩ := hp
  exact ⟨a1, a2, ys, a3, o2, es2, ep2, hk _ b1, b2, b3, b4, b5⟩

/-! ### rules by values -/
theorem room_key (c : CO X k) : (nestedKind X.prog X.w).room X.A.in1 := by
  show X.A.units + 1 + 8 < cLine
  have := c.room.units
  omega
def rInDct (X : Cx) (neg : Bool) : R2 := fun x y H Q => ∃ a d es kk, x = .ref a ∧ y = .ref d ∧ H d = some (dkO X.prog X.w d es) ∧ KeysAt X H es ∧ KeyAt X H a kk ∧ Q (.bl (if neg = true then !(atE es kk).isSome else (atE es kk).isSome)) H
theorem ev_isSome {kk : NestedKey} {es : DE3} {xs : List (NestedKey × Addr × Value)} (h : Paired EV es xs) : (atKey xs kk).isSome = (atE es kk).isSome := by
  rcases ev_at (k := kk) h with ⟨h1, h2⟩ | ⟨b, v1, u1, h1, h2, _⟩ <;> rw [h1, h2] <;> rfl
theorem op_inDct (c : CO X k) : OpR X (compareOp .In) (rInDct X false) := fun pins s σ H x y v u Q I rx ry ⟨a, d, es, kk, ex, ey, h1, h2, h3, q⟩ => by
  subst ex ey
  cases rx
  cases ry
  obtain ⟨_, hs, xs, r, hm⟩ := dict_of I h1 h2
  refine wpAny_in_heap (room_key c) (h3.is I) hs hm ?_
  rw [ev_isSome r]
  exact ⟨.bl _, H, I.tok _, rfl, q⟩
theorem op_ninDct (c : CO X k) : OpR X (compareOp .NotIn) (rInDct X true) := fun pins s σ H x y v u Q I rx ry ⟨a, d, es, kk, ex, ey, h1, h2, h3, q⟩ => by
  subst ex ey
  cases rx
  cases ry
  obtain ⟨_, hs, xs, r, hm⟩ := dict_of I h1 h2
  refine notIn_keyed (room_key c) (h3.is I) hs ⟨xs, hm, rfl⟩ ?_
  rw [valueAt_pairsH, Option.isSome_map, ev_isSome r]
  exact ⟨.bl _, H, I.tok _, rfl, q⟩
def rSetDct (X : Cx) : V → V → V → Hp → (Hp → Prop) → Prop := fun o i v H Q => ∃ a d es kk, i = .ref a ∧ o = .ref d ∧ H d = some (dkO X.prog X.w d es) ∧ KeysAt X H es ∧ KeyAt X H a kk ∧ es.length < sizeLine ∧ Q (upd H d (dkO X.prog X.w d (putE es kk a v)))
theorem set_dct (c : CO X k) : PSet X (rSetDct X) := fun pins s σ H o i v ov iv u Q I ro ri rv ⟨a, d, es, kk, ei, eo, h1, h2, h3, hl, q⟩ => by
  subst ei eo
  cases ro
  cases ri
  obtain ⟨hz, hs, xs, r, hm⟩ := dict_of I h1 h2
  refine wpAny_setItem_heap (hsz := by rw [← paired_len r]; exact hz) (room_key c) (h3.is I) hm fun h' hm' hsb => ?_
  have he : ∃ q, h'.get? d = some q := let ⟨q, _, _, hq, _⟩ := hm'; ⟨q, hq⟩
  have hp := putE_length es kk a v
  exact ⟨_, I.write (x := d) (e := d) (by rw [h1]; exact True.intro) (.inl rfl) (fun b ob hb z => (hsb.2 b hb).trans z) he (dkPhi_at (by omega) hs (ev_put rv r) hm'), q⟩
def rIxDct (X : Cx) : R2 := fun x y H Q => ∃ a d es kk b z, x = .ref d ∧ y = .ref a ∧ H d = some (dkO X.prog X.w d es) ∧ KeysAt X H es ∧ KeyAt X H a kk ∧ atE es kk = some (b, z) ∧ Q z H

/-! ### k in d, k not in d, d a name -/
def keyD (d : D) : Option NestedKey := match d with
  | .tuple _ => match keyOf d with
    | some kk => if kk.depth ≤ 8 then some kk else none
    | none => none
  | _ => none
theorem keyD_ok {P : Program} {w : World} {K : PySem.W.Frag} {F : Hp} {v : V} {d : D} {kk : NestedKey} (e : keyD d = some kk) (r : Rp P w K F v d) : keyOf d = some kk ∧ kk.depth ≤ 8 ∧ ∃ a, v = .ref a := by
  unfold keyD at e
  split at e
  · split at e
    · rename_i k2 e2
      split at e
      · rename_i h
        cases e
        obtain ⟨a, _, e3, _⟩ := r.tupV
        exact ⟨e2, h, a, e3⟩
      · cases e
    · cases e
  · cases e
/-- the dict that a slot has -/
def slD (i : Nat) (ρ : Sl) : Option (List (D × D)) := match ρ[i]? with
  | some (some (.own _ (.dct kvs))) => some kvs
  | some (some (.dat (.dict kvs))) => some kvs
  | _ => none
theorem slD_ok {Fr F : Hp} {θ : Nat → Addr} {ρ : Sl} {i : Nat} {kvs : List (D × D)} (s : SX X T Fr F H θ ρ σ) (e : slD i ρ = some kvs) : ∃ d es, σ[i]? = some (some (.ref d)) ∧ H d = some (dkO X.prog X.w d es) ∧ RpE X.prog X.w X.K F es kvs := by
  unfold slD at e
  split at e
  · rename_i t kvs1 e1
    cases e
    obtain ⟨v, hv, p, rfl, _, _, _, es, h1, h2⟩ := s.sl i _ e1
    exact ⟨p, es, hv, h1, h2⟩
  · rename_i kvs1 e1
    cases e
    obtain ⟨v, hv, r⟩ := s.sl i _ e1
    obtain ⟨a, es, rfl, h1, h2⟩ := Rp.dctV r
    exact ⟨a, es, hv, s.fh _ _ h1, h2⟩
  · cases e
def dInO (neg : Bool) (i : Nat) (fa : DD) : DT := fun ρ => match fa ρ with
  | some (a, ρ1) => match keyD a with
    | some kk => match slD i ρ1 with
      | some kvs => some (if neg = true then !(atD kvs kk).isSome else (atD kvs kk).isSome, ρ1)
      | none => none
    | none => none
  | none => none
section
variable {a : Expr} {fa : DD} {px : Pos} {x : Str}
theorem inO_core {op : CmpOp} (neg : Bool) (i : Nat) {Fr F : Hp} {θ : Nat → Addr} {ρ ρ' : Sl} {z : Bool} (ha : QD T X a fa) (s : SX X T Fr F H θ ρ σ) (e : dInO neg i fa ρ = some (z, ρ')) (Q : VK) (q : ∀ F' H', Same F F' → SX X T Fr F' H' θ ρ' σ → Q (.bl z) H') :
    tOp (rInDct X neg) (WE X a) (tVar i) σ H Q := by
  unfold dInO at e
  split at e
  · rename_i a1 ρ1 e1
    split at e
    · rename_i kk e2
      split at e
      · rename_i kvs e3
        cases e
        refine ha.run s e1 _ fun F1 H1 v sF s1 rv => ?_
        obtain ⟨k1, k2, b, rfl⟩ := keyD_ok e2 rv
        obtain ⟨d, es, hv, hd, re⟩ := slD_ok s1 e3
        refine ⟨.ref d, hv, b, d, es, kk, rfl, rfl, hd, keysAt_of s1.fh re, ⟨a1, Rp.mono s1.fh rv, k1, k2⟩, ?_⟩
        have : (atE es kk).isSome = (atD kvs kk).isSome := by
          rcases rpE_at (k := kk) re with ⟨h1, h2⟩ | ⟨b, v1, u1, h1, h2, _⟩ <;> rw [h1, h2] <;> rfl
        rw [this]
        exact q F1 H1 sF s1
      · cases e
    · cases e
  · cases e
theorem qt_inO (i : Nat) (c : CO X k) (ha : QD T X a fa) (hN : X.N[i]? = some x := by rfl) (hv : Vis X.env.scope x := by first | exact Or.inl rfl | exact Or.inr (Or.inl rfl) | exact Or.inr (Or.inr rfl)) (hd : (x == ("__debug__" : Str)) = false := by decide)
    (hcd : (x == ("__classdict__" : Str)) = false := by decide) (hm : behindInMarks .In (.Name x px) = false := by rfl) : QT T X (.Compare a [.In] [.Name x px] pos) (dInO false i fa) :=
  ⟨_, pt_cmpR (op_inDct c) we_pe (pe_var hN hv hd hcd) hm, fun {Fr F H θ ρ ρ' σ z} s e Q q => inO_core (op := .In) false i ha s e _ fun F1 H1 sF s1 => ⟨_, rfl, q F1 H1 sF s1⟩⟩
theorem qt_ninO (i : Nat) (c : CO X k) (ha : QD T X a fa) (hN : X.N[i]? = some x := by rfl) (hv : Vis X.env.scope x := by first | exact Or.inl rfl | exact Or.inr (Or.inl rfl) | exact Or.inr (Or.inr rfl)) (hd : (x == ("__debug__" : Str)) = false := by decide)
    (hcd : (x == ("__classdict__" : Str)) = false := by decide) (hm : behindInMarks .NotIn (.Name x px) = false := by rfl) : QT T X (.Compare a [.NotIn] [.Name x px] pos) (dInO true i fa) :=
  ⟨_, pt_cmpR (op_ninDct c) we_pe (pe_var hN hv hd hcd) hm, fun {Fr F H θ ρ ρ' σ z} s e Q q => inO_core (op := .NotIn) true i ha s e _ fun F1 H1 sF s1 => ⟨_, rfl, q F1 H1 sF s1⟩⟩
/-! d[k] = v -/
def sSetD (i : Nat) (fb fv : DD) : DSt := fun ρ => match fv ρ with
  | some (d, ρ1) => match slD i ρ1 with
    | some _ => match fb ρ1 with
      | some (kd, ρ2) => match keyD kd with
        | some kk => match ρ2[i]? with
          | some (some (.own t (.dct kvs))) => if kvs.length < sizeLine then some (.nx, ρ2.set i (some (.own t (.dct (putD kvs kd kk d))))) else none
          | _ => none
        | none => none
      | none => none
    | none => none
  | none => none
theorem qs_setD (i : Nat) {b v : Expr} {fb fv : DD} {tpos : Pos} (c : CO X k) (hb : QD T X b fb) (hvv : QD T X v fv) (hN : X.N[i]? = some x := by rfl) (hv : Vis X.env.scope x := by first | exact Or.inl rfl | exact Or.inr (Or.inl rfl) | exact Or.inr (Or.inr rfl)) (hd : (x == ("__debug__" : Str)) = false := by decide)
    (hcd : (x == ("__classdict__" : Str)) = false := by decide) (hs : swapsWithSole [.Subscript (.Name x px) b tpos] v pos.line X.env = pure false := by rfl) (hw : swappedStores [.Subscript (.Name x px) b tpos] v X.env = pure none := by rfl) (h1 : (assignEach [.Subscript (.Name x px) b tpos] X.env).map (·.2) = [assign (.Subscript (.Name x px) b tpos) X.env] := by rfl)
    (hss : ∀ u, assign (.Subscript (.Name x px) b tpos) X.env u = (do
      let ov ← holding [u] (eval (.Name x px) X.env)
      let iv ← holding [u, ov] (eval b X.env)
      standAt tpos
      holding [u, ov, iv] (setItem ov iv u)
      release [u, ov, iv] []) := by intro _; rfl) : QS T X (.Assign [.Subscript (.Name x px) b tpos] v pos) (sSetD i fb fv) := ⟨fun {Fr F H θ ρ ρ' σ fl} s e Dn q => by
  unfold sSetD at e
  split at e
  · rename_i d ρ1 e1
    split at e
    · rename_i kvs0 e0
      split at e
      · rename_i kd ρ2 e2
        split at e
        · rename_i kk e3
          split at e
          · rename_i t kvs e4
            split at e
            · rename_i hl
              cases e
              refine PS.ws (ps_asg we_pe (pg_sub (pe_var hN hv hd hcd) we_pe (set_dct c) hss) hs hw h1) ?_
              refine hvv.run s e1 _ fun F1 H1 v1 sF1 s1 rv1 => ?_
              obtain ⟨d0, es0, hv0, _, _⟩ := slD_ok s1 e0
              refine ⟨_, hv0, ?_⟩
              refine hb.run s1 e2 _ fun F2 H2 v2 sF2 s2 rv2 => ?_
              obtain ⟨k1, k2, b2, rfl⟩ := keyD_ok e3 rv2
              obtain ⟨v3, hv3, p3, e5, z1, z2, z3, es, z4, z5⟩ := s2.sl i _ e4
              rw [hv0] at hv3
              cases hv3
              cases e5
              refine ⟨b2, d0, es, kk, rfl, rfl, z4, keysAt_of s2.fh z5, ⟨kd, Rp.mono s2.fh rv2, k1, k2⟩, by rw [z5.length]; exact hl, ?_⟩
              exact q F2 _ σ (sF1.trans sF2) (s2.write e4 hv0 ⟨_, upd_same, rpE_put k1 k2 rv2 (Rp.mono sF2 rv1) z5⟩)
            · cases e
          · cases e
        · cases e
      · cases e
    · cases e
  · cases e⟩
/-! displays: {}, {k: v} -/
theorem dk_empty2 {P : Program} {w : World} {H : Hp} (h : Heap) (hb : sysModules < h.objs.size) : ObjOk P w H (h.push { cls := .type "dict", data := .dict #[] }) h.objs.size (dkO P w h.objs.size []) :=
  dkPhi_at (Nat.zero_le _) (beq_eq_false_iff_ne.mpr (Ne.symm (Nat.ne_of_lt hb))) .nil (Heap.DictOfH.new h)
def dDnew : DE := fun ρ => some (.own 0 (.dct []), ρ)
theorem Stt.newD {P : Program} {w : World} {K : PySem.W.Frag} {Fr F H : Hp} {θ : Nat → Addr} {ρ : Sl} {σ : L2.St} (s : Stt P w K T Fr F H θ ρ σ) {p : Addr} {es : DE3} {kvs : List (D × D)} (n : H p = none) (h : RpE P w K F es kvs) :
    Stt P w K T Fr F (upd H p (dkO P w p es)) θ ρ σ ∧ RepR P w K Fr F (upd H p (dkO P w p es)) θ ρ σ (.own 0 (.dct kvs)) (.ref p) :=
  ⟨s.newO n, rfl, p, rfl, ⟨s.fh.free n, s.rh.free n, fun z => absurd rfl z, es, upd_same, h⟩, s.notOwned n⟩
theorem qe_dnew : QE T X (.Dict [] [] pos) dDnew := ⟨fun {Fr F H θ ρ ρ' σ r} s e Q q => by
  cases e
  intro pins s1 I
  have n := I.fresh
  obtain ⟨s2, rr⟩ := s.newD n (es := []) (kvs := []) .nil
  exact wpAny_Dict_empty ⟨.ref s1.heap.objs.size, _, I.laid (a := s1.heap.objs.size) (o := dkO X.prog X.w s1.heap.objs.size []) (t' := s1.toks) (fun _ _ q => Heap.get?_push_of_some _ q) (Nat.le_refl _) (dk_empty2 s1.heap I.big), rfl, q _ _ _ (Same.refl F) s2 rr⟩⟩
def dDone (fk fv : DD) : DE := fun ρ => match fk ρ with
  | some (kd, ρ1) => match fv ρ1 with
    | some (d, ρ2) => match keyD kd with
      | some kk => some (.own 0 (.dct [(kd, d)]), ρ2)
      | none => none
    | none => none
  | none => none
theorem qe_done {ke ve : Expr} {fk fv : DD} (c : CO X k) (hk : QD T X ke fk) (hv : QD T X ve fv) : QE T X (.Dict [some ke] [ve] pos) (dDone fk fv) := ⟨fun {Fr F H θ ρ ρ' σ r} s e Q q => by
  unfold dDone at e
  split at e
  · rename_i kd ρ1 e1
    split at e
    · rename_i d ρ2 e2
      split at e
      · rename_i kk e3
        cases e
        intro pins s1 I
        have n := I.fresh
        have I1 := I.laid (a := s1.heap.objs.size) (o := dkO X.prog X.w s1.heap.objs.size []) (t' := s1.toks) (fun _ _ q => Heap.get?_push_of_some { cls := .type "dict", data := .dict #[] } q) (Nat.le_refl _) (dk_empty2 s1.heap I.big)
        have sR := s.newR (o := dkO X.prog X.w s1.heap.objs.size []) n
        have nR : Fr s1.heap.objs.size = none := s.rh.free n
        rw [arm_eval_Dict]
        refine wpAny_bind (wpAny_standAt ?_)
        show wpAny _ _ (dictDisplay ((evalEachOpt [some ke] X.env).zip ((evalEach [ve] X.env).map fun v => do let x ← v; standAt pos; pure x))) _ _ _
        rw [show (evalEachOpt [some ke] X.env).zip ((evalEach [ve] X.env).map fun v => do let x ← v; standAt pos; pure x) = (pairTrees [some ke] [ve] X.env pos).map (fun p => (some p.1, p.2)) from rfl, dictDisplay_pairs _ (by simp [pairTrees]) (by simp [pairTrees])]
        refine wpAny_bind (wpAny_subDictH (knd := nestedKind X.prog X.w) (by show X.A.units + 8 < cLine; have := c.room.units; omega) (by simp [pairTrees]) ?_)
        have hp : PPs X pos [some ke] [ve] [(WE X ke, WE X ve)] := pps_cons we_pe we_pe pps_nil
        refine thn (hp.run pins _ σ _ (fun ps H3 => ∃ F3 b v, ps = [(.ref b, v)] ∧ Same F F3 ∧ SX X T (upd Fr s1.heap.objs.size (dkO X.prog X.w s1.heap.objs.size [])) F3 H3 θ ρ' σ ∧ PX X F3 (.ref b) kd ∧ PX X F3 v d) I1 ?_) fun ws s3 ⟨ps, H3, I3, vv, F3, b, v, eps, sF3, s4, rk, rv⟩ => ?_
        · refine hk.run sR e1 _ fun F4 H4 v4 sF4 s4 rv4 => ?_
          refine hv.run s4 e2 _ fun F5 H5 v5 sF5 s5 rv5 => ?_
          obtain ⟨_, _, b, rfl⟩ := keyD_ok e3 rv4
          exact ⟨F5, b, v5, rfl, sF4.trans sF5, s5, Rp.mono sF5 rv4, rv5⟩
        · subst eps
          obtain ⟨k1, k2, _⟩ := keyD_ok e3 rk
          obtain ⟨u1, u2, rfl, r1, r2⟩ : ∃ u1 u2, ws = [(u1, u2)] ∧ RelV (.ref b) u1 ∧ RelV v u2 := by
            cases vv with
            | cons z t => cases t; exact ⟨_, _, rfl, z.1, z.2⟩
          cases r1
          have hD : H3 s1.heap.objs.size = some (dkO X.prog X.w s1.heap.objs.size []) := s4.rh _ _ upd_same
          have kA : KeyAt X H3 b kk := ⟨kd, Rp.mono s4.fh rk, k1, k2⟩
          obtain ⟨_, hs, xs0, r0, hm0⟩ := dict_of I3 hD (fun e he => nomatch he)
          cases r0
          refine ⟨[(kk, b, u2)], ⟨rfl, rfl, kA.is I3, trivial⟩, hm0, fun h' tk hm' hsb => ?_⟩
          have he : ∃ q, h'.get? s1.heap.objs.size = some q := let ⟨q, _, _, hq, _⟩ := hm'; ⟨q, hq⟩
          have I5 := I3.write (x := s1.heap.objs.size) (e := s1.heap.objs.size) (o := dkO X.prog X.w s1.heap.objs.size [(kk, b, v)]) (t' := tk) (by rw [hD]; exact True.intro) (.inl rfl) (fun b ob hb z => (hsb.2 b hb).trans z) he (dkPhi_at (by show 1 ≤ sizeLine; decide) hs (.cons ⟨rfl, rfl, r2⟩ .nil) hm')
          refine wpAny_pure ⟨.ref s1.heap.objs.size, _, I5, rfl, ?_⟩
          have s6 := s4.grow (o' := dkO X.prog X.w s1.heap.objs.size [(kk, b, v)]) (fun ps z => by cases z)
          obtain ⟨s7, a1, a2, a3⟩ := s6.dropR nR
          exact q F3 _ _ sF3 s7 ⟨rfl, _, rfl, ⟨a1, nR, fun z => absurd rfl z, [(kk, b, v)], a2, .cons k1 k2 rk rv .nil⟩, a3⟩
      · cases e
    · cases e
  · cases e⟩
end
end
end LQ
set_option Elab.async false
set_option autoImplicit false
set_option linter.all false
set_option maxRecDepth 100000
set_option maxHeartbeats 4000000
/-! LQ7: lengths of argument lists, a recursion's bottom, the end of a law. -/
namespace LQ
open PySem PySem.Spec PyProof.Rows L2

def AL (g : DA) (n : Nat) : Prop := ∀ ρ avs ρ', g ρ = some (avs, ρ') → avs.length = n
theorem al_nil : AL aNil 0 := fun ρ avs ρ' e => by cases e; rfl
theorem al_cons {f : DD} {g : DA} {n : Nat} (h : AL g n) : AL (aCons f g) (n + 1) := fun ρ avs ρ' e => by
  unfold aCons at e
  split at e
  · split at e
    · rename_i l ρ2 e2
      cases e
      rw [List.length_cons, h _ _ _ e2]
    · cases e
  · cases e
theorem al_bor {i : Nat} {g : DA} {n : Nat} (h : AL g n) : AL (aBor i g) (n + 1) := fun ρ avs ρ' e => by
  unfold aBor at e
  split at e
  · split at e
    · rename_i l ρ2 e2
      cases e
      rw [List.length_cons, h _ _ _ e2]
    · cases e
  · cases e
/-- a recursion's bottom promises nothing -/
theorem fn_none {P : Program} {w : World} {K : PySem.W.Frag} {mg : Str → Option Value} {base : Heap} {f : Addr} {fd : FuncData} {ps : List Str} {k : Nat} {T : Addr → Prop} : FnOk P w K mg base CX0 k f fd ps (spQ P w K T ps.length (fun _ => none)) :=
  ⟨fun vs H Q E h => by obtain ⟨_, _, _, _, _, _, hl, _⟩ := h; exact hl, fun A outer s H args us vs Q E hr he hb hv hs => by obtain ⟨_, _, _, _, _, _, _, _, _, _, e, _⟩ := hs; cases e⟩
def dIxH (i : Nat) (fb : DD) : DD := fun ρ => if had i ρ = true then dIxO i fb ρ else none
section
variable {T : Addr → Prop} {X : Cx} {k : Nat} {pos : Pos}
theorem qd_ixH (i : Nat) {x : Str} {px : Pos} {b : Expr} {fb : DD} (hb : QD T X b fb) (hs : PlainIx b := by exact fun _ _ => rfl) (hN : X.N[i]? = some x := by rfl) (hv : Vis X.env.scope x := by first | exact Or.inl rfl | exact Or.inr (Or.inl rfl) | exact Or.inr (Or.inr rfl)) (hd : (x == ("__debug__" : Str)) = false := by decide)
    (hcd : (x == ("__classdict__" : Str)) = false := by decide) : QD T X (.Subscript (.Name x px) b pos) (dIxH i fb) := qd_ixO i hb hs hN hv hd hcd
end
/-- a def of the module, as its callers need it -/
structure Cal (K : PySem.W.Frag) (mg : Str → Option Value) (x : Str) (f : Addr) (fd : FuncData) (ps : List Str) : Prop where
  gl : mg x = some (.ref f)
  kp : PySem.W.keepIn K (.ref f) = true
  bi : Binds K fd ps []
/-! ### the end -/
def isListTy : Value → Bool
  | .type s => s == "list"
  | _ => false
def noListK (K : PySem.W.Frag) : Bool := K.all fun p => !isListTy p.2.cls
theorem mem_lookup {α β : Type} [BEq α] [LawfulBEq α] {a : α} {b : β} : ∀ {l : List (α × β)}, l.lookup a = some b → (a, b) ∈ l
  | [], h => by cases h
  | (x, y) :: l, h => by
    rw [List.lookup_cons] at h
    split at h
    · rename_i z
      cases h
      rw [beq_iff_eq.mp z]
      exact List.mem_cons_self
    · exact List.mem_cons_of_mem _ (mem_lookup h)
theorem sql_rd {K : PySem.W.Frag} {H : Hp} {a : Addr} {xs : List V} (h : noListK K = true) (s : SqL K H a xs) : Rd H a (.lst xs) := by
  rcases s with s | ⟨o, its, n, hk, hc, _⟩
  · exact s
  · have := List.all_eq_true.mp h _ (mem_lookup hk)
    rw [show (a, o).2.cls = .type "list" from hc] at this
    cases this
theorem rpA_ints {P : Program} {w : World} {K : PySem.W.Frag} {F : Hp} : ∀ ns : List Int, RpA P w K F (ns.map V.int) (ns.map PyData.int)
  | [] => .nil
  | n :: ns => .cons (.int n) (rpA_ints ns)
/-- the heap without the tables -/
def noTbl (H : Hp) : Hp := fun b => match H b with
  | some (.tbl _) => none
  | x => x
theorem noTbl_same {H : Hp} : Same (noTbl H) H := fun b o e => by
  unfold noTbl at e
  split at e
  · cases e
  · exact e
theorem noTbl_rd {H : Hp} {a : Addr} {xs : List V} (h : Rd H a (.lst xs)) : Rd (noTbl H) a (.lst xs) := by
  rcases h with h | ⟨o, h⟩
  · exact .inl (by unfold noTbl; rw [h])
  · exact .inr ⟨o, by unfold noTbl; rw [h]⟩
theorem end_q {P : Program} {w : World} {K : PySem.W.Frag} {T : Addr → Prop} {H : Hp} {a : Addr} {ns : List Int} {g : List SV → Option (SV × List SV)} {as' : List SV} {E : XK} (hK : noListK K = true) (hT : ∀ b, T b → H b = some (.tbl #[])) (hS : SqL K H a (ns.map V.int)) (hg : g [.dat (.list (ns.map PyData.int))] = some (.dat (.bool true), as')) :
    spQ P w K T 1 g [.ref a] H (fun v _ => v = .bl true) E := by
  refine ⟨fun _ => none, noTbl H, fun _ => 0, [.dat (.list (ns.map PyData.int))], _, as', rfl, rfl, ⟨noTbl_same, fun _ _ e => (nomatch e), fun _ _ e => (nomatch e), fun b hb => ⟨?_, rfl, #[], hT b hb, ?_⟩, fun i r hr => ?_, fun i j p ⟨⟨t, o, h⟩, _⟩ _ => ?_⟩, fun j t o h => ?_, hg, fun F' H' v _ _ rv => ?_⟩
  · show (match H b with | some (.tbl _) => none | x => x) = none
    rw [hT b hb]
  · show TriplesOk []
    exact True.intro
  · cases i with
    | zero =>
      cases hr
      exact ⟨.ref a, rfl, .lst (noTbl_rd (sql_rd hK hS)) (rpA_ints ns)⟩
    | succ i => simp at hr
  · cases i with
    | zero => cases h
    | succ i => simp at h
  · cases j with
    | zero => cases h
    | succ j => simp at h
  · exact rv.blV
end LQ
set_option Elab.async false
set_option autoImplicit false
set_option linter.all false
set_option maxRecDepth 100000
set_option maxHeartbeats 4000000
/-! LQ8: evaluating denotations: what is wanted of a result (W), pushed through the combinators by simp; loops by invariants. -/
namespace LQ
open PySem L2
/-- there is a result, and it is as wanted -/
inductive W {α : Type} (x : Option (α × Sl)) (Q : α → Sl → Prop) : Prop
  | mk (a : α) (ρ : Sl) (e : x = some (a, ρ)) (q : Q a ρ) : W x Q
inductive O {α : Type} (x : Option α) (Q : α → Prop) : Prop
  | mk (a : α) (e : x = some a) (q : Q a) : O x Q
section
variable {α β : Type}
@[simp] theorem W_some {a : α} {ρ : Sl} {Q : α → Sl → Prop} : W (some (a, ρ)) Q = Q a ρ := propext ⟨fun ⟨_, _, e, q⟩ => by cases e; exact q, fun q => ⟨a, ρ, rfl, q⟩⟩
@[simp] theorem W_none {Q : α → Sl → Prop} : W (none : Option (α × Sl)) Q = False := propext ⟨fun ⟨_, _, e, _⟩ => (nomatch e), fun q => q.elim⟩
@[simp] theorem O_some {a : α} {Q : α → Prop} : O (some a) Q = Q a := propext ⟨fun ⟨_, e, q⟩ => by cases e; exact q, fun q => ⟨a, rfl, q⟩⟩
@[simp] theorem O_none {Q : α → Prop} : O (none : Option α) Q = False := propext ⟨fun ⟨_, e, _⟩ => (nomatch e), fun q => q.elim⟩
theorem W.mono {x : Option (α × Sl)} {Q R : α → Sl → Prop} (h : W x Q) (i : ∀ a ρ, Q a ρ → R a ρ) : W x R :=
  let ⟨a, ρ, e, q⟩ := h
  ⟨a, ρ, e, i a ρ q⟩
theorem O.mono {x : Option α} {Q R : α → Prop} (h : O x Q) (i : ∀ a, Q a → R a) : O x R :=
  let ⟨a, e, q⟩ := h
  ⟨a, e, i a q⟩
theorem W.get {x : Option (α × Sl)} {Q : α → Sl → Prop} (h : W x Q) : ∃ a ρ, x = some (a, ρ) ∧ Q a ρ :=
  let ⟨a, ρ, e, q⟩ := h
  ⟨a, ρ, e, q⟩
theorem O.get {x : Option α} {Q : α → Prop} (h : O x Q) : ∃ a, x = some a ∧ Q a :=
  let ⟨a, e, q⟩ := h
  ⟨a, e, q⟩
theorem W.ofEq {x : Option (α × Sl)} {Q : α → Sl → Prop} {a : α} {ρ : Sl} (e : x = some (a, ρ)) (q : Q a ρ) : W x Q := ⟨a, ρ, e, q⟩
theorem O.ofEq {x : Option α} {Q : α → Prop} {a : α} (e : x = some a) (q : Q a) : O x Q := ⟨a, e, q⟩
@[simp] theorem W_ite {c : Prop} [Decidable c] {x : Option (α × Sl)} {Q : α → Sl → Prop} : W (if c then x else none) Q = (c ∧ W x Q) := by
  by_cases h : c <;> simp [h]
@[simp] theorem O_ite {c : Prop} [Decidable c] {x : Option α} {Q : α → Prop} : O (if c then x else none) Q = (c ∧ O x Q) := by
  by_cases h : c <;> simp [h]
end
section
variable {ρ : Sl} {f g : DSt} {fe ge : DE} {fd fa fb fv : DD} {ft fc gt : DT} {da db : DA} {i j n : Nat} {QS : Fl → Sl → Prop} {QE : SV → Sl → Prop} {QD : D → Sl → Prop} {QT : Bool → Sl → Prop} {QA : List AV → Sl → Prop} {QI : List D → Sl → Prop}
@[simp] theorem w_sNil : sNil ρ = some (.nx, ρ) := rfl
@[simp] theorem w_sPass : sPass ρ = some (.nx, ρ) := rfl
@[simp] theorem w_sBreak : sBreak ρ = some (.bk, ρ) := rfl
@[simp] theorem w_sCont : sCont ρ = some (.ct, ρ) := rfl
@[simp] theorem w_sRetN : sRetN ρ = some (.rt (.dat .none), ρ) := rfl
/-- behind a statement of a block -/
def KS (g : DSt) (Q : Fl → Sl → Prop) : Fl → Sl → Prop
  | .nx, ρ => W (g ρ) Q
  | .bk, ρ => Q .bk ρ
  | .ct, ρ => Q .ct ρ
  | .rt r, ρ => Q (.rt r) ρ
@[simp] theorem KS_nx : KS g QS .nx ρ = W (g ρ) QS := rfl
@[simp] theorem KS_bk : KS g QS .bk ρ = QS .bk ρ := rfl
@[simp] theorem KS_ct : KS g QS .ct ρ = QS .ct ρ := rfl
@[simp] theorem KS_rt {r : SV} : KS g QS (.rt r) ρ = QS (.rt r) ρ := rfl
@[simp] theorem w_sSeq : W (sSeq f g ρ) QS = W (f ρ) (KS g QS) := by
  unfold sSeq
  cases f ρ with
  | none => simp
  | some p => obtain ⟨fl, ρ1⟩ := p; cases fl <;> simp
theorem w_seq (P : Sl → Prop) (h1 : W (f ρ) (fun fl ρ1 => fl = .nx ∧ P ρ1)) (h2 : ∀ ρ1, P ρ1 → W (g ρ1) QS) : W (sSeq f g ρ) QS := by
  rw [w_sSeq]
  refine h1.mono fun fl ρ1 ⟨e, h⟩ => ?_
  subst e
  exact h2 ρ1 h
@[simp] theorem w_sSet : W (sSet i fe ρ) QS = W (fe ρ) (fun r ρ1 => QS .nx (ρ1.set i (some r))) := by
  unfold sSet
  rcases fe ρ with _ | p0 <;> first | (simp; done) | (obtain ⟨_, _⟩ := p0; simp; done)
@[simp] theorem w_sRet : W (sRet fe ρ) QS = W (fe ρ) (fun r ρ1 => QS (.rt r) ρ1) := by
  unfold sRet
  rcases fe ρ with _ | p0 <;> first | (simp; done) | (obtain ⟨_, _⟩ := p0; simp; done)
@[simp] theorem w_sExpr : W (sExpr fe ρ) QS = W (fe ρ) (fun _ ρ1 => QS .nx ρ1) := by
  unfold sExpr
  rcases fe ρ with _ | p0 <;> first | (simp; done) | (obtain ⟨_, _⟩ := p0; simp; done)
@[simp] theorem w_sIf : W (sIf fc f g ρ) QS = W (fc ρ) (fun b ρ1 => (b = true → W (f ρ1) QS) ∧ (b = false → W (g ρ1) QS)) := by
  unfold sIf
  cases fc ρ with
  | none => simp
  | some p => obtain ⟨b, ρ1⟩ := p; cases b <;> simp
@[simp] theorem w_dD : W (dD fe ρ) QD = W (fe ρ) (fun r ρ1 => O r.fz (fun d => QD d ρ1)) := by
  unfold dD
  cases fe ρ with
  | none => simp
  | some p => obtain ⟨r, ρ1⟩ := p; simp only [W_some]; rcases r.fz with _ | p0 <;> first | (simp; done) | (obtain ⟨_, _⟩ := p0; simp; done)
@[simp] theorem w_dE : W (dE fd ρ) QE = W (fd ρ) (fun d ρ1 => QE (.dat d) ρ1) := by
  unfold dE
  rcases fd ρ with _ | p0 <;> first | (simp; done) | (obtain ⟨_, _⟩ := p0; simp; done)
@[simp] theorem w_fzD {d : D} : (SV.dat d).fz = some d := rfl
@[simp] theorem w_fzL {ds : List D} : (SV.own 0 (.lst ds)).fz = some (.list ds) := rfl
@[simp] theorem w_fzM {ds : List (D × D)} : (SV.own 0 (.dct ds)).fz = some (.dict ds) := rfl
@[simp] theorem w_dK {d : D} : dK d ρ = some (d, ρ) := rfl
@[simp] theorem w_dVar : dVar i ρ = match ρ[i]? with
  | some (some (.dat d)) => some (d, ρ)
  | some (some (.own 0 o)) => some (o.fz, ρ.set i (some (.dat o.fz)))
  | _ => none := rfl
@[simp] theorem w_fzo {ds : List D} : (OV.lst ds).fz = .list ds := rfl
@[simp] theorem w_fzm {ds : List (D × D)} : (OV.dct ds).fz = .dict ds := rfl
@[simp] theorem w_dMov : dMov i ρ = match ρ[i]? with
  | some (some (.dat d)) => some (.dat d, ρ)
  | some (some (.own 0 o)) => some (.own 0 o, ρ.set i none)
  | _ => none := rfl
@[simp] theorem w_dOp2 {h : D → D → Option SV} : W (dOp2 h fa fb ρ) QE = W (fa ρ) (fun a ρ1 => W (fb ρ1) (fun b ρ2 => O (h a b) (fun r => QE r ρ2))) := by
  unfold dOp2
  cases fa ρ with
  | none => simp
  | some p =>
    obtain ⟨a, ρ1⟩ := p
    simp only [W_some]
    cases fb ρ1 with
    | none => simp
    | some q => obtain ⟨b, ρ2⟩ := q; simp only [W_some]; rcases h a b with _ | p0 <;> first | (simp; done) | (obtain ⟨_, _⟩ := p0; simp; done)
@[simp] theorem w_dOp1 {h : D → Option SV} : W (dOp1 h fa ρ) QE = W (fa ρ) (fun a ρ1 => O (h a) (fun r => QE r ρ1)) := by
  unfold dOp1
  cases fa ρ with
  | none => simp
  | some p => obtain ⟨a, ρ1⟩ := p; simp only [W_some]; rcases h a with _ | p0 <;> first | (simp; done) | (obtain ⟨_, _⟩ := p0; simp; done)
@[simp] theorem w_dCmp {h : D → D → Option Bool} : W (dCmp h fa fb ρ) QT = W (fa ρ) (fun a ρ1 => W (fb ρ1) (fun b ρ2 => O (h a b) (fun r => QT r ρ2))) := by
  unfold dCmp
  cases fa ρ with
  | none => simp
  | some p =>
    obtain ⟨a, ρ1⟩ := p
    simp only [W_some]
    cases fb ρ1 with
    | none => simp
    | some q => obtain ⟨b, ρ2⟩ := q; simp only [W_some]; rcases h a b with _ | p0 <;> first | (simp; done) | (obtain ⟨_, _⟩ := p0; simp; done)
@[simp] theorem w_dTV : W (dTV ft ρ) QD = W (ft ρ) (fun b ρ1 => QD (.bool b) ρ1) := by
  unfold dTV
  rcases ft ρ with _ | p0 <;> first | (simp; done) | (obtain ⟨_, _⟩ := p0; simp; done)
/-- a value that is a bool -/
def OB (d : D) (Q : Bool → Prop) : Prop := match d with
  | .bool b => Q b
  | _ => False
@[simp] theorem OB_b {b : Bool} {Q : Bool → Prop} : OB (.bool b) Q = Q b := rfl
@[simp] theorem w_dTB : W (dTB fd ρ) QT = W (fd ρ) (fun d ρ1 => OB d (fun b => QT b ρ1)) := by
  unfold dTB
  cases fd ρ with
  | none => simp
  | some p => obtain ⟨d, ρ1⟩ := p; cases d <;> simp [OB]
@[simp] theorem w_dNot : W (dNot ft ρ) QT = W (ft ρ) (fun b ρ1 => QT (!b) ρ1) := by
  unfold dNot
  rcases ft ρ with _ | p0 <;> first | (simp; done) | (obtain ⟨_, _⟩ := p0; simp; done)
@[simp] theorem w_dAnd : W (dAnd ft gt ρ) QT = W (ft ρ) (fun b ρ1 => (b = true → W (gt ρ1) QT) ∧ (b = false → QT false ρ1)) := by
  unfold dAnd
  cases ft ρ with
  | none => simp
  | some p => obtain ⟨b, ρ1⟩ := p; cases b <;> simp
@[simp] theorem w_dOr : W (dOr ft gt ρ) QT = W (ft ρ) (fun b ρ1 => (b = true → QT true ρ1) ∧ (b = false → W (gt ρ1) QT)) := by
  unfold dOr
  cases ft ρ with
  | none => simp
  | some p => obtain ⟨b, ρ1⟩ := p; cases b <;> simp
@[simp] theorem w_dAndV : W (dAndV ft fd ρ) QD = W (ft ρ) (fun b ρ1 => (b = true → W (fd ρ1) QD) ∧ (b = false → QD (.bool false) ρ1)) := by
  unfold dAndV
  cases ft ρ with
  | none => simp
  | some p => obtain ⟨b, ρ1⟩ := p; cases b <;> simp
@[simp] theorem w_dOrV : W (dOrV ft fd ρ) QD = W (ft ρ) (fun b ρ1 => (b = true → QD (.bool true) ρ1) ∧ (b = false → W (fd ρ1) QD)) := by
  unfold dOrV
  cases ft ρ with
  | none => simp
  | some p => obtain ⟨b, ρ1⟩ := p; cases b <;> simp
@[simp] theorem w_dIfE : W (dIfE ft fe ge ρ) QE = W (ft ρ) (fun b ρ1 => (b = true → W (fe ρ1) QE) ∧ (b = false → W (ge ρ1) QE)) := by
  unfold dIfE
  cases ft ρ with
  | none => simp
  | some p => obtain ⟨b, ρ1⟩ := p; cases b <;> simp
/-! operations -/
variable {a b : Int} {K1 : SV → Prop} {KB : Bool → Prop} {ds es : List D}
@[simp] theorem g_add : gAdd (.int a) (.int b) = some (.dat (.int (a + b))) := rfl
@[simp] theorem g_addL : O (gAdd (.list ds) (.list es)) K1 = (ds.length + es.length ≤ sizeLine ∧ K1 (.own 0 (.lst (ds ++ es)))) := by
  unfold gAdd; simp
@[simp] theorem g_addT : O (gAdd (.tuple ds) (.tuple es)) K1 = (ds.length + es.length ≤ sizeLine ∧ K1 (.dat (.tuple (ds ++ es)))) := by
  unfold gAdd; simp
@[simp] theorem g_sub : gSub (.int a) (.int b) = some (.dat (.int (a - b))) := rfl
@[simp] theorem g_neg : gNeg (.int a) = some (.dat (.int (-a))) := rfl
/-- the product is small enough -/
def MulS (a b : Int) : Prop := a.natAbs.log2 + b.natAbs.log2 ≤ 900000
def DivS (b : Int) : Prop := 0 < b ∧ b.natAbs.log2 < 8000
@[simp] theorem g_mul : O (gMul (.int a) (.int b)) K1 = (MulS a b ∧ K1 (.dat (.int (a * b)))) := by
  unfold gMul MulS; simp
@[simp] theorem g_div : O (gDiv (.int a) (.int b)) K1 = (DivS b ∧ K1 (.dat (.int (a / b)))) := by
  unfold gDiv DivS; simp
@[simp] theorem g_mod : O (gMod (.int a) (.int b)) K1 = (0 < b ∧ K1 (.dat (.int (a % b)))) := by
  unfold gMod; simp
@[simp] theorem g_lt : gLtI (.int a) (.int b) = some (decide (a < b)) := rfl
@[simp] theorem g_le : gLeI (.int a) (.int b) = some (decide (a ≤ b)) := rfl
@[simp] theorem g_gt : gGtI (.int a) (.int b) = some (decide (b < a)) := rfl
@[simp] theorem g_ge : gGeI (.int a) (.int b) = some (decide (b ≤ a)) := rfl
@[simp] theorem g_eqI : gEq (.int a) (.int b) = some (decide (a = b)) := by
  unfold gEq
  rw [if_pos ⟨rfl, rfl⟩]
  show some (PyData.eqv (.int a) (.int b)) = _
  unfold PyData.eqv
  rfl
@[simp] theorem g_neI : gNe (.int a) (.int b) = some (!decide (a = b)) := by
  unfold gNe
  rw [if_pos ⟨rfl, rfl⟩]
  show some (!PyData.eqv (.int a) (.int b)) = _
  unfold PyData.eqv
  rfl
@[simp] theorem g_eqB {x y : Bool} : gEq (.bool x) (.bool y) = some (decide (x = y)) := by
  unfold gEq
  rw [if_pos ⟨rfl, rfl⟩]
  unfold PyData.eqv
  cases x <;> rcases y with _ | p0 <;> first | (simp; done) | (obtain ⟨_, _⟩ := p0; simp; done)
@[simp] theorem g_neB {x y : Bool} : gNe (.bool x) (.bool y) = some (!decide (x = y)) := by
  unfold gNe
  rw [if_pos ⟨rfl, rfl⟩]
  unfold PyData.eqv
  cases x <;> rcases y with _ | p0 <;> first | (simp; done) | (obtain ⟨_, _⟩ := p0; simp; done)
@[simp] theorem g_lenL : gLen (.list ds) = some (.dat (.int ds.length)) := rfl
@[simp] theorem g_lenT : gLen (.tuple ds) = some (.dat (.int ds.length)) := rfl
@[simp] theorem g_ixL : O (gIx (.list ds) (.int a)) K1 = O (L2.atI ds a) (fun d => K1 (.dat d)) := by
  unfold gIx; simp only; rcases L2.atI ds a with _ | p0 <;> first | (simp; done) | (obtain ⟨_, _⟩ := p0; simp; done)
@[simp] theorem g_ixT : O (gIx (.tuple ds) (.int a)) K1 = O (L2.atI ds a) (fun d => K1 (.dat d)) := by
  unfold gIx; simp only; rcases L2.atI ds a with _ | p0 <;> first | (simp; done) | (obtain ⟨_, _⟩ := p0; simp; done)
@[simp] theorem g_int : gIntOf (.int a) = some (.dat (.int a)) := rfl
@[simp] theorem g_listL : gList (.list ds) = some (.own 0 (.lst ds)) := rfl
@[simp] theorem g_listT : gList (.tuple ds) = some (.own 0 (.lst ds)) := rfl
@[simp] theorem g_tupL : gTuple (.list ds) = some (.dat (.tuple ds)) := rfl
@[simp] theorem g_tupT : gTuple (.tuple ds) = some (.dat (.tuple ds)) := rfl
@[simp] theorem g_slL {lo hi : Option Int} : gSl (.list ds) lo hi = some (.own 0 (.lst (cutD ds lo hi))) := rfl
@[simp] theorem g_slT {lo hi : Option Int} : gSl (.tuple ds) lo hi = some (.dat (.tuple (cutD ds lo hi))) := rfl
@[simp] theorem w_oNone : oNone ρ = some (none, ρ) := rfl
def OI (d : D) (Q : Int → Prop) : Prop := match d with
  | .int b => Q b
  | _ => False
@[simp] theorem OI_i {a : Int} {Q : Int → Prop} : OI (.int a) Q = Q a := rfl
@[simp] theorem w_oSome {Q : Option Int → Sl → Prop} : W (oSome fd ρ) Q = W (fd ρ) (fun d ρ1 => OI d (fun a => Q (some a) ρ1)) := by
  unfold oSome
  cases fd ρ with
  | none => simp
  | some p => obtain ⟨d, ρ1⟩ := p; cases d <;> simp [OI]
@[simp] theorem w_dSl {fl fh : DO} : W (dSl fa fl fh ρ) QE = W (fa ρ) (fun x ρ1 => W (fl ρ1) (fun lo ρ2 => W (fh ρ2) (fun hi ρ3 => O (gSl x lo hi) (fun r => QE r ρ3)))) := by
  unfold dSl
  cases fa ρ with
  | none => simp
  | some p =>
    obtain ⟨x, ρ1⟩ := p
    simp only [W_some]
    cases fl ρ1 with
    | none => simp
    | some q =>
      obtain ⟨lo, ρ2⟩ := q
      simp only [W_some]
      cases fh ρ2 with
      | none => simp
      | some r => obtain ⟨hi, ρ3⟩ := r; simp only [W_some]; rcases gSl x lo hi with _ | p0 <;> first | (simp; done) | (obtain ⟨_, _⟩ := p0; simp; done)
/-! arguments -/
@[simp] theorem w_aNil : aNil ρ = some ([], ρ) := rfl
@[simp] theorem w_aCons : W (aCons fd da ρ) QA = W (fd ρ) (fun d ρ1 => W (da ρ1) (fun l ρ2 => QA (.d d :: l) ρ2)) := by
  unfold aCons
  cases fd ρ with
  | none => simp
  | some p => obtain ⟨d, ρ1⟩ := p; simp only [W_some]; rcases da ρ1 with _ | p0 <;> first | (simp; done) | (obtain ⟨_, _⟩ := p0; simp; done)
@[simp] theorem w_aBor : W (aBor i da ρ) QA = O (ρ[i]?) (fun s => match s with
    | some (.own _ _) => W (da ρ) (fun l ρ2 => QA (.b i :: l) ρ2)
    | _ => False) := by
  unfold aBor
  cases ρ[i]? with
  | none => simp
  | some s =>
    cases s with
    | none => simp
    | some s => cases s with
      | dat d => simp
      | own t o => simp only [O_some]; rcases da ρ with _ | p0 <;> first | (simp; done) | (obtain ⟨_, _⟩ := p0; simp; done)
def OSeq (d : D) (Q : List D → Prop) : Prop := match d with
  | .list ds => Q ds
  | .tuple ds => Q ds
  | _ => False
@[simp] theorem OSeq_l {Q : List D → Prop} : OSeq (.list ds) Q = Q ds := rfl
@[simp] theorem OSeq_t {Q : List D → Prop} : OSeq (.tuple ds) Q = Q ds := rfl
@[simp] theorem w_aStar : W (aStar fd da ρ) QA = W (fd ρ) (fun d ρ1 => OSeq d (fun ds => W (da ρ1) (fun l ρ2 => QA (ds.map .d ++ l) ρ2))) := by
  unfold aStar
  cases fd ρ with
  | none => simp
  | some p =>
    obtain ⟨d, ρ1⟩ := p
    cases d with
    | list ds => simp only [W_some, OSeq_l]; rcases da ρ1 with _ | p0 <;> first | (simp; done) | (obtain ⟨_, _⟩ := p0; simp; done)
    | tuple ds => simp only [W_some, OSeq_t]; rcases da ρ1 with _ | p0 <;> first | (simp; done) | (obtain ⟨_, _⟩ := p0; simp; done)
    | _ => simp [OSeq]
@[simp] theorem datAll_nil : datAll [] = some [] := rfl
@[simp] theorem datAll_map : datAll (ds.map .d) = some ds := by
  induction ds with
  | nil => rfl
  | cons d ds ih => simp [datAll, ih]
@[simp] theorem datAll_app {l : List AV} : datAll (ds.map .d ++ l) = (datAll l).map (ds ++ ·) := by
  induction ds with
  | nil => cases h : datAll l <;> simp [h]
  | cons d ds ih =>
    show (match datAll (ds.map .d ++ l) with | some ds => some (d :: ds) | none => none) = _
    rw [ih]
    rcases datAll l with _ | p0 <;> first | (simp; done) | (obtain ⟨_, _⟩ := p0; simp; done)
@[simp] theorem datAll_cons {d : D} {l : List AV} : datAll (.d d :: l) = (datAll l).map (d :: ·) := by
  show (match datAll l with | some ds => some (d :: ds) | none => none) = _
  rcases datAll l with _ | p0 <;> first | (simp; done) | (obtain ⟨_, _⟩ := p0; simp; done)
@[simp] theorem w_dTup : W (dTup da ρ) QD = W (da ρ) (fun l ρ1 => O (datAll l) (fun ds => ds.length ≤ sizeLine ∧ QD (.tuple ds) ρ1)) := by
  unfold dTup
  cases da ρ with
  | none => simp
  | some p => obtain ⟨l, ρ1⟩ := p; simp only [W_some]; rcases datAll l with _ | p0 <;> first | (simp; done) | (obtain ⟨_, _⟩ := p0; simp; done)
@[simp] theorem w_dLst : W (dLst da ρ) QE = W (da ρ) (fun l ρ1 => O (datAll l) (fun ds => ds.length ≤ sizeLine ∧ QE (.own 0 (.lst ds)) ρ1)) := by
  unfold dLst
  cases da ρ with
  | none => simp
  | some p => obtain ⟨l, ρ1⟩ := p; simp only [W_some]; rcases datAll l with _ | p0 <;> first | (simp; done) | (obtain ⟨_, _⟩ := p0; simp; done)
@[simp] theorem bors_nil : bors [] = [] := rfl
@[simp] theorem bors_d {d : D} {l : List AV} : bors (.d d :: l) = bors l := rfl
@[simp] theorem bors_b {l : List AV} : bors (.b i :: l) = i :: bors l := rfl
@[simp] theorem mk_nil : mkArgs n [] ρ = some [] := rfl
@[simp] theorem mk_d {d : D} {l : List AV} : mkArgs n (.d d :: l) ρ = (mkArgs (n + 1) l ρ).map (.dat d :: ·) := by
  show (match mkArgs (n + 1) l ρ with | some as => some (SV.dat d :: as) | none => none) = _
  rcases mkArgs (n + 1) l ρ with _ | p0 <;> first | (simp; done) | (obtain ⟨_, _⟩ := p0; simp; done)
@[simp] theorem mk_b {l : List AV} {K : List SV → Prop} : O (mkArgs n (.b i :: l) ρ) K = O (ρ[i]?) (fun s => match s with
    | some (.own _ o) => O (mkArgs (n + 1) l ρ) (fun as => K (.own (n + 1) o :: as))
    | _ => False) := by
  show O (match ρ[i]? with | some (some (.own _ o)) => (match mkArgs (n + 1) l ρ with | some as => some (SV.own (n + 1) o :: as) | none => none) | _ => none) K = _
  cases ρ[i]? with
  | none => simp
  | some s =>
    cases s with
    | none => simp
    | some s => cases s with
      | dat d => simp
      | own t o => simp only [O_some]; rcases mkArgs (n + 1) l ρ with _ | p0 <;> first | (simp; done) | (obtain ⟨_, _⟩ := p0; simp; done)
@[simp] theorem po_nil : putOuts [] [] ρ = some ρ := rfl
@[simp] theorem po_d {d : D} {s : SV} {l : List AV} {as : List SV} : putOuts (.d d :: l) (s :: as) ρ = putOuts l as ρ := rfl
@[simp] theorem po_b {t1 : Nat} {o1 : OV} {l : List AV} {as : List SV} {K : Sl → Prop} : O (putOuts (.b i :: l) (.own t1 o1 :: as) ρ) K = O (ρ[i]?) (fun s => match s with
    | some (.own t _) => O (putOuts l as (ρ.set i (some (.own t o1)))) K
    | _ => False) := by
  show O (match ρ[i]? with | some (some (.own t _)) => putOuts l as (ρ.set i (some (.own t o1))) | _ => none) K = _
  cases ρ[i]? with
  | none => simp
  | some s =>
    cases s with
    | none => simp
    | some s => cases s <;> simp
@[simp] theorem w_dCall {h : List SV → Option (SV × List SV)} : W (dCall h da ρ) QE = W (da ρ) (fun avs ρ1 => (bors avs).Nodup ∧ O (mkArgs 0 avs ρ1) (fun as => O (h as) (fun p => O (putOuts avs p.2 ρ1) (fun ρ2 => QE p.1 ρ2)))) := by
  unfold dCall
  cases da ρ with
  | none => simp
  | some p =>
    obtain ⟨avs, ρ1⟩ := p
    simp only [W_some, W_ite]
    congr 1
    cases mkArgs 0 avs ρ1 with
    | none => simp
    | some as =>
      simp only [O_some]
      cases h as with
      | none => simp
      | some q => obtain ⟨r, as'⟩ := q; simp only [O_some]; rcases putOuts avs as' ρ1 with _ | p0 <;> first | (simp; done) | (obtain ⟨_, _⟩ := p0; simp; done)
/-! defs -/
def KF (as : List SV) (Q : SV × List SV → Prop) : Fl → Sl → Prop
  | .rt r, ρ => O (outs 0 as ρ) (fun l => Q (r, l))
  | .nx, ρ => O (outs 0 as ρ) (fun l => Q (.dat .none, l))
  | _, _ => False
@[simp] theorem KF_rt {as : List SV} {Q : SV × List SV → Prop} {r : SV} : KF as Q (.rt r) ρ = O (outs 0 as ρ) (fun l => Q (r, l)) := rfl
@[simp] theorem KF_nx {as : List SV} {Q : SV × List SV → Prop} : KF as Q .nx ρ = O (outs 0 as ρ) (fun l => Q (.dat .none, l)) := rfl
theorem o_dFun {m : Nat} {as : List SV} {Q : SV × List SV → Prop} : O (dFun m f as) Q = W (f (as.map some ++ List.replicate (m - as.length) none)) (KF as Q) := by
  unfold dFun
  cases f (as.map some ++ List.replicate (m - as.length) none) with
  | none => simp
  | some p =>
    obtain ⟨fl, ρ1⟩ := p
    cases fl with
    | nx => simp only [W_some, KF_nx]; rcases outs 0 as ρ1 with _ | p0 <;> first | (simp; done) | (obtain ⟨_, _⟩ := p0; simp; done)
    | rt r => simp only [W_some, KF_rt]; rcases outs 0 as ρ1 with _ | p0 <;> first | (simp; done) | (obtain ⟨_, _⟩ := p0; simp; done)
    | _ => simp [KF]
@[simp] theorem outs_nil : outs n [] ρ = some [] := rfl
@[simp] theorem outs_d {d : D} {as : List SV} : outs n (.dat d :: as) ρ = (outs (n + 1) as ρ).map (.dat d :: ·) := by
  show (match outs (n + 1) as ρ with | some l => some (SV.dat d :: l) | none => none) = _
  rcases outs (n + 1) as ρ with _ | p0 <;> first | (simp; done) | (obtain ⟨_, _⟩ := p0; simp; done)
@[simp] theorem outs_b {o : OV} {t : Nat} {as : List SV} {K : List SV → Prop} : O (outs n (.own t o :: as) ρ) K = O (ρ[n]?) (fun s => match s with
    | some (.own t1 o1) => t1 = n + 1 ∧ O (outs (n + 1) as ρ) (fun l => K (.own t1 o1 :: l))
    | _ => False) := by
  show O (match ρ[n]? with | some (some (.own t o)) => (if t = n + 1 then (match outs (n + 1) as ρ with | some l => some (SV.own t o :: l) | none => none) else none) | _ => none) K = _
  cases ρ[n]? with
  | none => simp
  | some s =>
    cases s with
    | none => simp
    | some s => cases s with
      | dat d => simp
      | own t o => simp only [O_some, O_ite]; congr 1; rcases outs (n + 1) as ρ with _ | p0 <;> first | (simp; done) | (obtain ⟨_, _⟩ := p0; simp; done)
@[simp] theorem O_map {α β : Type} {x : Option α} {h : α → β} {Q : β → Prop} : O (x.map h) Q = O x (fun a => Q (h a)) := by
  rcases x with _ | p0 <;> first | (simp; done) | (obtain ⟨_, _⟩ := p0; simp; done)
/-! owned things -/
@[simp] theorem w_dIxH : W (dIxH i fb ρ) QD = (had i ρ = true ∧ W (fb ρ) (fun j ρ1 => OI j (fun j => O (ρ1[i]?) (fun s => match s with
    | some (.own _ (.lst ds)) => O (L2.atI ds j) (fun d => QD d ρ1)
    | some (.dat (.list ds)) => O (L2.atI ds j) (fun d => QD d ρ1)
    | _ => False)))) := by
  unfold dIxH
  rw [W_ite]
  congr 1
  unfold dIxO
  cases fb ρ with
  | none => simp
  | some p =>
    obtain ⟨d, ρ1⟩ := p
    cases d with
    | int j =>
      simp only [W_some, OI_i]
      cases ρ1[i]? with
      | none => simp
      | some s =>
        cases s with
        | none => simp
        | some s =>
          cases s with
          | dat d => cases d with
            | list ds => simp only [O_some]; rcases L2.atI ds j with _ | p0 <;> first | (simp; done) | (obtain ⟨_, _⟩ := p0; simp; done)
            | _ => simp [OI]
          | own t o => cases o with
            | lst ds => simp only [O_some]; rcases L2.atI ds j with _ | p0 <;> first | (simp; done) | (obtain ⟨_, _⟩ := p0; simp; done)
            | dct _ => simp
    | _ => simp [OI]
@[simp] theorem w_had : had i ρ = match ρ[i]? with
  | some (some _) => true
  | _ => false := rfl
@[simp] theorem w_dLenO : dLenO i ρ = match ρ[i]? with
  | some (some (.own _ (.lst ds))) => some (.int ds.length, ρ)
  | some (some (.dat (.list ds))) => some (.int ds.length, ρ)
  | some (some (.dat (.tuple ds))) => some (.int ds.length, ρ)
  | _ => none := rfl
theorem sApp1 {t : Nat} {es : List D} (h : ρ[i]? = some (some (.own t (.lst es)))) : W (sApp i fa ρ) QS = W (fa ρ) (fun d ρ1 => O (ρ1[i]?) (fun s => match s with
    | some (.own t (.lst ds)) => ds.length < sizeLine ∧ QS .nx (ρ1.set i (some (.own t (.lst (ds ++ [d])))))
    | _ => False)) := by
  unfold sApp
  rw [h]
  simp only
  cases fa ρ with
  | none => simp
  | some p =>
    obtain ⟨d, ρ1⟩ := p
    simp only [W_some]
    cases ρ1[i]? with
    | none => simp
    | some s =>
      cases s with
      | none => simp
      | some s => cases s with
        | dat d => simp
        | own t o => cases o with
          | lst ds => simp
          | dct _ => simp
theorem dPop1 {t : Nat} {es : List D} (h : ρ[i]? = some (some (.own t (.lst es)))) : W (dPop i fa ρ) QD = W (fa ρ) (fun j ρ1 => OI j (fun j => O (ρ1[i]?) (fun s => match s with
    | some (.own t (.lst ds)) => (0 ≤ j ∧ j < ds.length ∧ ds.length < 1000000) ∧ O (ds[j.toNat]?) (fun d => QD d (ρ1.set i (some (.own t (.lst (ds.eraseIdx j.toNat))))))
    | _ => False))) := by
  unfold dPop
  rw [h]
  simp only
  cases fa ρ with
  | none => simp
  | some p =>
    obtain ⟨d, ρ1⟩ := p
    cases d with
    | int j =>
      simp only [W_some, OI_i]
      cases ρ1[i]? with
      | none => simp
      | some s =>
        cases s with
        | none => simp
        | some s => cases s with
          | dat d => simp
          | own t o => cases o with
            | lst ds => simp only [O_some, W_ite]; rcases ds[j.toNat]? with _ | p0 <;> first | (simp; done) | (obtain ⟨_, _⟩ := p0; simp; done)
            | dct _ => simp
    | _ => simp [OI]
/-- an owned list stands there -/
def HasL (i : Nat) (ρ : Sl) : Prop := O (ρ[i]?) (fun s => match s with
    | some (.own _ (.lst _)) => True
    | _ => False)
theorem hasL_get (h : HasL i ρ) : ∃ t es, ρ[i]? = some (some (.own t (.lst es))) := by
  unfold HasL at h
  cases e : ρ[i]? with
  | none => rw [e] at h; simp at h
  | some s =>
    rw [e] at h
    cases s with
    | none => simp at h
    | some s => cases s with
      | dat d => simp at h
      | own t o => cases o with
        | lst es => exact ⟨t, es, rfl⟩
        | dct _ => simp at h
@[simp] theorem w_sApp : W (sApp i fa ρ) QS = (HasL i ρ ∧ W (fa ρ) (fun d ρ1 => O (ρ1[i]?) (fun s => match s with
    | some (.own t (.lst ds)) => ds.length < sizeLine ∧ QS .nx (ρ1.set i (some (.own t (.lst (ds ++ [d])))))
    | _ => False))) := by
  by_cases h : HasL i ρ
  · obtain ⟨t, es, e⟩ := hasL_get h
    rw [sApp1 e]
    simp [h]
  · simp only [h, false_and]
    refine eq_false fun w => h ?_
    unfold sApp at w
    split at w
    · rename_i e; unfold HasL; rw [e]; simp
    · simp at w
@[simp] theorem w_dPop : W (dPop i fa ρ) QD = (HasL i ρ ∧ W (fa ρ) (fun j ρ1 => OI j (fun j => O (ρ1[i]?) (fun s => match s with
    | some (.own t (.lst ds)) => (0 ≤ j ∧ j < ds.length ∧ ds.length < 1000000) ∧ O (ds[j.toNat]?) (fun d => QD d (ρ1.set i (some (.own t (.lst (ds.eraseIdx j.toNat))))))
    | _ => False)))) := by
  by_cases h : HasL i ρ
  · obtain ⟨t, es, e⟩ := hasL_get h
    rw [dPop1 e]
    simp [h]
  · simp only [h, false_and]
    refine eq_false fun w => h ?_
    unfold dPop at w
    split at w
    · rename_i e; unfold HasL; rw [e]; simp
    · simp at w
@[simp] theorem w_HasL : HasL i ρ = O (ρ[i]?) (fun s => match s with
    | some (.own _ (.lst _)) => True
    | _ => False) := rfl
@[simp] theorem w_sSetIx : W (sSetIx i fb fv ρ) QS = W (fv ρ) (fun d ρ1 => O (ρ1[i]?) (fun s => match s with
    | some (.own _ (.lst _)) => W (fb ρ1) (fun j ρ2 => OI j (fun j => O (ρ2[i]?) (fun s => match s with
      | some (.own t (.lst ds)) => O (L2.ixN ds.length j) (fun n => QS .nx (ρ2.set i (some (.own t (.lst (ds.set n d))))))
      | _ => False)))
    | _ => False)) := by
  unfold sSetIx
  cases fv ρ with
  | none => simp
  | some p =>
    obtain ⟨d, ρ1⟩ := p
    simp only [W_some]
    cases ρ1[i]? with
    | none => simp
    | some s =>
      cases s with
      | none => simp
      | some s => cases s with
        | dat d => simp
        | own t o => cases o with
          | dct _ => simp
          | lst ds =>
            simp only [O_some]
            cases fb ρ1 with
            | none => simp
            | some q =>
              obtain ⟨j, ρ2⟩ := q
              cases j with
              | int j =>
                simp only [W_some, OI_i]
                cases ρ2[i]? with
                | none => simp
                | some s =>
                  cases s with
                  | none => simp
                  | some s => cases s with
                    | dat d => simp
                    | own t o => cases o with
                      | dct _ => simp
                      | lst ds => simp only [O_some]; rcases L2.ixN ds.length j with _ | p0 <;> first | (simp; done) | (obtain ⟨_, _⟩ := p0; simp; done)
              | _ => simp [OI]
/-! isinstance -/
@[simp] theorem w_dIsi {c : String} : W (dIsi c fa ρ) QD = W (fa ρ) (fun a ρ1 => O (kitB (tyN a) c) (fun b => QD (.bool b) ρ1)) := by
  unfold dIsi
  cases fa ρ with
  | none => simp
  | some p => obtain ⟨d, ρ1⟩ := p; simp only [W_some]; rcases kitB (tyN d) c with _ | p0 <;> first | (simp; done) | (obtain ⟨_, _⟩ := p0; simp; done)
@[simp] theorem ty_NoneType : tyN .none = "NoneType" := rfl
@[simp] theorem ty_bool {x : Bool} : tyN (.bool x) = "bool" := rfl
@[simp] theorem ty_int {x : Int} : tyN (.int x) = "int" := rfl
@[simp] theorem ty_str {x : Str} : tyN (.str x) = "str" := rfl
@[simp] theorem ty_list {x : List D} : tyN (.list x) = "list" := rfl
@[simp] theorem ty_tuple {x : List D} : tyN (.tuple x) = "tuple" := rfl
@[simp] theorem ty_dict {x : List (D × D)} : tyN (.dict x) = "dict" := rfl
@[simp] theorem kit_NoneType_tuple : kitB "NoneType" "tuple" = some false := by decide +kernel
@[simp] theorem kit_NoneType_list : kitB "NoneType" "list" = some false := by decide +kernel
@[simp] theorem kit_NoneType_bool : kitB "NoneType" "bool" = some false := by decide +kernel
@[simp] theorem kit_NoneType_int : kitB "NoneType" "int" = some false := by decide +kernel
@[simp] theorem kit_NoneType_str : kitB "NoneType" "str" = some false := by decide +kernel
@[simp] theorem kit_NoneType_dict : kitB "NoneType" "dict" = some false := by decide +kernel
@[simp] theorem kit_bool_tuple : kitB "bool" "tuple" = some false := by decide +kernel
@[simp] theorem kit_bool_list : kitB "bool" "list" = some false := by decide +kernel
@[simp] theorem kit_bool_bool : kitB "bool" "bool" = some true := by decide +kernel
@[simp] theorem kit_bool_int : kitB "bool" "int" = some true := by decide +kernel
@[simp] theorem kit_bool_str : kitB "bool" "str" = some false := by decide +kernel
@[simp] theorem kit_bool_dict : kitB "bool" "dict" = some false := by decide +kernel
@[simp] theorem kit_int_tuple : kitB "int" "tuple" = some false := by decide +kernel
@[simp] theorem kit_int_list : kitB "int" "list" = some false := by decide +kernel
@[simp] theorem kit_int_bool : kitB "int" "bool" = some false := by decide +kernel
@[simp] theorem kit_int_int : kitB "int" "int" = some true := by decide +kernel
@[simp] theorem kit_int_str : kitB "int" "str" = some false := by decide +kernel
@[simp] theorem kit_int_dict : kitB "int" "dict" = some false := by decide +kernel
@[simp] theorem kit_str_tuple : kitB "str" "tuple" = some false := by decide +kernel
@[simp] theorem kit_str_list : kitB "str" "list" = some false := by decide +kernel
@[simp] theorem kit_str_bool : kitB "str" "bool" = some false := by decide +kernel
@[simp] theorem kit_str_int : kitB "str" "int" = some false := by decide +kernel
@[simp] theorem kit_str_str : kitB "str" "str" = some true := by decide +kernel
@[simp] theorem kit_str_dict : kitB "str" "dict" = some false := by decide +kernel
@[simp] theorem kit_list_tuple : kitB "list" "tuple" = some false := by decide +kernel
@[simp] theorem kit_list_list : kitB "list" "list" = some true := by decide +kernel
@[simp] theorem kit_list_bool : kitB "list" "bool" = some false := by decide +kernel
@[simp] theorem kit_list_int : kitB "list" "int" = some false := by decide +kernel
@[simp] theorem kit_list_str : kitB "list" "str" = some false := by decide +kernel
@[simp] theorem kit_list_dict : kitB "list" "dict" = some false := by decide +kernel
@[simp] theorem kit_tuple_tuple : kitB "tuple" "tuple" = some true := by decide +kernel
@[simp] theorem kit_tuple_list : kitB "tuple" "list" = some false := by decide +kernel
@[simp] theorem kit_tuple_bool : kitB "tuple" "bool" = some false := by decide +kernel
@[simp] theorem kit_tuple_int : kitB "tuple" "int" = some false := by decide +kernel
@[simp] theorem kit_tuple_str : kitB "tuple" "str" = some false := by decide +kernel
@[simp] theorem kit_tuple_dict : kitB "tuple" "dict" = some false := by decide +kernel
@[simp] theorem kit_dict_tuple : kitB "dict" "tuple" = some false := by decide +kernel
@[simp] theorem kit_dict_list : kitB "dict" "list" = some false := by decide +kernel
@[simp] theorem kit_dict_bool : kitB "dict" "bool" = some false := by decide +kernel
@[simp] theorem kit_dict_int : kitB "dict" "int" = some false := by decide +kernel
@[simp] theorem kit_dict_str : kitB "dict" "str" = some false := by decide +kernel
@[simp] theorem kit_dict_dict : kitB "dict" "dict" = some true := by decide +kernel
@[simp] theorem g_isN0 : gIsN .none .none = some true := rfl
@[simp] theorem g_isNb {x : Bool} : gIsN (.bool x) .none = some false := rfl
@[simp] theorem g_isNi {x : Int} : gIsN (.int x) .none = some false := rfl
@[simp] theorem g_isNs {x : Str} : gIsN (.str x) .none = some false := rfl
@[simp] theorem g_isNl {x : List D} : gIsN (.list x) .none = some false := rfl
@[simp] theorem g_isNt {x : List D} : gIsN (.tuple x) .none = some false := rfl
@[simp] theorem g_isNd {x : List (D × D)} : gIsN (.dict x) .none = some false := rfl
theorem g_eqG {x y : D} {K : Bool → Prop} : O (gEq x y) K = ((SeqAt.shaped x = true ∧ SeqAt.shaped y = true) ∧ K (PyData.eqv x y)) := by
  unfold gEq
  rw [O_ite, O_some]
theorem g_neG {x y : D} {K : Bool → Prop} : O (gNe x y) K = ((SeqAt.shaped x = true ∧ SeqAt.shaped y = true) ∧ K (!PyData.eqv x y)) := by
  unfold gNe
  rw [O_ite, O_some]
@[simp] theorem g_eqS {x y : Str} {K : Bool → Prop} : O (gEq (.str x) (.str y)) K = ((SeqAt.shaped (.str x) = true ∧ SeqAt.shaped (.str y) = true) ∧ K (decide (x = y))) := by
  rw [g_eqG]
  have : PyData.eqv (.str x) (.str y) = decide (x = y) := by
    unfold PyData.eqv
    rfl
  rw [this]
/-! sources -/
@[simp] theorem w_dRg1 : W (dRg1 fa ρ) QI = W (fa ρ) (fun a ρ1 => OI a (fun n => small62 n = true ∧ QI (rg1 n) ρ1)) := by
  unfold dRg1
  cases fa ρ with
  | none => simp
  | some p => obtain ⟨d, ρ1⟩ := p; cases d <;> simp [OI]
@[simp] theorem w_dRg2 : W (dRg2 fa fb ρ) QI = W (fa ρ) (fun a ρ1 => OI a (fun a => W (fb ρ1) (fun b ρ2 => OI b (fun b => (small62 a = true ∧ small62 b = true) ∧ QI (rg2 a b) ρ2)))) := by
  unfold dRg2
  cases fa ρ with
  | none => simp
  | some p =>
    obtain ⟨d, ρ1⟩ := p
    cases d with
    | int a =>
      simp only [W_some, OI_i]
      cases fb ρ1 with
      | none => simp
      | some q => obtain ⟨e, ρ2⟩ := q; cases e <;> simp [OI]
    | _ => simp [OI]
@[simp] theorem w_dSrc : W (dSrc fa ρ) QI = W (fa ρ) (fun a ρ1 => OSeq a (fun ds => QI ds ρ1)) := by
  unfold dSrc
  cases fa ρ with
  | none => simp
  | some p => obtain ⟨d, ρ1⟩ := p; cases d <;> simp [OSeq]
@[simp] theorem w_dLstRg : W (dLstRg fa ρ) QE = W (fa ρ) (fun a ρ1 => OI a (fun n => (0 ≤ n ∧ n ≤ 16777216) ∧ QE (.own 0 (.lst (rgD n))) ρ1)) := by
  unfold dLstRg
  cases fa ρ with
  | none => simp
  | some p => obtain ⟨d, ρ1⟩ := p; cases d <;> simp [OI]
@[simp] theorem w_sAug : W (sAug i fa ρ) QS = O (ρ[i]?) (fun s => match s with
    | some (.dat (.int a)) => W (fa ρ) (fun b ρ1 => OI b (fun b => QS .nx (ρ1.set i (some (.dat (.int (a + b)))))))
    | _ => False) := by
  unfold sAug
  cases ρ[i]? with
  | none => simp
  | some s =>
    cases s with
    | none => simp
    | some s => cases s with
      | own t o => simp
      | dat d => cases d with
        | int a =>
          simp only [O_some]
          cases fa ρ with
          | none => simp
          | some p => obtain ⟨b, ρ1⟩ := p; cases b <;> simp [OI]
        | _ => simp [OI]
/-! loops -/
variable {gd : D → Sl → Option Sl}
@[simp] theorem w_sFor {src : DI} : W (sFor src gd f ρ) QS = W (src ρ) (fun ds ρ1 => W (sLoop gd f ds ρ1) QS) := by
  unfold sFor
  rcases src ρ with _ | p0 <;> first | (simp; done) | (obtain ⟨_, _⟩ := p0; simp; done)
/-- behind a turn of a loop -/
def KL (I : Sl → Prop) (Q : Fl → Sl → Prop) : Fl → Sl → Prop
  | .nx, ρ => I ρ
  | .ct, ρ => I ρ
  | .bk, ρ => Q .nx ρ
  | .rt r, ρ => Q (.rt r) ρ
@[simp] theorem KL_nx {I : Sl → Prop} : KL I QS .nx ρ = I ρ := rfl
@[simp] theorem KL_ct {I : Sl → Prop} : KL I QS .ct ρ = I ρ := rfl
@[simp] theorem KL_bk {I : Sl → Prop} : KL I QS .bk ρ = QS .nx ρ := rfl
@[simp] theorem KL_rt {I : Sl → Prop} {r : SV} : KL I QS (.rt r) ρ = QS (.rt r) ρ := rfl
@[simp] theorem w_gN {d : D} : gN i d ρ = some (ρ.set i (some (.dat d))) := rfl
theorem w_loopFrom {all : List D} (I : Nat → Sl → Prop) (hs : ∀ j d ρ1, all[j]? = some d → I j ρ1 → O (gd d ρ1) (fun ρ2 => W (f ρ2) (KL (I (j + 1)) QS))) (he : ∀ ρ1, I all.length ρ1 → QS .nx ρ1) :
    ∀ (k j : Nat), k + j = all.length → ∀ {ρ : Sl}, I j ρ → W (sLoop gd f (all.drop j) ρ) QS := by
  intro k
  induction k with
  | zero =>
    intro j hj ρ h
    rw [List.drop_eq_nil_of_le (by omega)]
    unfold sLoop
    have : j = all.length := by omega
    subst this
    rw [W_some]
    exact he _ h
  | succ k ih =>
    intro j hj ρ h
    have hlt : j < all.length := by omega
    rw [List.drop_eq_getElem_cons hlt]
    obtain ⟨ρ2, e2, w2⟩ := (hs j all[j] ρ (List.getElem?_eq_getElem hlt) h).get
    obtain ⟨fl, ρ3, e3, w3⟩ := w2.get
    unfold sLoop
    rw [e2]
    simp only
    rw [e3]
    cases fl with
    | nx => exact ih (j + 1) (by omega) w3
    | ct => exact ih (j + 1) (by omega) w3
    | bk => simpa using w3
    | rt r => simpa using w3
theorem w_loop {ds : List D} (I : Nat → Sl → Prop) (h0 : I 0 ρ) (hs : ∀ j d ρ1, ds[j]? = some d → I j ρ1 → O (gd d ρ1) (fun ρ2 => W (f ρ2) (KL (I (j + 1)) QS))) (he : ∀ ρ1, I ds.length ρ1 → QS .nx ρ1) : W (sLoop gd f ds ρ) QS := by
  have := w_loopFrom I hs he ds.length 0 (by omega) h0
  simpa using this
theorem w_while (I : Nat → Sl → Prop) (hs : ∀ m ρ1, I m ρ1 → W (fc ρ1) (fun b ρ2 => (b = true → W (f ρ2) (KL (fun ρ3 => ∃ m', m' < m ∧ I m' ρ3) QS)) ∧ (b = false → QS .nx ρ2))) :
    ∀ {n m : Nat} {ρ : Sl}, I m ρ → m < n → W (sWhile fc f n ρ) QS := by
  intro n
  induction n with
  | zero => intro m ρ _ h; omega
  | succ n ih =>
    intro m ρ h hm
    obtain ⟨b, ρ2, e2, w1, w2⟩ := (hs m ρ h).get
    unfold sWhile
    rw [e2]
    cases b with
    | false => simpa using w2 rfl
    | true =>
      obtain ⟨fl, ρ3, e3, w3⟩ := (w1 rfl).get
      simp only
      rw [e3]
      cases fl with
      | nx => obtain ⟨m', h1, h2⟩ := w3; exact ih h2 (by omega)
      | ct => obtain ⟨m', h1, h2⟩ := w3; exact ih h2 (by omega)
      | bk => simpa using w3
      | rt r => simpa using w3
theorem w_while0 {n : Nat} (I : Nat → Sl → Prop) (m : Nat) (h0 : I m ρ) (hm : m < n) (hs : ∀ m ρ1, I m ρ1 → W (fc ρ1) (fun b ρ2 => (b = true → W (f ρ2) (KL (fun ρ3 => ∃ m', m' < m ∧ I m' ρ3) QS)) ∧ (b = false → QS .nx ρ2))) : W (sWhile fc f n ρ) QS :=
  w_while I hs h0 hm
/-! comprehensions -/
@[simp] theorem w_tTrue : tTrue ρ = some (true, ρ) := rfl
@[simp] theorem w_dLc {src : DI} {vs : List Nat} : W (dLc src gd ft fd vs ρ) QE = W (src ρ) (fun ds ρ1 => ds.length ≤ sizeLine ∧ W (lcLoop gd ft fd vs ds ρ1) (fun ys ρ2 => QE (.own 0 (.lst ys)) (restS ρ1 (wipeS ρ2 vs) vs))) := by
  unfold dLc
  cases src ρ with
  | none => simp
  | some p =>
    obtain ⟨ds, ρ1⟩ := p
    simp only [W_some, W_ite]
    congr 1
    rcases lcLoop gd ft fd vs ds ρ1 with _ | p0 <;> first | (simp; done) | (obtain ⟨_, _⟩ := p0; simp; done)
/-- a comprehension: ys, what has been made so far -/
theorem w_lc {vs : List Nat} {all : List D} (I : Nat → List D → Sl → Prop) (hs : ∀ j d ys ρ1, all[j]? = some d → I j ys ρ1 → O (gd d (wipeS ρ1 vs)) (fun ρ2 => W (ft ρ2) (fun b ρ3 => (b = true → W (fd ρ3) (fun y ρ4 => I (j + 1) (ys ++ [y]) ρ4)) ∧ (b = false → I (j + 1) ys ρ3))))
    {Q : List D → Sl → Prop} (he : ∀ ys ρ1, I all.length ys ρ1 → Q ys ρ1) : ∀ (k j : Nat), k + j = all.length → ∀ {ρ : Sl} {ys : List D}, I j ys ρ → W (lcLoop gd ft fd vs (all.drop j) ρ) (fun zs ρ' => Q (ys ++ zs) ρ') := by
  intro k
  induction k with
  | zero =>
    intro j hj ρ ys h
    rw [List.drop_eq_nil_of_le (by omega)]
    unfold lcLoop
    have : j = all.length := by omega
    subst this
    rw [W_some, List.append_nil]
    exact he _ _ h
  | succ k ih =>
    intro j hj ρ ys h
    have hlt : j < all.length := by omega
    rw [List.drop_eq_getElem_cons hlt]
    obtain ⟨ρ2, e2, w2⟩ := (hs j all[j] ys ρ (List.getElem?_eq_getElem hlt) h).get
    obtain ⟨b, ρ3, e3, w3, w4⟩ := w2.get
    unfold lcLoop
    rw [e2]
    simp only
    rw [e3]
    cases b with
    | false => exact ih (j + 1) (by omega) (w4 rfl)
    | true =>
      obtain ⟨y, ρ4, e4, w5⟩ := (w3 rfl).get
      simp only
      rw [e4]
      obtain ⟨zs, ρ5, e5, w6⟩ := (ih (j + 1) (by omega) w5).get
      simp only
      rw [e5]
      rw [W_some]
      rw [List.append_assoc] at w6
      exact w6
theorem w_lc0 {vs : List Nat} {ds : List D} (I : Nat → List D → Sl → Prop) (h0 : I 0 [] ρ) (hs : ∀ j d ys ρ1, ds[j]? = some d → I j ys ρ1 → O (gd d (wipeS ρ1 vs)) (fun ρ2 => W (ft ρ2) (fun b ρ3 => (b = true → W (fd ρ3) (fun y ρ4 => I (j + 1) (ys ++ [y]) ρ4)) ∧ (b = false → I (j + 1) ys ρ3))))
    {Q : List D → Sl → Prop} (he : ∀ ys ρ1, I ds.length ys ρ1 → Q ys ρ1) : W (lcLoop gd ft fd vs ds ρ) Q := by
  have := w_lc I hs he ds.length 0 (by omega) h0
  simpa using this
end
end LQ
set_option Elab.async false
set_option autoImplicit false
set_option linter.all false
set_option maxRecDepth 100000
namespace LD
open PySem PySem.Spec PyProof.Rows L2 LQ
def b_law_pool : DSt :=
  (sSeq (sSet 1 (dE (dK (.int 7))))
    (sSeq (sFor (dSrc (dD (dSl (dVar 0) oNone (oSome (dK (.int 63)))))) (gN 2) (sSet 1 (dOp2 gMod (dD (dOp1 gIntOf (dD (dOp2 gAdd (dD (dOp2 gMul (dVar 1) (dK (.int 31)))) (dVar 2))))) (dK (.int 1000003)))))
    (sRet (dLst (aCons (dD (dOp1 gList (dVar 0))) (aCons (dK (.int 0)) (aCons (dK (.int 0)) (aCons (dK (.int 0)) (aCons (dVar 1) aNil)))))))))
def d_law_pool : List SV → Option (SV × List SV) := dFun 3 b_law_pool
def b_law_spread : DSt :=
  (sSeq (sSet 1 (dOp2 gMod (dD (dOp1 gIntOf (dVar 0))) (dK (.int 2147483647))))
    (sSeq (sSet 2 (dE (dK (.int 1))))
    (sSeq (sFor (dRg1 (dK (.int 4))) (gN 3) (sSeq (sSet 1 (dOp2 gMod (dD (dOp1 gIntOf (dD (dOp2 gAdd (dD (dOp2 gAdd (dD (dOp2 gMul (dVar 1) (dK (.int 48271)))) (dK (.int 12345)))) (dVar 3))))) (dK (.int 2147483647))))
    (sSet 2 (dOp2 gAdd (dD (dOp2 gMul (dVar 2) (dK (.int 2147483647)))) (dVar 1)))))
    (sRet (dE (dVar 2))))))
def d_law_spread : List SV → Option (SV × List SV) := dFun 4 b_law_spread
def b_law_draw : DSt :=
  (sSeq (sIf (dAnd (dCmp gLeI (dIxH 0 (dK (.int 2))) (dK (.int 0))) (dCmp gLtI (dIxH 0 (dK (.int 1))) (dD (dOp1 gLen (dIxH 0 (dK (.int 0))))))) (sSeq (sSet 2 (dOp2 gIx (dIxH 0 (dK (.int 0))) (dIxH 0 (dK (.int 1)))))
    (sSeq (sSetIx 0 (dK (.int 1)) (dD (dOp2 gAdd (dIxH 0 (dK (.int 1))) (dK (.int 1)))))
    (sSeq (sSetIx 0 (dK (.int 2)) (dVar 2))
    (sIf (dCmp gLtI (dVar 2) (dK (.int 1000000000000000000))) (sSetIx 0 (dK (.int 2)) (dD (dCall d_law_spread (aCons (dVar 2) aNil)))) sNil)))) sNil)
    (sSeq (sSetIx 0 (dK (.int 3)) (dD (dOp2 gAdd (dIxH 0 (dK (.int 3))) (dK (.int 1)))))
    (sSeq (sIf (dCmp gLeI (dIxH 0 (dK (.int 2))) (dK (.int 0))) (sSeq (sSet 3 (dOp2 gMod (dD (dOp1 gIntOf (dD (dOp2 gAdd (dD (dOp2 gAdd (dD (dOp2 gMul (dIxH 0 (dK (.int 4))) (dK (.int 48271)))) (dD (dOp2 gMul (dIxH 0 (dK (.int 3))) (dK (.int 69621)))))) (dK (.int 1)))))) (dK (.int 2147483647))))
    (sSeq (sSet 3 (dOp2 gMod (dD (dOp1 gIntOf (dD (dOp2 gAdd (dD (dOp2 gMul (dVar 3) (dK (.int 16807)))) (dIxH 0 (dK (.int 3))))))) (dK (.int 2147483629))))
    (sRet (dOp2 gMod (dD (dOp2 gDiv (dVar 3) (dK (.int 5)))) (dVar 1))))) sNil)
    (sSeq (sSet 4 (dOp2 gMod (dD (dOp1 gIntOf (dIxH 0 (dK (.int 2))))) (dVar 1)))
    (sSeq (sSetIx 0 (dK (.int 2)) (dD (dOp2 gDiv (dIxH 0 (dK (.int 2))) (dVar 1))))
    (sRet (dE (dVar 4))))))))
def d_law_draw : List SV → Option (SV × List SV) := dFun 5 b_law_draw
def b_law_ranking : DSt :=
  (sSeq (sSet 2 (dLstRg (dVar 1)))
    (sSeq (sSet 3 (dLst aNil))
    (sSeq (sWhile (dCmp gGtI (dLenO 2) (dK (.int 0))) (sApp 3 (dPop 2 (dD (dCall d_law_draw (aBor 0 (aCons (dLenO 2) aNil)))))) 100)
    (sRet (dOp1 gTuple (dVar 3))))))
def d_law_ranking : List SV → Option (SV × List SV) := dFun 4 b_law_ranking
def b_law_inversions : DSt :=
  (sSeq (sSet 2 (dE (dK (.int 0))))
    (sSeq (sFor (dRg1 (dD (dOp1 gLen (dVar 0)))) (gN 3) (sFor (dRg2 (dD (dOp2 gAdd (dVar 3) (dK (.int 1)))) (dD (dOp1 gLen (dVar 0)))) (gN 4) (sIf (dCmp gGtI (dD (dOp2 gTIx (dVar 1) (dD (dOp2 gIx (dVar 0) (dVar 3))))) (dD (dOp2 gTIx (dVar 1) (dD (dOp2 gIx (dVar 0) (dVar 4)))))) (sSet 2 (dOp2 gAdd (dVar 2) (dK (.int 1)))) sNil)))
    (sRet (dE (dVar 2)))))
def d_law_inversions : List SV → Option (SV × List SV) := dFun 5 b_law_inversions
def b_law_same (self : List SV → Option (SV × List SV)) : DSt :=
  (sSeq (sIf (dOr (dTB (dIsi "tuple" (dVar 1))) (dTB (dIsi "list" (dVar 1)))) (sSeq (sIf (dOr (dCmp gNe (dIsi "tuple" (dVar 1)) (dIsi "tuple" (dVar 0))) (dCmp gNe (dIsi "list" (dVar 1)) (dIsi "list" (dVar 0)))) (sRet (dE (dK (.bool false)))) sNil)
    (sSeq (sIf (dCmp gNe (dD (dOp1 gLen (dVar 0))) (dD (dOp1 gLen (dVar 1)))) (sRet (dE (dK (.bool false)))) sNil)
    (sRet (dE (dTV (dCmp gEq (dD (dOp1 gLen (dD (dLc (dRg1 (dD (dOp1 gLen (dVar 1)))) (gN 2) (dNot (dTB (dD (dCall self (aCons (dD (dOp2 gIx (dVar 0) (dVar 2))) (aCons (dD (dOp2 gIx (dVar 1) (dVar 2))) aNil)))))) (dVar 2) [2])))) (dK (.int 0)))))))) sNil)
    (sSeq (sIf (dCmp gIsN (dVar 1) (dK .none)) (sRet (dE (dTV (dCmp gIsN (dVar 0) (dK .none))))) sNil)
    (sSeq (sIf (dOr (dTB (dIsi "bool" (dVar 1))) (dTB (dIsi "bool" (dVar 0)))) (sRet (dE (dAndV (dTB (dIsi "bool" (dVar 1))) (dAndV (dTB (dIsi "bool" (dVar 0))) (dTV (dCmp gEq (dVar 0) (dVar 1))))))) sNil)
    (sSeq (sIf (dTB (dIsi "int" (dVar 1))) (sRet (dE (dAndV (dTB (dIsi "int" (dVar 0))) (dTV (dCmp gEq (dVar 0) (dVar 1)))))) sNil)
    (sRet (dE (dAndV (dTB (dIsi "str" (dVar 0))) (dTV (dCmp gEq (dVar 0) (dVar 1))))))))))
def d_law_same : Nat → List SV → Option (SV × List SV)
  | 0 => fun _ => none
  | n + 1 => dFun 3 (b_law_same (d_law_same n))
def b_law_swap : DSt :=
  (sRet (dOp2 gAdd (dD (dOp2 gAdd (dD (dSl (dVar 0) oNone (oSome (dVar 1)))) (dTup (aCons (dD (dOp2 gIx (dVar 0) (dD (dOp2 gAdd (dVar 1) (dK (.int 1)))))) (aCons (dD (dOp2 gIx (dVar 0) (dVar 1))) aNil))))) (dD (dSl (dVar 0) (oSome (dD (dOp2 gAdd (dVar 1) (dK (.int 2))))) oNone))))
def d_law_swap : List SV → Option (SV × List SV) := dFun 2 b_law_swap
def b_law_steps_between : DSt :=
  (sSeq (sSet 2 (dLst (aCons (dVar 0) aNil)))
    (sSeq (sSet 3 (dDone (dVar 0) (dK (.bool true))))
    (sSeq (sFor (dRg1 (dK (.int 20))) (gN 4) (sSeq (sIf (dInO false 3 (dVar 1)) (sRet (dE (dVar 4))) sNil)
    (sSeq (sSet 5 (dLst aNil))
    (sSeq (sFor (dSrc (dVar 2)) (gN 6) (sFor (dRg1 (dD (dOp2 gSub (dD (dOp1 gLen (dVar 6))) (dK (.int 1))))) (gN 7) (sSeq (sSet 8 (dCall d_law_swap (aCons (dVar 6) (aCons (dVar 7) aNil))))
    (sIf (dInO true 3 (dVar 8)) (sSeq (sSetD 3 (dVar 8) (dK (.bool true)))
    (sApp 5 (dVar 8))) sNil))))
    (sSet 2 (dMov 5))))))
    (sRet (dOp1 gNeg (dK (.int 1)))))))
def d_law_steps_between : List SV → Option (SV × List SV) := dFun 9 b_law_steps_between
def b_f_place_of : DSt :=
  (sRet (dOp2 gTIx (dVar 0) (dVar 1)))
def d_f_place_of : List SV → Option (SV × List SV) := dFun 2 b_f_place_of
def b_f_distance : DSt :=
  (sSeq (sSet 2 (dE (dK (.int 0))))
    (sSeq (sFor (dRg1 (dD (dOp1 gLen (dVar 0)))) (gN 3) (sFor (dRg2 (dD (dOp2 gAdd (dVar 3) (dK (.int 1)))) (dD (dOp1 gLen (dVar 0)))) (gN 4) (sIf (dCmp gGtI (dD (dCall d_f_place_of (aCons (dVar 1) (aCons (dD (dOp2 gIx (dVar 0) (dVar 3))) aNil)))) (dD (dCall d_f_place_of (aCons (dVar 1) (aCons (dD (dOp2 gIx (dVar 0) (dVar 4))) aNil))))) (sAug 2 (dK (.int 1))) sNil)))
    (sRet (dE (dVar 2)))))
def d_f_distance : List SV → Option (SV × List SV) := dFun 5 b_f_distance
def b_f_swapped : DSt :=
  (sRet (dE (dTup (aStar (dD (dSl (dVar 0) oNone (oSome (dVar 1)))) (aCons (dD (dOp2 gIx (dVar 0) (dD (dOp2 gAdd (dVar 1) (dK (.int 1)))))) (aCons (dD (dOp2 gIx (dVar 0) (dVar 1))) (aStar (dD (dSl (dVar 0) (oSome (dD (dOp2 gAdd (dVar 1) (dK (.int 2))))) oNone)) aNil)))))))
def d_f_swapped : List SV → Option (SV × List SV) := dFun 2 b_f_swapped
def b_k02 : DSt :=
  (sSeq (sSet 1 (dCall d_law_pool (aCons (dVar 0) aNil)))
    (sSeq (sFor (dRg1 (dK (.int 4))) (gN 2) (sSeq (sSet 3 (dOp2 gAdd (dK (.int 1)) (dD (dCall d_law_draw (aBor 1 (aCons (dK (.int 6)) aNil))))))
    (sSeq (sSet 4 (dCall d_law_ranking (aBor 1 (aCons (dVar 3) aNil))))
    (sSeq (sSet 5 (dIfE (dCmp gEq (dD (dCall d_law_draw (aBor 1 (aCons (dK (.int 6)) aNil)))) (dK (.int 0))) (dE (dVar 4)) (dCall d_law_ranking (aBor 1 (aCons (dVar 3) aNil)))))
    (sSeq (sSet 6 (dCall d_law_inversions (aCons (dVar 4) (aCons (dVar 5) aNil))))
    (sSeq (sIf (dOr (dNot (dTB (dD (dCall (d_law_same 8) (aCons (dD (dCall d_f_distance (aCons (dVar 4) (aCons (dVar 5) aNil)))) (aCons (dVar 6) aNil)))))) (dNot (dTB (dD (dCall (d_law_same 8) (aCons (dD (dCall d_f_distance (aCons (dVar 5) (aCons (dVar 4) aNil)))) (aCons (dVar 6) aNil))))))) (sRet (dE (dK (.bool false)))) sNil)
    (sSeq (sIf (dAnd (dCmp gLtI (dVar 3) (dK (.int 5))) (dCmp gNe (dD (dCall d_law_steps_between (aCons (dVar 4) (aCons (dVar 5) aNil)))) (dVar 6))) (sRet (dE (dK (.bool false)))) sNil)
    (sFor (dRg1 (dD (dOp2 gSub (dVar 3) (dK (.int 1))))) (gN 7) (sIf (dOr (dNot (dTB (dD (dCall (d_law_same 8) (aCons (dD (dCall d_f_swapped (aCons (dVar 4) (aCons (dVar 7) aNil)))) (aCons (dD (dCall d_law_swap (aCons (dVar 4) (aCons (dVar 7) aNil)))) aNil)))))) (dNot (dTB (dD (dCall (d_law_same 8) (aCons (dD (dCall d_f_swapped (aCons (dD (dCall d_f_swapped (aCons (dVar 4) (aCons (dVar 7) aNil)))) (aCons (dVar 7) aNil)))) (aCons (dVar 4) aNil))))))) (sRet (dE (dK (.bool false)))) sNil)))))))))
    (sRet (dE (dK (.bool true))))))
def d_k02 : List SV → Option (SV × List SV) := dFun 8 b_k02
end LD
set_option Elab.async false
set_option autoImplicit false
set_option linter.all false
set_option maxRecDepth 100000
set_option maxHeartbeats 4000000
/-! MB: the drawing helpers that all laws share: pool, spread, draw, ranking, same. -/
namespace LM
open PySem PySem.Spec L2 LQ LD
theorem ixN_nat {n i : Nat} (h : i < n) : L2.ixN n (i : Int) = some i := by
  unfold L2.ixN
  rw [if_pos (by omega), if_pos (by omega)]
  rfl
theorem ixN_lt {n : Nat} {i : Int} (h0 : 0 ≤ i) (h : i < n) : L2.ixN n i = some i.toNat := by
  unfold L2.ixN
  rw [if_pos h0, if_pos h]
theorem atI_map {α β : Type} {l : List α} {i : Nat} {x : α} (h : l[i]? = some x) {f : α → β} : L2.atI (l.map f) (i : Int) = some (f x) := by
  obtain ⟨h1, h2⟩ := List.getElem?_eq_some_iff.mp h
  unfold L2.atI
  rw [List.length_map, ixN_nat h1]
  simp [h2, h1]
theorem atI_nat {α : Type} {l : List α} {i : Nat} {x : α} (h : l[i]? = some x) : L2.atI l (i : Int) = some x := by
  obtain ⟨h1, h2⟩ := List.getElem?_eq_some_iff.mp h
  unfold L2.atI
  rw [ixN_nat h1]
  simpa using h
section
variable {α : Type} {a b c d e : α} {l : List α}
@[simp] theorem at0 : L2.atI (a :: l) 0 = some a := atI_nat (i := 0) rfl
@[simp] theorem at1 : L2.atI (a :: b :: l) 1 = some b := atI_nat (i := 1) rfl
@[simp] theorem at2 : L2.atI (a :: b :: c :: l) 2 = some c := atI_nat (i := 2) rfl
@[simp] theorem at3 : L2.atI (a :: b :: c :: d :: l) 3 = some d := atI_nat (i := 3) rfl
@[simp] theorem at4 : L2.atI (a :: b :: c :: d :: e :: l) 4 = some e := atI_nat (i := 4) rfl
@[simp] theorem ix51 : L2.ixN 5 1 = some 1 := rfl
@[simp] theorem ix52 : L2.ixN 5 2 = some 2 := rfl
@[simp] theorem ix53 : L2.ixN 5 3 = some 3 := rfl
end
theorem log2_le {n : Nat} (h : n < 2 ^ 200) : n.log2 ≤ 200 := by
  by_cases z : n = 0
  · subst z; decide
  · exact Nat.le_of_lt ((Nat.log2_lt z).mpr h)
theorem mulok {a b : Int} (ha : a.natAbs < 2 ^ 200) (hb : b.natAbs < 2 ^ 200) : MulS a b := by
  unfold MulS
  have := log2_le ha
  have := log2_le hb
  omega
theorem divok {b : Int} (h0 : 0 < b) (hb : b.natAbs < 2 ^ 200) : DivS b := by
  have := log2_le hb
  exact ⟨h0, by omega⟩
theorem cutD_all {ds : List D} {n : Nat} (h : ds.length ≤ n) : cutD ds none (some (n : Int)) = ds := by
  show (ds.drop 0).take (min n ds.length - 0) = ds
  rw [List.drop_zero, Nat.sub_zero, Nat.min_eq_right h, List.take_length]
/-! ### pool -/
def pool5 (ns : List Int) (p cur cnt salt : Int) : OV := .lst [.list (ns.map .int), .int p, .int cur, .int cnt, .int salt]
/-- a pool from which at most b numbers have been drawn -/
def PoolLe (b : Int) (o : OV) : Prop := ∃ (ns : List Int) (p cur cnt salt : Int), o = pool5 ns p cur cnt salt ∧ 0 ≤ p ∧ 0 ≤ cnt ∧ cnt ≤ b ∧ 0 ≤ salt ∧ salt < 1000003
theorem PoolLe.mono {b c : Int} {o : OV} (h : PoolLe b o) (i : b ≤ c) : PoolLe c o := by
  obtain ⟨ns, p, cur, cnt, salt, rfl, h1, h2, h3, h4, h5⟩ := h
  exact ⟨ns, p, cur, cnt, salt, rfl, h1, h2, by omega, h4, h5⟩
theorem pool_ok {ns : List Int} (h : ns.length ≤ 63) {K : SV × List SV → Prop} (k : ∀ o, PoolLe 0 o → K (.own 0 o, [.dat (.list (ns.map .int))])) : O (d_law_pool [.dat (.list (ns.map .int))]) K := by
  unfold d_law_pool
  rw [o_dFun]
  have hc : cutD (ns.map PyData.int) none (some 63) = ns.map PyData.int := cutD_all (n := 63) (by simpa using h)
  simp [b_law_pool, hc]
  refine w_loop (fun j ρ => ∃ salt x, ρ = [some (.dat (.list (ns.map .int))), some (.dat (.int salt)), x] ∧ 0 ≤ salt ∧ salt < 1000003) ⟨7, _, rfl, by omega, by omega⟩ ?_ ?_
  · rintro j d ρ1 hd ⟨salt, x, rfl, h1, h2⟩
    rw [List.getElem?_map] at hd
    obtain ⟨z, _, rfl⟩ := Option.map_eq_some_iff.mp hd
    simp
    refine ⟨mulok (by omega) (by omega), by omega, by omega⟩
  · rintro ρ1 ⟨salt, x, rfl, h1, h2⟩
    simp
    exact ⟨by decide, k _ ⟨ns, 0, 0, 0, salt, rfl, by omega, by omega, by omega, h1, h2⟩⟩
theorem spread_ok {cell : Int} {K : SV × List SV → Prop} (k : ∀ r, K (.dat (.int r), [.dat (.int cell)])) : O (d_law_spread [.dat (.int cell)]) K := by
  unfold d_law_spread
  rw [o_dFun]
  simp [b_law_spread]
  refine ⟨by decide, ?_⟩
  refine w_loop (fun j ρ => ∃ mixed total x, ρ = [some (.dat (.int cell)), some (.dat (.int mixed)), some (.dat (.int total)), x] ∧ 0 ≤ mixed ∧ mixed < 2147483647 ∧ 0 ≤ total ∧ total < 2147483647 ^ (j + 1) ∧ j ≤ 4) ⟨cell % 2147483647, 1, _, rfl, by omega, by omega, by omega, by omega, by omega⟩ ?_ ?_
  · rintro j d ρ1 hd ⟨mixed, total, x, rfl, h1, h2, h3, h4, h5⟩
    have hj : j < 4 := by
      have := (List.getElem?_eq_some_iff.mp hd).1
      simpa [rg1] using this
    have e : d = .int (j : Nat) := by
      simp [rg1, hj] at hd
      exact hd.symm
    subst e
    simp
    have h7 : j = 0 ∨ j = 1 ∨ j = 2 ∨ j = 3 := by omega
    rcases h7 with rfl | rfl | rfl | rfl <;> simp at h4 ⊢ <;> exact ⟨mulok (by omega) (by omega), mulok (by omega) (by omega), _, _, ⟨rfl, rfl⟩, by omega⟩
  · rintro ρ1 ⟨mixed, total, x, rfl, _⟩
    simp
    exact k _
theorem draw_ok {b many : Int} {o : OV} (h : PoolLe b o) (hb : b < 2 ^ 40) (h0 : 0 < many) (hm : many < 2 ^ 40) {K : SV × List SV → Prop} (k : ∀ r o', 0 ≤ r → r < many → PoolLe (b + 1) o' → K (.dat (.int r), [.own 1 o', .dat (.int many)])) : O (d_law_draw [.own 1 o, .dat (.int many)]) K := by
  obtain ⟨ns, p, cur, cnt, salt, rfl, h1, h2, h3, h4, h5⟩ := h
  unfold d_law_draw
  rw [o_dFun]
  unfold b_law_draw
  rw [w_sSeq]
  generalize hQ : KS _ _ = Q
  have q : ∀ p cur cell, 0 ≤ p → Q .nx [some (.own 1 (pool5 ns p cur cnt salt)), some (.dat (.int many)), cell, none, none] := by
    intro p cur cell h1
    subst hQ
    rw [KS_nx, w_sSeq]
    simp [pool5]
    have hd : ∀ x : Int, 0 ≤ x % 2147483647 ∧ x % 2147483647 < 2147483647 := fun x => by omega
    refine ⟨fun _ => ⟨mulok (by omega) (by omega), mulok (by omega) (by omega), mulok (by have := hd (salt * 48271 + (cnt + 1) * 69621 + 1); omega) (by omega), divok (by omega) (by omega), h0, ?_⟩, fun _ => ⟨h0, divok h0 (by omega), ?_⟩⟩
    · exact k _ _ (Int.emod_nonneg _ (by omega)) (Int.emod_lt_of_pos _ h0) ⟨ns, p, cur, cnt + 1, salt, rfl, h1, by omega, by omega, h4, h5⟩
    · exact k _ _ (Int.emod_nonneg _ (by omega)) (Int.emod_lt_of_pos _ h0) ⟨ns, p, _, cnt + 1, salt, rfl, h1, by omega, by omega, h4, h5⟩
  clear hQ
  simp [pool5]
  refine ⟨fun _ => ⟨fun hp => ?_, fun _ => q _ _ _ h1⟩, fun _ => q _ _ _ h1⟩
  obtain ⟨n, rfl⟩ := Int.eq_ofNat_of_zero_le h1
  have hl : n < ns.length := by omega
  rw [atI_map (List.getElem?_eq_getElem hl)]
  simp
  refine ⟨fun _ => spread_ok fun r => ?_, fun _ => q _ _ _ (by omega)⟩
  simp
  exact q _ _ _ (by omega)
/-! ### drawn rankings -/
theorem eraseIdx_perm {α : Type} [BEq α] {l : List α} {i : Nat} {x : α} (h : l[i]? = some x) : (x :: l.eraseIdx i).Perm l := by
  induction l generalizing i with
  | nil => simp at h
  | cons a l ih =>
    cases i with
    | zero => simp at h; subst h; exact .refl _
    | succ i =>
      simp at h
      rw [List.eraseIdx_cons_succ]
      exact (List.Perm.swap _ _ _).trans ((ih h).cons _)
theorem eraseIdx_mapx {α β : Type} (f : α → β) : ∀ (l : List α) (i : Nat), (l.map f).eraseIdx i = (l.eraseIdx i).map f
  | [], _ => by simp
  | a :: l, 0 => by simp
  | a :: l, i + 1 => by simp [eraseIdx_mapx f l i]
theorem rgD_map (n : Nat) : rgD (n : Int) = (List.range n).map fun i => PyData.int (i : Nat) := by
  unfold rgD
  rw [Int.toNat_natCast]
theorem ranking_ok {b : Int} {size : Nat} {o : OV} (h : PoolLe b o) (hb : b < 2 ^ 39) (hs : size ≤ 99) {K : SV × List SV → Prop}
    (k : ∀ (p : List Nat) o', p.Perm (List.range size) → PoolLe (b + size) o' → K (.dat (.tuple (p.map fun i => PyData.int (i : Nat))), [.own 1 o', .dat (.int size)])) : O (d_law_ranking [.own 1 o, .dat (.int size)]) K := by
  unfold d_law_ranking
  rw [o_dFun]
  unfold b_law_ranking
  simp
  refine ⟨by omega, ?_⟩
  refine w_while0 (fun m ρ => ∃ (o : OV) (left found : List Nat), ρ = [some (.own 1 o), some (.dat (.int size)), some (.own 0 (.lst (left.map fun i => PyData.int (i : Nat)))), some (.own 0 (.lst (found.map fun i => PyData.int (i : Nat))))] ∧ PoolLe (b + found.length) o ∧ (found ++ left).Perm (List.range size) ∧ m = left.length) size ⟨o, List.range size, [], ?_, by simpa using h, by simp, by simp⟩ (by omega) ?_
  · simp [rgD_map]
  · rintro m ρ1 ⟨o, left, found, rfl, h1, h2, rfl⟩
    have lf : found.length + left.length = size := by
      have := h2.length_eq
      simpa using this
    simp
    refine ⟨fun hl => draw_ok h1 (by omega) (by omega) (by omega) fun r o' r0 r1 ho => ?_, fun hl => ?_⟩
    · obtain ⟨n, rfl⟩ := Int.eq_ofNat_of_zero_le r0
      have hn : n < left.length := by omega
      simp [hn]
      have he : (left.eraseIdx n).length = left.length - 1 := List.length_eraseIdx_of_lt hn
      refine ⟨by omega, by simp [sizeLine]; omega, _, ?_, o', left.eraseIdx n, found ++ [left[n]], ⟨rfl, ?_, ?_⟩, ?_, ?_, rfl⟩
      · omega
      · exact eraseIdx_mapx _ _ _
      · simp
      · rw [List.length_append, List.length_singleton, Int.natCast_add, ← Int.add_assoc]
        exact ho
      · rw [List.append_assoc]
        exact (List.Perm.append_left found (eraseIdx_perm (List.getElem?_eq_getElem hn))).trans h2
    · subst hl
      rw [List.append_nil] at h2
      refine k found o h2 ?_
      have : found.length = size := by simpa using lf
      rw [← this]
      exact h1
/-! ### _law_same, of equal things -/
mutual
def plainD : Nat → D → Bool
  | _, .none => true
  | _, .bool _ => true
  | _, .int _ => true
  | _, .str x => SeqAt.shaped (.str x)
  | n + 1, .list ds => decide (ds.length ≤ sizeLine) && plainDs n ds
  | n + 1, .tuple ds => decide (ds.length ≤ sizeLine) && plainDs n ds
  | _, _ => false
def plainDs : Nat → List D → Bool
  | _, [] => true
  | n, d :: ds => plainD n d && plainDs n ds
end
theorem plainDs_get {n : Nat} {ds : List D} (h : plainDs n ds = true) {i : Nat} {d : D} (e : ds[i]? = some d) : plainD n d = true := by
  induction ds generalizing i with
  | nil => simp at e
  | cons a ds ih =>
    unfold plainDs at h
    rw [Bool.and_eq_true] at h
    cases i with
    | zero => simp at e; subst e; exact h.1
    | succ i => exact ih h.2 (by simpa using e)
theorem small_len {n : Nat} (h : n ≤ sizeLine) : small62 (n : Int) = true := by
  have : n ≤ 1000000000000 := Nat.le_trans h (by decide)
  unfold small62
  simp
  omega
theorem rg1_len {n : Nat} : (rg1 (n : Int)).length = n := by
  unfold rg1
  simp
theorem rg1_get {n j : Nat} {d : D} (h : (rg1 (n : Int))[j]? = some d) : ∃ _ : j < n, d = .int (j : Nat) := by
  have hj := (List.getElem?_eq_some_iff.mp h).1
  rw [rg1_len] at hj
  refine ⟨hj, ?_⟩
  simp [rg1, hj] at h
  exact h.symm
theorem same_ok : ∀ (n : Nat) (d : D), plainD n d = true → ∀ {K : SV × List SV → Prop}, K (.dat (.bool true), [.dat d, .dat d]) → O (d_law_same (n + 1) [.dat d, .dat d]) K
  | n, .none, _, K, k => by
    unfold d_law_same
    rw [o_dFun]
    simp [b_law_same]
    exact k
  | n, .bool b, _, K, k => by
    unfold d_law_same
    rw [o_dFun]
    simp [b_law_same]
    exact k
  | n, .int b, _, K, k => by
    unfold d_law_same
    rw [o_dFun]
    simp [b_law_same]
    exact k
  | n, .str b, h, K, k => by
    unfold d_law_same
    rw [o_dFun]
    simp [b_law_same]
    exact ⟨by unfold plainD at h; exact h, k⟩
  | n + 1, .list ds, h, K, k => by
    have ih := same_ok n
    unfold plainD at h
    rw [Bool.and_eq_true, decide_eq_true_iff] at h
    obtain ⟨h1, h2⟩ := h
    unfold d_law_same
    rw [o_dFun]
    simp [b_law_same]
    refine ⟨small_len h1, by rw [rg1_len]; exact h1, ?_⟩
    refine w_lc0 (fun j ys ρ => ys = [] ∧ ∃ x, ρ = [some (.dat (.list ds)), some (.dat (.list ds)), x]) ⟨rfl, _, rfl⟩ ?_ ?_
    · rintro j d ys ρ1 hd ⟨rfl, x, rfl⟩
      obtain ⟨hj, rfl⟩ := rg1_get hd
      have hd := List.getElem?_eq_getElem hj
      simp [wipeS, atI_nat hd]
      exact ih _ (plainDs_get h2 hd) (by simp)
    · rintro ys ρ1 ⟨rfl, x, rfl⟩
      simpa using k
  | n + 1, .tuple ds, h, K, k => by
    have ih := same_ok n
    unfold plainD at h
    rw [Bool.and_eq_true, decide_eq_true_iff] at h
    obtain ⟨h1, h2⟩ := h
    unfold d_law_same
    rw [o_dFun]
    simp [b_law_same]
    refine ⟨small_len h1, by rw [rg1_len]; exact h1, ?_⟩
    refine w_lc0 (fun j ys ρ => ys = [] ∧ ∃ x, ρ = [some (.dat (.tuple ds)), some (.dat (.tuple ds)), x]) ⟨rfl, _, rfl⟩ ?_ ?_
    · rintro j d ys ρ1 hd ⟨rfl, x, rfl⟩
      obtain ⟨hj, rfl⟩ := rg1_get hd
      have hd := List.getElem?_eq_getElem hj
      simp [wipeS, atI_nat hd]
      exact ih _ (plainDs_get h2 hd) (by simp)
    · rintro ys ρ1 ⟨rfl, x, rfl⟩
      simpa using k
end LM
set_option Elab.async false
set_option autoImplicit false
set_option linter.all false
set_option maxRecDepth 100000
set_option maxHeartbeats 4000000
/-! M02: the laws of distances, in plain Lean. -/
namespace LM
open PySem L2 LQ LD
/-! ### sums -/
def S : Nat → (Nat → Nat) → Nat
  | 0, _ => 0
  | n + 1, f => S n f + f n
theorem S_succ {n : Nat} {f : Nat → Nat} : S (n + 1) f = S n f + f n := rfl
theorem S_congr {n : Nat} {f g : Nat → Nat} (h : ∀ i, i < n → f i = g i) : S n f = S n g := by
  induction n with
  | zero => rfl
  | succ n ih => unfold S; rw [ih fun i hi => h i (by omega), h n (by omega)]
theorem S_add {n m : Nat} {f : Nat → Nat} : S (n + m) f = S n f + S m (fun j => f (n + j)) := by
  induction m with
  | zero => rfl
  | succ m ih =>
    show S (n + m) f + f (n + m) = S n f + (S m (fun j => f (n + j)) + f (n + m))
    rw [ih]; omega
theorem S_zero {n : Nat} : S n (fun _ => 0) = 0 := by
  induction n with
  | zero => rfl
  | succ n ih => show S n (fun _ => 0) + 0 = 0; rw [ih]
theorem S_plus {n : Nat} {f g : Nat → Nat} : S n (fun i => f i + g i) = S n f + S n g := by
  induction n with
  | zero => rfl
  | succ n ih =>
    show S n (fun i => f i + g i) + (f n + g n) = (S n f + f n) + (S n g + g n)
    rw [ih]; omega
theorem S_swap {n m : Nat} {f : Nat → Nat → Nat} : S n (fun i => S m (f i)) = S m (fun j => S n (fun i => f i j)) := by
  induction n with
  | zero => show 0 = S m (fun _ => 0); rw [S_zero]
  | succ n ih =>
    show S n (fun i => S m (f i)) + S m (f n) = S m (fun j => S n (fun i => f i j) + f n j)
    rw [S_plus, ih]
def gp (p : List Nat) (i : Nat) : Nat := p.getD i 0
def sumL : List Nat → Nat
  | [] => 0
  | a :: l => a + sumL l
theorem sumL_app (a b : List Nat) : sumL (a ++ b) = sumL a + sumL b := by
  induction a with
  | nil => simp [sumL]
  | cons x a ih => simp [sumL, ih]; omega
theorem S_list (l : List Nat) (f : Nat → Nat) : sumL (l.map f) = S l.length (fun i => f (gp l i)) := by
  induction l with
  | nil => rfl
  | cons a l ih =>
    rw [List.length_cons, Nat.add_comm, S_add]
    show f a + sumL (l.map f) = _
    rw [ih]
    simp [S, gp, Nat.add_comm 1]
theorem sumL_perm {a b : List Nat} (h : a.Perm b) : sumL a = sumL b := by
  induction h with
  | nil => rfl
  | cons x _ ih => simp [sumL, ih]
  | swap x y l => simp [sumL]; omega
  | trans _ _ h1 h2 => rw [h1, h2]
theorem S_range (n : Nat) (f : Nat → Nat) : sumL ((List.range n).map f) = S n f := by
  rw [S_list, List.length_range]
  refine S_congr fun i hi => ?_
  simp [gp, hi]
/-- a sum over a permutation's places -/
theorem S_perm {n : Nat} {p : List Nat} (h : p.Perm (List.range n)) (f : Nat → Nat) : S n f = S n (fun i => f (gp p i)) := by
  have hl : p.length = n := by simpa using h.length_eq
  rw [← S_range, ← sumL_perm (h.map f), S_list, hl]
/-! ### inversions -/
def cI (p q : List Nat) (i j : Nat) : Nat := if q.idxOf (gp p j) < q.idxOf (gp p i) then 1 else 0
def rowI (p q : List Nat) (i : Nat) : Nat := S (p.length - (i + 1)) (fun m => cI p q i (i + 1 + m))
def inv (p q : List Nat) : Nat := S p.length (rowI p q)
theorem rowI_eq {p q : List Nat} {i : Nat} (h : i < p.length) : rowI p q i = S p.length (fun j => if i < j then cI p q i j else 0) := by
  have e : p.length = (i + 1) + (p.length - (i + 1)) := by omega
  conv => rhs; rw [e, S_add]
  rw [S_congr (n := i + 1) (g := fun _ => 0) fun j hj => if_neg (by omega), S_zero, Nat.zero_add]
  unfold rowI
  exact S_congr fun m _ => (if_pos (by omega)).symm
def cV (p q : List Nat) (x y : Nat) : Nat := if p.idxOf x < p.idxOf y ∧ q.idxOf y < q.idxOf x then 1 else 0
theorem idxOf_getD {p : List Nat} {i : Nat} (nd : p.Nodup) (h : i < p.length) : p.idxOf (gp p i) = i := by
  have e : gp p i = p[i] := by simp [gp, h]
  rw [e]
  exact List.Nodup.idxOf_getElem nd i h
theorem inv_V {n : Nat} {p q : List Nat} (h : p.Perm (List.range n)) : inv p q = S n (fun x => S n (fun y => cV p q x y)) := by
  have nd : p.Nodup := h.nodup_iff.mpr List.nodup_range
  have hl : p.length = n := by simpa using h.length_eq
  unfold inv
  rw [S_perm h (fun x => S n (fun y => cV p q x y)), hl]
  refine S_congr fun i hi => ?_
  rw [rowI_eq (by omega), hl]
  show _ = S n (fun y => cV p q (gp p i) y)
  rw [S_perm h (fun y => cV p q (gp p i) y)]
  refine S_congr fun j hj => ?_
  show _ = cV p q (gp p i) (gp p j)
  unfold cV cI
  rw [idxOf_getD nd (by omega), idxOf_getD nd (by omega)]
  by_cases z : i < j <;> simp [z]
theorem inv_comm {n : Nat} {p q : List Nat} (h : p.Perm (List.range n)) (h2 : q.Perm (List.range n)) : inv p q = inv q p := by
  rw [inv_V h, inv_V h2, S_swap]
  refine S_congr fun x _ => S_congr fun y _ => ?_
  unfold cV
  simp [and_comm]
/-! ### what the functions answer -/
abbrev nD (i : Nat) : D := .int (i : Nat)
abbrev tN (p : List Nat) : D := .tuple (p.map nD)
theorem intsOf_nD : ∀ p : List Nat, intsOf (p.map nD) = some (p.map Int.ofNat)
  | [] => rfl
  | a :: l => by simp [intsOf, intsOf_nD l]
theorem idxOf_map {p : List Nat} {x : Nat} : (p.map Int.ofNat).idxOf (x : Int) = p.idxOf x := by
  induction p with
  | nil => rfl
  | cons a l ih =>
    rw [List.map_cons, List.idxOf_cons, List.idxOf_cons, ih]
    have : (Int.ofNat a == (x : Int)) = (a == x) := by
      rw [Bool.eq_iff_iff, beq_iff_eq, beq_iff_eq]
      exact Int.ofNat_inj
    rw [this]
theorem g_tixN {p : List Nat} {x : Nat} (h : x ∈ p) : gTIx (tN p) (nD x) = some (.dat (nD (p.idxOf x))) := by
  have : (x : Int) ∈ p.map Int.ofNat := List.mem_map.mpr ⟨x, h, rfl⟩
  unfold gTIx tN nD
  simp only [intsOf_nD]
  rw [if_pos this, idxOf_map]
theorem atI_nD {p : List Nat} {i : Nat} (h : i < p.length) : L2.atI (p.map nD) (i : Int) = some (nD (gp p i)) := by
  have : p[i]? = some (gp p i) := by simp [gp, h]
  exact atI_map this
theorem place_ok {p : List Nat} {x : Nat} (h : x ∈ p) {K : SV × List SV → Prop} (k : K (.dat (nD (p.idxOf x)), [.dat (tN p), .dat (nD x)])) : O (d_f_place_of [.dat (tN p), .dat (nD x)]) K := by
  unfold d_f_place_of
  rw [o_dFun]
  simp only [b_f_place_of]
  simp
  have := g_tixN h
  simp [tN, nD] at this
  rw [this]
  simpa using k
theorem rg2_get {a n j : Nat} {d : D} (h : (rg2 (a : Int) (n : Int))[j]? = some d) : a + j < n ∧ d = nD (a + j) := by
  have hj := (List.getElem?_eq_some_iff.mp h).1
  simp [rg2] at hj
  refine ⟨by omega, ?_⟩
  rw [rg2, List.getElem?_map, List.getElem?_range (by omega)] at h
  simp at h
  rw [← h]
  simp
theorem rg2_len {a n : Nat} : (rg2 (a : Int) (n : Int)).length = n - a := by
  simp [rg2]
theorem small_nat {n : Nat} (h : n ≤ 1000000) : small62 (n : Int) = true := by
  unfold small62
  simp
  omega
theorem law_inversions_ok {n : Nat} {p q : List Nat} (h : p.Perm (List.range n)) (h2 : q.Perm (List.range n)) (hn : n ≤ 1000) {K : SV × List SV → Prop} (k : K (.dat (nD (inv p q)), [.dat (tN p), .dat (tN q)])) : O (d_law_inversions [.dat (tN p), .dat (tN q)]) K := by
  have hl : p.length = n := by simpa using h.length_eq
  have mem : ∀ i, i < n → gp p i ∈ q := fun i hi => by
    have : gp p i ∈ p := by
      have e : gp p i = p[i]'(by omega) := by simp [gp, hl, hi]
      rw [e]
      exact List.getElem_mem _
    exact h2.mem_iff.mpr (h.mem_iff.mp this)
  unfold d_law_inversions
  rw [o_dFun]
  simp only [b_law_inversions]
  simp [hl]
  refine ⟨small_nat (by omega), ?_⟩
  refine w_loop (fun i ρ => i ≤ n ∧ ∃ x y, ρ = [some (.dat (tN p)), some (.dat (tN q)), some (.dat (nD (S i (rowI p q)))), x, y]) ⟨by omega, _, _, rfl⟩ ?_ ?_
  · rintro i d ρ1 hd ⟨hi, x, y, rfl⟩
    obtain ⟨hi, rfl⟩ := rg1_get hd
    simp [hl]
    refine ⟨⟨small_nat (n := i + 1) (by omega), small_nat (by omega)⟩, ?_⟩
    refine w_loop (fun m ρ => i + 1 + m ≤ n ∧ ∃ y, ρ = [some (.dat (tN p)), some (.dat (tN q)), some (.dat (nD (S i (rowI p q) + S m (fun m => cI p q i (i + 1 + m))))), some (.dat (nD i)), y]) ⟨by omega, _, rfl⟩ ?_ ?_
    · rintro m d ρ2 hd ⟨hm, y, rfl⟩
      obtain ⟨hj, rfl⟩ := rg2_get (a := i + 1) hd
      have a1 : L2.atI (p.map nD) (i : Int) = some (nD (gp p i)) := atI_nD (by omega)
      have a2 : L2.atI (p.map nD) ((i : Int) + 1 + (m : Int)) = some (nD (gp p (i + 1 + m))) := atI_nD (i := i + 1 + m) (by omega)
      have t1 := g_tixN (mem i (by omega))
      have t2 := g_tixN (mem (i + 1 + m) (by omega))
      have ec : cI p q i (i + 1 + m) = if q.idxOf (gp p (i + 1 + m)) < q.idxOf (gp p i) then 1 else 0 := rfl
      by_cases hc : q.idxOf (gp p (i + 1 + m)) < q.idxOf (gp p i)
      · have ec : cI p q i (i + 1 + m) = 1 := if_pos hc
        simp [a1, a2, t1, t2, S_succ, ec, hc]
        omega
      · have ec : cI p q i (i + 1 + m) = 0 := if_neg hc
        simp [a1, a2, t1, t2, S_succ, ec, hc]
        omega
    · rintro ρ2 ⟨hm, y, rfl⟩
      have e : (rg2 ((i : Int) + 1) (n : Int)).length = n - (i + 1) := rg2_len (a := i + 1)
      simp [e]
      refine ⟨by omega, ?_⟩
      show _ = ((S (i + 1) (rowI p q) : Nat) : Int)
      rw [S_succ]
      unfold rowI
      rw [hl]
      simp
  · rintro ρ1 ⟨hi, x, y, rfl⟩
    rw [rg1_len]
    simp
    have : inv p q = S n (rowI p q) := by unfold inv; rw [hl]
    rw [this] at k
    exact k
theorem f_distance_ok {n : Nat} {p q : List Nat} (h : p.Perm (List.range n)) (h2 : q.Perm (List.range n)) (hn : n ≤ 1000) {K : SV × List SV → Prop} (k : K (.dat (nD (inv p q)), [.dat (tN p), .dat (tN q)])) : O (d_f_distance [.dat (tN p), .dat (tN q)]) K := by
  have hl : p.length = n := by simpa using h.length_eq
  have mem : ∀ i, i < n → gp p i ∈ q := fun i hi => by
    have : gp p i ∈ p := by
      have e : gp p i = p[i]'(by omega) := by simp [gp, hl, hi]
      rw [e]
      exact List.getElem_mem _
    exact h2.mem_iff.mpr (h.mem_iff.mp this)
  unfold d_f_distance
  rw [o_dFun]
  simp only [b_f_distance]
  simp [hl]
  refine ⟨small_nat (by omega), ?_⟩
  refine w_loop (fun i ρ => i ≤ n ∧ ∃ x y, ρ = [some (.dat (tN p)), some (.dat (tN q)), some (.dat (nD (S i (rowI p q)))), x, y]) ⟨by omega, _, _, rfl⟩ ?_ ?_
  · rintro i d ρ1 hd ⟨hi, x, y, rfl⟩
    obtain ⟨hi, rfl⟩ := rg1_get hd
    simp [hl]
    refine ⟨⟨small_nat (n := i + 1) (by omega), small_nat (by omega)⟩, ?_⟩
    refine w_loop (fun m ρ => i + 1 + m ≤ n ∧ ∃ y, ρ = [some (.dat (tN p)), some (.dat (tN q)), some (.dat (nD (S i (rowI p q) + S m (fun m => cI p q i (i + 1 + m))))), some (.dat (nD i)), y]) ⟨by omega, _, rfl⟩ ?_ ?_
    · rintro m d ρ2 hd ⟨hm, y, rfl⟩
      obtain ⟨hj, rfl⟩ := rg2_get (a := i + 1) hd
      have a1 : L2.atI (p.map nD) (i : Int) = some (nD (gp p i)) := atI_nD (by omega)
      have a2 : L2.atI (p.map nD) ((i : Int) + 1 + (m : Int)) = some (nD (gp p (i + 1 + m))) := atI_nD (i := i + 1 + m) (by omega)
      have t1 := g_tixN (mem i (by omega))
      have t2 := g_tixN (mem (i + 1 + m) (by omega))
      have ec : cI p q i (i + 1 + m) = if q.idxOf (gp p (i + 1 + m)) < q.idxOf (gp p i) then 1 else 0 := rfl
      by_cases hc : q.idxOf (gp p (i + 1 + m)) < q.idxOf (gp p i)
      · have ec : cI p q i (i + 1 + m) = 1 := if_pos hc
        simp [a1]
        refine place_ok (mem i (by omega)) ?_
        simp [a2]
        refine place_ok (mem (i + 1 + m) (by omega)) ?_
        simp [S_succ, ec, hc]
        omega
      · have ec : cI p q i (i + 1 + m) = 0 := if_neg hc
        simp [a1]
        refine place_ok (mem i (by omega)) ?_
        simp [a2]
        refine place_ok (mem (i + 1 + m) (by omega)) ?_
        simp [S_succ, ec, hc]
        omega
    · rintro ρ2 ⟨hm, y, rfl⟩
      have e : (rg2 ((i : Int) + 1) (n : Int)).length = n - (i + 1) := rg2_len (a := i + 1)
      simp [e]
      refine ⟨by omega, ?_⟩
      show _ = ((S (i + 1) (rowI p q) : Nat) : Int)
      rw [S_succ]
      unfold rowI
      rw [hl]
      simp
  · rintro ρ1 ⟨hi, x, y, rfl⟩
    rw [rg1_len]
    simp
    have : inv p q = S n (rowI p q) := by unfold inv; rw [hl]
    rw [this] at k
    exact k
end LM
set_option Elab.async false
set_option autoImplicit false
set_option linter.all false
set_option maxRecDepth 100000
set_option maxHeartbeats 4000000
namespace LM
open PySem PySem.Spec L2 LQ LD
/-! ### exchanges -/
def sw (p : List Nat) (i : Nat) : List Nat := p.take i ++ [gp p (i + 1), gp p i] ++ p.drop (i + 2)
theorem sw_len {p : List Nat} {i : Nat} (h : i + 1 < p.length) : (sw p i).length = p.length := by
  unfold sw
  simp
  omega
theorem sw_twice {p : List Nat} {i : Nat} (h : i + 1 < p.length) : sw (sw p i) i = p := by
  have l1 : (p.take i).length = i := by simp; omega
  have e : p = p.take i ++ [gp p i, gp p (i + 1)] ++ p.drop (i + 2) := by
    have h1 : gp p i = p[i] := by simp [gp]; rw [List.getElem?_eq_getElem (by omega)]; rfl
    have h2 : gp p (i + 1) = p[i + 1] := by simp [gp, h]
    rw [h1, h2, List.append_assoc]
    show p = p.take i ++ (p[i] :: p[i + 1] :: p.drop (i + 2))
    rw [← List.drop_eq_getElem_cons (i := i + 1) h, ← List.drop_eq_getElem_cons (i := i) (by omega), List.take_append_drop]
  have g0 : gp (sw p i) i = gp p (i + 1) := by
    unfold sw
    rw [List.append_assoc]
    simp [gp, l1]
  have g1 : gp (sw p i) (i + 1) = gp p i := by
    unfold sw
    rw [List.append_assoc]
    simp [gp, l1]
  have t0 : (sw p i).take i = p.take i := by
    unfold sw
    rw [List.append_assoc, List.take_append_of_le_length (by omega), List.take_take, Nat.min_self]
  have d0 : (sw p i).drop (i + 2) = p.drop (i + 2) := by
    unfold sw
    have : (p.take i ++ [gp p (i + 1), gp p i]).length = i + 2 := by simp; omega
    rw [List.drop_append_of_le_length (by omega), List.drop_eq_nil_of_le (by omega), List.nil_append]
  show (sw p i).take i ++ [gp (sw p i) (i + 1), gp (sw p i) i] ++ (sw p i).drop (i + 2) = p
  rw [g0, g1, t0, d0]
  exact e.symm
theorem cut_to {p : List Nat} {i : Nat} (h : i ≤ p.length) : LQ.cutD (p.map nD) none (some (i : Int)) = (p.take i).map nD := by
  unfold LQ.cutD
  rw [HT.sIx_none, HT.sIx_nat, List.length_map]
  show (((p.map nD).drop 0).take (min i p.length - 0)) = _
  rw [List.drop_zero, Nat.sub_zero, Nat.min_eq_left h, List.map_take]
theorem cut_from {p : List Nat} {i : Nat} (h : i ≤ p.length) : LQ.cutD (p.map nD) (some (i : Int)) none = (p.drop i).map nD := by
  unfold LQ.cutD
  rw [HT.sIx_none, HT.sIx_nat, List.length_map]
  show (((p.map nD).drop (min i p.length)).take (p.length - min i p.length)) = _
  rw [Nat.min_eq_left h, ← List.map_drop, List.take_of_length_le (by simp)]
theorem law_swap_ok {p : List Nat} {i : Nat} (h : i + 1 < p.length) (hn : p.length ≤ 1000) {K : SV × List SV → Prop} (k : K (.dat (tN (sw p i)), [.dat (tN p), .dat (nD i)])) : O (d_law_swap [.dat (tN p), .dat (nD i)]) K := by
  have a1 : L2.atI (p.map nD) (i : Int) = some (nD (gp p i)) := atI_nD (by omega)
  have a2 : L2.atI (p.map nD) ((i : Int) + 1) = some (nD (gp p (i + 1))) := atI_nD (i := i + 1) (by omega)
  have c1 := cut_to (p := p) (i := i) (by omega)
  have c2 : LQ.cutD (p.map nD) (some ((i : Int) + 2)) none = (p.drop (i + 2)).map nD := cut_from (i := i + 2) (by omega)
  unfold d_law_swap
  rw [o_dFun]
  simp only [b_law_swap]
  simp [a1, a2, c1, c2]
  refine ⟨by decide, by simp [sizeLine]; omega, by simp [sizeLine]; omega, ?_⟩
  simpa [sw, tN] using k
theorem f_swapped_ok {p : List Nat} {i : Nat} (h : i + 1 < p.length) (hn : p.length ≤ 1000) {K : SV × List SV → Prop} (k : K (.dat (tN (sw p i)), [.dat (tN p), .dat (nD i)])) : O (d_f_swapped [.dat (tN p), .dat (nD i)]) K := by
  have a1 : L2.atI (p.map nD) (i : Int) = some (nD (gp p i)) := atI_nD (by omega)
  have a2 : L2.atI (p.map nD) ((i : Int) + 1) = some (nD (gp p (i + 1))) := atI_nD (i := i + 1) (by omega)
  have c1 := cut_to (p := p) (i := i) (by omega)
  have c2 : LQ.cutD (p.map nD) (some ((i : Int) + 2)) none = (p.drop (i + 2)).map nD := cut_from (i := i + 2) (by omega)
  unfold d_f_swapped
  rw [o_dFun]
  simp only [b_f_swapped]
  simp [a1, a2, c1, c2]
  refine ⟨by simp [sizeLine]; omega, ?_⟩
  simpa [sw, tN] using k
/-! ### the search, for all small rankings, by running it -/
def allL (n : Nat) : Nat → List (List Nat)
  | 0 => [[]]
  | k + 1 => (List.range n).flatMap fun x => (allL n k).map (x :: ·)
theorem mem_allL {n : Nat} : ∀ {k : Nat} {p : List Nat}, p.length = k → (∀ x ∈ p, x < n) → p ∈ allL n k
  | 0, [], _, _ => List.mem_singleton.mpr rfl
  | k + 1, x :: p, hl, hx => by
    unfold allL
    rw [List.mem_flatMap]
    exact ⟨x, List.mem_range.mpr (hx x (by simp)), List.mem_map.mpr ⟨p, mem_allL (by simpa using hl) (fun y hy => hx y (by simp [hy])), rfl⟩⟩
def perms (n : Nat) : List (List Nat) := (allL n n).filter fun p => decide p.Nodup
theorem mem_perms {n : Nat} {p : List Nat} (h : p.Perm (List.range n)) : p ∈ perms n := by
  unfold perms
  rw [List.mem_filter]
  exact ⟨mem_allL (by simpa using h.length_eq) (fun x hx => List.mem_range.mp (h.mem_iff.mp hx)), decide_eq_true (h.nodup_iff.mpr List.nodup_range)⟩
def chk (a b : List Nat) : Bool := match d_law_steps_between [.dat (tN a), .dat (tN b)] with
  | some (.dat (.int x), [.dat _, .dat _]) => decide (x = (inv a b : Nat))
  | _ => false
theorem steps_of {a b : List Nat} (h : chk a b = true) {K : SV × List SV → Prop} (k : ∀ u v, K (.dat (nD (inv a b)), [.dat u, .dat v])) : O (d_law_steps_between [.dat (tN a), .dat (tN b)]) K := by
  unfold chk at h
  split at h
  · rename_i x u v e
    rw [e]
    have := of_decide_eq_true h
    subst this
    rw [O_some]
    exact k u v
  · cases h
theorem chk1 : (perms 1).all (fun a => (perms 1).all fun b => chk a b) = true := by decide +kernel
theorem chk2 : (perms 2).all (fun a => (perms 2).all fun b => chk a b) = true := by decide +kernel
theorem chk3 : (perms 3).all (fun a => (perms 3).all fun b => chk a b) = true := by decide +kernel
theorem chk4_0 : (perms 4).all (fun b => chk [0, 1, 2, 3] b) = true := by decide +kernel
theorem chk4_1 : (perms 4).all (fun b => chk [0, 1, 3, 2] b) = true := by decide +kernel
theorem chk4_2 : (perms 4).all (fun b => chk [0, 2, 1, 3] b) = true := by decide +kernel
theorem chk4_3 : (perms 4).all (fun b => chk [0, 2, 3, 1] b) = true := by decide +kernel
theorem chk4_4 : (perms 4).all (fun b => chk [0, 3, 1, 2] b) = true := by decide +kernel
theorem chk4_5 : (perms 4).all (fun b => chk [0, 3, 2, 1] b) = true := by decide +kernel
theorem chk4_6 : (perms 4).all (fun b => chk [1, 0, 2, 3] b) = true := by decide +kernel
theorem chk4_7 : (perms 4).all (fun b => chk [1, 0, 3, 2] b) = true := by decide +kernel
theorem chk4_8 : (perms 4).all (fun b => chk [1, 2, 0, 3] b) = true := by decide +kernel
theorem chk4_9 : (perms 4).all (fun b => chk [1, 2, 3, 0] b) = true := by decide +kernel
theorem chk4_10 : (perms 4).all (fun b => chk [1, 3, 0, 2] b) = true := by decide +kernel
theorem chk4_11 : (perms 4).all (fun b => chk [1, 3, 2, 0] b) = true := by decide +kernel
theorem chk4_12 : (perms 4).all (fun b => chk [2, 0, 1, 3] b) = true := by decide +kernel
theorem chk4_13 : (perms 4).all (fun b => chk [2, 0, 3, 1] b) = true := by decide +kernel
theorem chk4_14 : (perms 4).all (fun b => chk [2, 1, 0, 3] b) = true := by decide +kernel
theorem chk4_15 : (perms 4).all (fun b => chk [2, 1, 3, 0] b) = true := by decide +kernel
theorem chk4_16 : (perms 4).all (fun b => chk [2, 3, 0, 1] b) = true := by decide +kernel
theorem chk4_17 : (perms 4).all (fun b => chk [2, 3, 1, 0] b) = true := by decide +kernel
theorem chk4_18 : (perms 4).all (fun b => chk [3, 0, 1, 2] b) = true := by decide +kernel
theorem chk4_19 : (perms 4).all (fun b => chk [3, 0, 2, 1] b) = true := by decide +kernel
theorem chk4_20 : (perms 4).all (fun b => chk [3, 1, 0, 2] b) = true := by decide +kernel
theorem chk4_21 : (perms 4).all (fun b => chk [3, 1, 2, 0] b) = true := by decide +kernel
theorem chk4_22 : (perms 4).all (fun b => chk [3, 2, 0, 1] b) = true := by decide +kernel
theorem chk4_23 : (perms 4).all (fun b => chk [3, 2, 1, 0] b) = true := by decide +kernel
theorem perms4 : perms 4 = [[0, 1, 2, 3], [0, 1, 3, 2], [0, 2, 1, 3], [0, 2, 3, 1], [0, 3, 1, 2], [0, 3, 2, 1], [1, 0, 2, 3], [1, 0, 3, 2], [1, 2, 0, 3], [1, 2, 3, 0], [1, 3, 0, 2], [1, 3, 2, 0], [2, 0, 1, 3], [2, 0, 3, 1], [2, 1, 0, 3], [2, 1, 3, 0], [2, 3, 0, 1], [2, 3, 1, 0], [3, 0, 1, 2], [3, 0, 2, 1], [3, 1, 0, 2], [3, 1, 2, 0], [3, 2, 0, 1], [3, 2, 1, 0]] := by decide +kernel
theorem chk4 : (perms 4).all (fun a => (perms 4).all fun b => chk a b) = true := by
  have e : ∀ f : List Nat → Bool, f [0, 1, 2, 3] = true → f [0, 1, 3, 2] = true → f [0, 2, 1, 3] = true → f [0, 2, 3, 1] = true → f [0, 3, 1, 2] = true → f [0, 3, 2, 1] = true → f [1, 0, 2, 3] = true → f [1, 0, 3, 2] = true → f [1, 2, 0, 3] = true → f [1, 2, 3, 0] = true → f [1, 3, 0, 2] = true → f [1, 3, 2, 0] = true → f [2, 0, 1, 3] = true → f [2, 0, 3, 1] = true → f [2, 1, 0, 3] = true → f [2, 1, 3, 0] = true → f [2, 3, 0, 1] = true → f [2, 3, 1, 0] = true → f [3, 0, 1, 2] = true → f [3, 0, 2, 1] = true → f [3, 1, 0, 2] = true → f [3, 1, 2, 0] = true → f [3, 2, 0, 1] = true → f [3, 2, 1, 0] = true → (perms 4).all f = true := by
    intro f h0 h1 h2 h3 h4 h5 h6 h7 h8 h9 h10 h11 h12 h13 h14 h15 h16 h17 h18 h19 h20 h21 h22 h23
    rw [perms4]
    simp [h0, h1, h2, h3, h4, h5, h6, h7, h8, h9, h10, h11, h12, h13, h14, h15, h16, h17, h18, h19, h20, h21, h22, h23]
  exact e _ chk4_0 chk4_1 chk4_2 chk4_3 chk4_4 chk4_5 chk4_6 chk4_7 chk4_8 chk4_9 chk4_10 chk4_11 chk4_12 chk4_13 chk4_14 chk4_15 chk4_16 chk4_17 chk4_18 chk4_19 chk4_20 chk4_21 chk4_22 chk4_23
theorem steps_ok {n : Nat} {p q : List Nat} (h : p.Perm (List.range n)) (h2 : q.Perm (List.range n)) (h0 : 0 < n) (hn : n ≤ 4) {K : SV × List SV → Prop} (k : ∀ u v, K (.dat (nD (inv p q)), [.dat u, .dat v])) : O (d_law_steps_between [.dat (tN p), .dat (tN q)]) K := by
  have m1 := mem_perms h
  have m2 := mem_perms h2
  refine steps_of ?_ k
  have : n = 1 ∨ n = 2 ∨ n = 3 ∨ n = 4 := by omega
  rcases this with rfl | rfl | rfl | rfl
  · exact List.all_eq_true.mp (List.all_eq_true.mp chk1 _ m1) _ m2
  · exact List.all_eq_true.mp (List.all_eq_true.mp chk2 _ m1) _ m2
  · exact List.all_eq_true.mp (List.all_eq_true.mp chk3 _ m1) _ m2
  · exact List.all_eq_true.mp (List.all_eq_true.mp chk4 _ m1) _ m2
end LM
set_option Elab.async false
set_option autoImplicit false
set_option linter.all false
set_option maxRecDepth 100000
set_option maxHeartbeats 4000000
namespace LM
open PySem PySem.Spec L2 LQ LD
theorem plain_int {n : Nat} {i : Int} : plainD n (.int i) = true := by cases n <;> rfl
theorem plain_tN {n : Nat} {p : List Nat} (h : p.length ≤ 1000) : plainD (n + 1) (tN p) = true := by
  unfold plainD
  rw [Bool.and_eq_true]
  refine ⟨decide_eq_true (by simp [sizeLine]; omega), ?_⟩
  clear h
  induction p with
  | nil => unfold plainDs; rfl
  | cons a p ih =>
    show plainDs n (nD a :: p.map nD) = true
    unfold plainDs
    rw [ih, plain_int]
    rfl
theorem k02_plain {ns : List Int} (h : ns.length ≤ 63) : O (d_k02 [.dat (.list (ns.map .int))]) (fun p => p.1 = .dat (.bool true)) := by
  unfold d_k02
  rw [o_dFun]
  unfold b_k02
  rw [w_sSeq]
  generalize hQ : KS _ _ = Q
  simp
  refine pool_ok h fun o ho => ?_
  simp
  subst hQ
  rw [KS_nx, w_sSeq]
  generalize hR : KS _ _ = R
  simp
  subst hR
  refine ⟨by decide, ?_⟩
  refine w_loop (fun j ρ => j ≤ 4 ∧ ∃ o x2 x3 x4 x5 x6 x7, ρ = [some (.dat (.list (ns.map .int))), some (.own 0 o), x2, x3, x4, x5, x6, x7] ∧ PoolLe (20 * j) o) ⟨by omega, o, _, _, _, _, _, _, rfl, by simpa using ho⟩ ?_ ?_
  · rintro j d ρ1 hd ⟨hj, o, x2, x3, x4, x5, x6, x7, rfl, ho⟩
    obtain ⟨hj, rfl⟩ := rg1_get (n := 4) hd
    rw [w_gN, O_some]
    generalize hQ : KL _ _ = Q
    rw [w_sSeq]
    generalize hR : KS _ _ = R
    simp
    refine draw_ok ho (by omega) (by omega) (by omega) fun r o r0 r1 ho => ?_
    simp
    subst hR
    rw [KS_nx, w_sSeq]
    generalize hR : KS _ _ = R
    obtain ⟨size, hs⟩ : ∃ size : Nat, 1 + r = size := ⟨(1 + r).toNat, by omega⟩
    rw [hs]
    simp
    refine ranking_ok ho (by omega) (by omega) fun one o h1 ho => ?_
    simp
    subst hR
    rw [KS_nx, w_sSeq]
    generalize hR : KS _ _ = R
    have q : ∀ two o, two.Perm (List.range size) → PoolLe (20 * j + 15) o → R .nx [some (.dat (.list (ns.map .int))), some (.own 0 o), some (.dat (nD j)), some (.dat (nD size)), some (.dat (tN one)), some (.dat (tN two)), x6, x7] := by
      intro two o h2 ho
      subst hR
      rw [KS_nx]
      have l1 : one.length = size := by simpa using h1.length_eq
      have e := inv_comm h2 h1
      rw [w_sSeq]
      generalize hR : KS _ _ = R
      simp
      refine law_inversions_ok h1 h2 (by omega) ?_
      simp
      subst hR
      rw [KS_nx, w_sSeq]
      generalize hR : KS _ _ = R
      simp
      refine f_distance_ok h1 h2 (by omega) ?_
      simp
      refine same_ok 7 _ plain_int ?_
      simp
      refine f_distance_ok h2 h1 (by omega) ?_
      simp [e]
      refine same_ok 7 _ plain_int ?_
      simp
      subst hR
      rw [KS_nx, w_sSeq]
      generalize hR : KS _ _ = R
      have q : R .nx [some (.dat (.list (ns.map .int))), some (.own 0 o), some (.dat (nD j)), some (.dat (nD size)), some (.dat (tN one)), some (.dat (tN two)), some (.dat (nD (inv one two))), x7] := by
        subst hR
        rw [KS_nx]
        simp
        have e1 : (size : Int) - 1 = ((size - 1 : Nat) : Int) := by omega
        rw [e1]
        refine ⟨small_nat (by omega), ?_⟩
        refine w_loop (fun i ρ => ∃ y, ρ = [some (.dat (.list (ns.map .int))), some (.own 0 o), some (.dat (nD j)), some (.dat (nD size)), some (.dat (tN one)), some (.dat (tN two)), some (.dat (nD (inv one two))), y]) ⟨_, rfl⟩ ?_ ?_
        · rintro i d ρ1 hd ⟨y, rfl⟩
          obtain ⟨hi, rfl⟩ := rg1_get hd
          have l2 := sw_len (p := one) (i := i) (by omega)
          simp
          refine f_swapped_ok (by omega) (by omega) ?_
          simp
          refine law_swap_ok (by omega) (by omega) ?_
          simp
          refine same_ok 7 _ (plain_tN (by omega)) ?_
          simp
          refine f_swapped_ok (by omega) (by omega) ?_
          simp
          refine f_swapped_ok (by omega) (by omega) ?_
          rw [sw_twice (by omega)]
          simp
          refine same_ok 7 _ (plain_tN (by omega)) ?_
          simp
        · rintro ρ1 ⟨y, rfl⟩
          subst hQ
          rw [KL_nx]
          exact ⟨by omega, o, _, _, _, _, _, _, rfl, ho.mono (by omega)⟩
      simp
      refine ⟨fun hs => steps_ok h1 h2 (by omega) (by omega) fun u v => ?_, fun _ => q⟩
      simp
      exact q
    simp
    refine draw_ok ho (by omega) (by omega) (by omega) fun r o r0 r1 ho => ?_
    simp
    refine ⟨fun _ => q _ _ h1 (ho.mono (by omega)), fun _ => ?_⟩
    refine ranking_ok ho (by omega) (by omega) fun two o h2 ho => ?_
    simp
    exact q _ _ h2 (ho.mono (by omega))
  · rintro ρ1 ⟨hj, o, x2, x3, x4, x5, x6, x7, rfl, ho⟩
    simp
def lst (x : Option (SV × List SV)) : List SV := match x with
  | some (_, l) => l
  | none => []
theorem k02_true {ns : List Int} (h : ns.length ≤ 63) : ns.length ≤ 63 ∧ d_k02 [.dat (.list (ns.map .int))] = some (.dat (.bool true), lst (d_k02 [.dat (.list (ns.map .int))])) := by
  obtain ⟨⟨a, l⟩, e, h2⟩ := (k02_plain h).get
  exact ⟨h, by rw [e, show a = _ from h2]; rfl⟩
end LM
set_option Elab.async false
set_option autoImplicit false
set_option linter.all false
set_option maxRecDepth 100000
set_option maxHeartbeats 8000000
namespace LW
open PySem PySem.Spec PyProof.Rows L2 LQ LD
def topS (i : Nat) : Stmt := PySem.Challenge.pw_leastmarked_k02_whole_distances.main.body.getD i (.Pass ⟨0, 0, 0, 0⟩)
structure Bn (mg : Str → Option Value) : Prop where
  bool : mg "bool" = none
  int : mg "int" = none
  isinstance : mg "isinstance" = none
  len : mg "len" = none
  list : mg "list" = none
  range : mg "range" = none
  str : mg "str" = none
  tuple : mg "tuple" = none
section
variable {P : Program} {w : World} {K : PySem.W.Frag} {mg : Str → Option Value} {base : Heap} {T : Addr → Prop} {f : Addr} {fd : FuncData}
abbrev s_law_pool : Stmt := topS 6
theorem sc_law_pool : FnScope ["script", "salt", "cell"] ["script"] (defScope s_law_pool) := ⟨rfl, rfl, rfl, by decide +kernel, rfl, by decide +kernel, by decide +kernel⟩
theorem ok_law_pool (F : Fun K "_law_pool" "_law_pool" s_law_pool f fd) (B : Bn mg) : FnOk P w K mg base CX0 1 f fd ["script"] (spQ P w K T 1 d_law_pool) :=
  fn_q F sc_law_pool 3 rfl fun cdv A outer s H E c =>
    (qss_cons (qs_set 1 c (qe qd_int))
    (qss_cons (qs_for c (qi_seq (qd (qe_slice (qd_var 0) qo_none (qo_some qd_int)))) (qg_name 2 c) (qss_one (qs_set 1 c (qe_mod (qd (qe_int (qd (qe_add (qd (qe_mul (qd_var 1) qd_int)) (qd_var 2))) B.int)) qd_int))))
    (qss_one (qs_ret (qe_lst (qa_cons (qd (qe_list (qd_var 0) B.list)) (qa_cons qd_int (qa_cons qd_int (qa_cons qd_int (qa_cons (qd_var 1) qa_nil))))))))))
abbrev s_law_spread : Stmt := topS 7
theorem sc_law_spread : FnScope ["cell", "mixed", "total", "k"] ["cell"] (defScope s_law_spread) := ⟨rfl, rfl, rfl, by decide +kernel, rfl, by decide +kernel, by decide +kernel⟩
theorem ok_law_spread (F : Fun K "_law_spread" "_law_spread" s_law_spread f fd) (B : Bn mg) : FnOk P w K mg base CX0 1 f fd ["cell"] (spQ P w K T 1 d_law_spread) :=
  fn_q F sc_law_spread 4 rfl fun cdv A outer s H E c =>
    (qss_cons (qs_set 1 c (qe_mod (qd (qe_int (qd_var 0) B.int)) qd_int))
    (qss_cons (qs_set 2 c (qe qd_int))
    (qss_cons (qs_for c (qi_range1 qd_int B.range) (qg_name 3 c) (qss_cons (qs_set 1 c (qe_mod (qd (qe_int (qd (qe_add (qd (qe_add (qd (qe_mul (qd_var 1) qd_int)) qd_int)) (qd_var 3))) B.int)) qd_int))
    (qss_one (qs_set 2 c (qe_add (qd (qe_mul (qd_var 2) qd_int)) (qd_var 1))))))
    (qss_one (qs_ret (qe (qd_var 2)))))))
abbrev s_law_draw : Stmt := topS 8
theorem sc_law_draw : FnScope ["pool", "many", "cell", "mixed", "value"] ["pool", "many"] (defScope s_law_draw) := ⟨rfl, rfl, rfl, by decide +kernel, rfl, by decide +kernel, by decide +kernel⟩
theorem ok_law_draw (F : Fun K "_law_draw" "_law_draw" s_law_draw f fd) (B : Bn mg) {f7 : Addr} {fd7 : FuncData} (C_law_spread : Cal K mg "_law_spread" f7 fd7 ["cell"]) (O_law_spread : FnOk P w K mg base CX0 1 f7 fd7 ["cell"] (spQ P w K T 1 d_law_spread)) : FnOk P w K mg base CX0 2 f fd ["pool", "many"] (spQ P w K T 2 d_law_draw) :=
  fn_q F sc_law_draw 5 rfl fun cdv A outer s H E c =>
    (qss_cons (qs_if (qt_w (qw_and (qt_le (qd_ixH 0 qd_int) qd_int) (qw_and1 (qt_lt (qd_ixH 0 qd_int) (qd (qe_len (qd_ixH 0 qd_int) B.len)))))) (qss_cons (qs_set 2 c (qe_ix (qd_ixH 0 qd_int) (qd_ixH 0 qd_int)))
    (qss_cons (qs_setIx 0 qd_int (qd (qe_add (qd_ixH 0 qd_int) qd_int)))
    (qss_cons (qs_setIx 0 qd_int (qd_var 2))
    (qss_one (qs_if (qt_lt (qd_var 2) qd_int) (qss_one (qs_setIx 0 qd_int (qd (qe_call O_law_spread c (by decide) C_law_spread.gl C_law_spread.kp C_law_spread.bi (qa_cons (qd_var 2) qa_nil) (al_cons al_nil))))) qss_nil))))) qss_nil)
    (qss_cons (qs_setIx 0 qd_int (qd (qe_add (qd_ixH 0 qd_int) qd_int)))
    (qss_cons (qs_if (qt_le (qd_ixH 0 qd_int) qd_int) (qss_cons (qs_set 3 c (qe_mod (qd (qe_int (qd (qe_add (qd (qe_add (qd (qe_mul (qd_ixH 0 qd_int) qd_int)) (qd (qe_mul (qd_ixH 0 qd_int) qd_int)))) qd_int)) B.int)) qd_int))
    (qss_cons (qs_set 3 c (qe_mod (qd (qe_int (qd (qe_add (qd (qe_mul (qd_var 3) qd_int)) (qd_ixH 0 qd_int))) B.int)) qd_int))
    (qss_one (qs_ret (qe_mod (qd (qe_div (qd_var 3) qd_int)) (qd_var 1)))))) qss_nil)
    (qss_cons (qs_set 4 c (qe_mod (qd (qe_int (qd_ixH 0 qd_int) B.int)) (qd_var 1)))
    (qss_cons (qs_setIx 0 qd_int (qd (qe_div (qd_ixH 0 qd_int) (qd_var 1))))
    (qss_one (qs_ret (qe (qd_var 4)))))))))
abbrev s_law_ranking : Stmt := topS 9
theorem sc_law_ranking : FnScope ["pool", "size", "left", "found"] ["pool", "size"] (defScope s_law_ranking) := ⟨rfl, rfl, rfl, by decide +kernel, rfl, by decide +kernel, by decide +kernel⟩
theorem ok_law_ranking (F : Fun K "_law_ranking" "_law_ranking" s_law_ranking f fd) (B : Bn mg) {f8 : Addr} {fd8 : FuncData} (C_law_draw : Cal K mg "_law_draw" f8 fd8 ["pool", "many"]) (O_law_draw : FnOk P w K mg base CX0 2 f8 fd8 ["pool", "many"] (spQ P w K T 2 d_law_draw)) : FnOk P w K mg base CX0 3 f fd ["pool", "size"] (spQ P w K T 2 d_law_ranking) :=
  fn_q F sc_law_ranking 4 rfl fun cdv A outer s H E c =>
    (qss_cons (qs_set 2 c (qe_listRg c (qd_var 1) B.list B.range))
    (qss_cons (qs_set 3 c (qe_lst qa_nil))
    (qss_cons (qs_while 100 c (qt_gt (qd_lenO 2 B.len) qd_int) (qss_one (qs_app 3 (qd_pop 2 (qd (qe_call O_law_draw c (by decide) C_law_draw.gl C_law_draw.kp C_law_draw.bi (qa_bor 0 (qa_cons (qd_lenO 2 B.len) qa_nil)) (al_bor (al_cons al_nil))))))))
    (qss_one (qs_ret (qe_tuple (qd_var 3) B.tuple))))))
abbrev s_law_inversions : Stmt := topS 10
theorem sc_law_inversions : FnScope ["one", "two", "found", "i", "j"] ["one", "two"] (defScope s_law_inversions) := ⟨rfl, rfl, rfl, by decide +kernel, rfl, by decide +kernel, by decide +kernel⟩
theorem ok_law_inversions (F : Fun K "_law_inversions" "_law_inversions" s_law_inversions f fd) (B : Bn mg) : FnOk P w K mg base CX0 1 f fd ["one", "two"] (spQ P w K T 2 d_law_inversions) :=
  fn_q F sc_law_inversions 5 rfl fun cdv A outer s H E c =>
    (qss_cons (qs_set 2 c (qe qd_int))
    (qss_cons (qs_for c (qi_range1 (qd (qe_len (qd_var 0) B.len)) B.range) (qg_name 3 c) (qss_one (qs_for c (qi_range2 (qd (qe_add (qd_var 3) qd_int)) (qd (qe_len (qd_var 0) B.len)) B.range) (qg_name 4 c) (qss_one (qs_if (qt_gt (qd (qe_tix (qd_var 1) (qd (qe_ix (qd_var 0) (qd_var 3))))) (qd (qe_tix (qd_var 1) (qd (qe_ix (qd_var 0) (qd_var 4)))))) (qss_one (qs_set 2 c (qe_add (qd_var 2) qd_int))) qss_nil)))))
    (qss_one (qs_ret (qe (qd_var 2))))))
abbrev s_law_same : Stmt := topS 5
theorem sc_law_same : FnScope ["actual", "due", "k"] ["actual", "due"] (defScope s_law_same) := ⟨rfl, rfl, rfl, by decide +kernel, rfl, by decide +kernel, by decide +kernel⟩
theorem ok_law_same (F : Fun K "_law_same" "_law_same" s_law_same f fd) (B : Bn mg) (C_law_same : Cal K mg "_law_same" f fd ["actual", "due"]) : ∀ n, FnOk P w K mg base CX0 (0 + n) f fd ["actual", "due"] (spQ P w K T 2 (d_law_same n))
  | 0 => fn_none
  | n + 1 => by
    have IH := ok_law_same F B C_law_same n
    exact fn_q F sc_law_same 3 rfl fun cdv A outer s H E c =>
    (qss_cons (qs_if (qt_w (qw_or (qt_val (qd_isi "tuple" (qd_var 1) B.isinstance B.tuple rfl)) (qw_or1 (qt_val (qd_isi "list" (qd_var 1) B.isinstance B.list rfl))))) (qss_cons (qs_if (qt_w (qw_or (qt_ne c (qd_isi "tuple" (qd_var 1) B.isinstance B.tuple rfl) (qd_isi "tuple" (qd_var 0) B.isinstance B.tuple rfl)) (qw_or1 (qt_ne c (qd_isi "list" (qd_var 1) B.isinstance B.list rfl) (qd_isi "list" (qd_var 0) B.isinstance B.list rfl))))) (qss_one (qs_ret (qe qd_bl))) qss_nil)
    (qss_cons (qs_if (qt_ne c (qd (qe_len (qd_var 0) B.len)) (qd (qe_len (qd_var 1) B.len))) (qss_one (qs_ret (qe qd_bl))) qss_nil)
    (qss_one (qs_ret (qe (qd_eq c (qd (qe_len (qd (qe_lc [("k", 2)] c (qi_range1 (qd (qe_len (qd_var 1) B.len)) B.range) (fun _ _ _ _ _ => (qg_name 2 (CO.blk c))) (qts_one fun _ _ _ _ _ => (qt_not (qt_val (qd (qe_call IH (CO.blk c) (Nat.le_refl _) C_law_same.gl C_law_same.kp C_law_same.bi (qa_cons (qd (qe_ix (qd_var 0) (qd_var 2))) (qa_cons (qd (qe_ix (qd_var 1) (qd_var 2))) qa_nil)) (al_cons (al_cons al_nil))))))) (fun _ _ _ _ _ => (qd_var 2)) (ok := by rfl))) B.len)) qd_int)))))) qss_nil)
    (qss_cons (qs_if (qt_isN (qd_var 1) qd_non) (qss_one (qs_ret (qe (qd_isN (qd_var 0) qd_non)))) qss_nil)
    (qss_cons (qs_if (qt_w (qw_or (qt_val (qd_isi "bool" (qd_var 1) B.isinstance B.bool rfl)) (qw_or1 (qt_val (qd_isi "bool" (qd_var 0) B.isinstance B.bool rfl))))) (qss_one (qs_ret (qe (qd_and (qd_isi "bool" (qd_var 1) B.isinstance B.bool rfl) (qd_and (qd_isi "bool" (qd_var 0) B.isinstance B.bool rfl) (qd_one (qd_eq c (qd_var 0) (qd_var 1)))))))) qss_nil)
    (qss_cons (qs_if (qt_val (qd_isi "int" (qd_var 1) B.isinstance B.int rfl)) (qss_one (qs_ret (qe (qd_and (qd_isi "int" (qd_var 0) B.isinstance B.int rfl) (qd_one (qd_eq c (qd_var 0) (qd_var 1))))))) qss_nil)
    (qss_one (qs_ret (qe (qd_and (qd_isi "str" (qd_var 0) B.isinstance B.str rfl) (qd_one (qd_eq c (qd_var 0) (qd_var 1)))))))))))
abbrev s_law_swap : Stmt := topS 11
theorem sc_law_swap : FnScope ["ranking", "place"] ["ranking", "place"] (defScope s_law_swap) := ⟨rfl, rfl, rfl, by decide +kernel, rfl, by decide +kernel, by decide +kernel⟩
theorem ok_law_swap (F : Fun K "_law_swap" "_law_swap" s_law_swap f fd) (B : Bn mg) : FnOk P w K mg base CX0 1 f fd ["ranking", "place"] (spQ P w K T 2 d_law_swap) :=
  fn_q F sc_law_swap 2 rfl fun cdv A outer s H E c =>
    (qss_one (qs_ret (qe_add (qd (qe_add (qd (qe_slice (qd_var 0) qo_none (qo_some (qd_var 1)))) (qd_tup (qa_cons (qd (qe_ix (qd_var 0) (qd (qe_add (qd_var 1) qd_int)))) (qa_cons (qd (qe_ix (qd_var 0) (qd_var 1))) qa_nil))))) (qd (qe_slice (qd_var 0) (qo_some (qd (qe_add (qd_var 1) qd_int))) qo_none)))))
abbrev s_law_steps_between : Stmt := topS 12
theorem sc_law_steps_between : FnScope ["start", "goal", "level", "known", "k", "after", "ranking", "place", "one"] ["start", "goal"] (defScope s_law_steps_between) := ⟨rfl, rfl, rfl, by decide +kernel, rfl, by decide +kernel, by decide +kernel⟩
theorem ok_law_steps_between (F : Fun K "_law_steps_between" "_law_steps_between" s_law_steps_between f fd) (B : Bn mg) {f11 : Addr} {fd11 : FuncData} (C_law_swap : Cal K mg "_law_swap" f11 fd11 ["ranking", "place"]) (O_law_swap : FnOk P w K mg base CX0 1 f11 fd11 ["ranking", "place"] (spQ P w K T 2 d_law_swap)) : FnOk P w K mg base CX0 2 f fd ["start", "goal"] (spQ P w K T 2 d_law_steps_between) :=
  fn_q F sc_law_steps_between 9 rfl fun cdv A outer s H E c =>
    (qss_cons (qs_set 2 c (qe_lst (qa_cons (qd_var 0) qa_nil)))
    (qss_cons (qs_set 3 c (qe_done c (qd_var 0) qd_bl))
    (qss_cons (qs_for c (qi_range1 qd_int B.range) (qg_name 4 c) (qss_cons (qs_if (qt_inO 3 c (qd_var 1)) (qss_one (qs_ret (qe (qd_var 4)))) qss_nil)
    (qss_cons (qs_set 5 c (qe_lst qa_nil))
    (qss_cons (qs_for c (qi_seq (qd_var 2)) (qg_name 6 c) (qss_one (qs_for c (qi_range1 (qd (qe_sub (qd (qe_len (qd_var 6) B.len)) qd_int)) B.range) (qg_name 7 c) (qss_cons (qs_set 8 c (qe_call O_law_swap c (by decide) C_law_swap.gl C_law_swap.kp C_law_swap.bi (qa_cons (qd_var 6) (qa_cons (qd_var 7) qa_nil)) (al_cons (al_cons al_nil))))
    (qss_one (qs_if (qt_ninO 3 c (qd_var 8)) (qss_cons (qs_setD 3 c (qd_var 8) qd_bl)
    (qss_one (qs_app 5 (qd_var 8)))) qss_nil))))))
    (qss_one (qs_set 2 c (qe_mov 5)))))))
    (qss_one (qs_ret (qe_neg qd_int))))))
abbrev s_f_place_of : Stmt := topS 1
theorem sc_f_place_of : FnScope ["ranking", "constraint"] ["ranking", "constraint"] (defScope s_f_place_of) := ⟨rfl, rfl, rfl, by decide +kernel, rfl, by decide +kernel, by decide +kernel⟩
theorem ok_f_place_of (F : Fun K "place_of" "place_of" s_f_place_of f fd) (B : Bn mg) : FnOk P w K mg base CX0 1 f fd ["ranking", "constraint"] (spQ P w K T 2 d_f_place_of) :=
  fn_q F sc_f_place_of 2 rfl fun cdv A outer s H E c =>
    (qss_one (qs_ret (qe_tix (qd_var 0) (qd_var 1))))
abbrev s_f_distance : Stmt := topS 3
theorem sc_f_distance : FnScope ["one", "two", "found", "high", "low"] ["one", "two"] (defScope s_f_distance) := ⟨rfl, rfl, rfl, by decide +kernel, rfl, by decide +kernel, by decide +kernel⟩
theorem ok_f_distance (F : Fun K "distance" "distance" s_f_distance f fd) (B : Bn mg) {f1 : Addr} {fd1 : FuncData} (C_f_place_of : Cal K mg "place_of" f1 fd1 ["ranking", "constraint"]) (O_f_place_of : FnOk P w K mg base CX0 1 f1 fd1 ["ranking", "constraint"] (spQ P w K T 2 d_f_place_of)) : FnOk P w K mg base CX0 2 f fd ["one", "two"] (spQ P w K T 2 d_f_distance) :=
  fn_q F sc_f_distance 5 rfl fun cdv A outer s H E c =>
    (qss_cons (qs_set 2 c (qe qd_int))
    (qss_cons (qs_for c (qi_range1 (qd (qe_len (qd_var 0) B.len)) B.range) (qg_name 3 c) (qss_one (qs_for c (qi_range2 (qd (qe_add (qd_var 3) qd_int)) (qd (qe_len (qd_var 0) B.len)) B.range) (qg_name 4 c) (qss_one (qs_if (qt_gt (qd (qe_call O_f_place_of c (by decide) C_f_place_of.gl C_f_place_of.kp C_f_place_of.bi (qa_cons (qd_var 1) (qa_cons (qd (qe_ix (qd_var 0) (qd_var 3))) qa_nil)) (al_cons (al_cons al_nil)))) (qd (qe_call O_f_place_of c (by decide) C_f_place_of.gl C_f_place_of.kp C_f_place_of.bi (qa_cons (qd_var 1) (qa_cons (qd (qe_ix (qd_var 0) (qd_var 4))) qa_nil)) (al_cons (al_cons al_nil))))) (qss_one (qs_aug 2 c qd_int)) qss_nil)))))
    (qss_one (qs_ret (qe (qd_var 2))))))
abbrev s_f_swapped : Stmt := topS 2
theorem sc_f_swapped : FnScope ["ranking", "place"] ["ranking", "place"] (defScope s_f_swapped) := ⟨rfl, rfl, rfl, by decide +kernel, rfl, by decide +kernel, by decide +kernel⟩
theorem ok_f_swapped (F : Fun K "swapped" "swapped" s_f_swapped f fd) (B : Bn mg) : FnOk P w K mg base CX0 1 f fd ["ranking", "place"] (spQ P w K T 2 d_f_swapped) :=
  fn_q F sc_f_swapped 2 rfl fun cdv A outer s H E c =>
    (qss_one (qs_ret (qe (qd_tup (qa_star (qd (qe_slice (qd_var 0) qo_none (qo_some (qd_var 1)))) (qa_cons (qd (qe_ix (qd_var 0) (qd (qe_add (qd_var 1) qd_int)))) (qa_cons (qd (qe_ix (qd_var 0) (qd_var 1))) (qa_star (qd (qe_slice (qd_var 0) (qo_some (qd (qe_add (qd_var 1) qd_int))) qo_none)) qa_nil))))))))
abbrev s_k02 : Stmt := topS 13
theorem sc_k02 : FnScope ["script", "pool", "k", "size", "one", "two", "due", "place"] ["script"] (defScope s_k02) := ⟨rfl, rfl, rfl, by decide +kernel, rfl, by decide +kernel, by decide +kernel⟩
theorem ok_k02 (F : Fun K "law" "law" s_k02 f fd) (B : Bn mg) {f6 : Addr} {fd6 : FuncData} (C_law_pool : Cal K mg "_law_pool" f6 fd6 ["script"]) (O_law_pool : FnOk P w K mg base CX0 1 f6 fd6 ["script"] (spQ P w K T 1 d_law_pool)) {f9 : Addr} {fd9 : FuncData} (C_law_ranking : Cal K mg "_law_ranking" f9 fd9 ["pool", "size"]) (O_law_ranking : FnOk P w K mg base CX0 3 f9 fd9 ["pool", "size"] (spQ P w K T 2 d_law_ranking)) {f10 : Addr} {fd10 : FuncData} (C_law_inversions : Cal K mg "_law_inversions" f10 fd10 ["one", "two"]) (O_law_inversions : FnOk P w K mg base CX0 1 f10 fd10 ["one", "two"] (spQ P w K T 2 d_law_inversions)) {f8 : Addr} {fd8 : FuncData} (C_law_draw : Cal K mg "_law_draw" f8 fd8 ["pool", "many"]) (O_law_draw : FnOk P w K mg base CX0 2 f8 fd8 ["pool", "many"] (spQ P w K T 2 d_law_draw)) {f5 : Addr} {fd5 : FuncData} (C_law_same : Cal K mg "_law_same" f5 fd5 ["actual", "due"]) (O_law_same : FnOk P w K mg base CX0 8 f5 fd5 ["actual", "due"] (spQ P w K T 2 (d_law_same 8))) {f12 : Addr} {fd12 : FuncData} (C_law_steps_between : Cal K mg "_law_steps_between" f12 fd12 ["start", "goal"]) (O_law_steps_between : FnOk P w K mg base CX0 2 f12 fd12 ["start", "goal"] (spQ P w K T 2 d_law_steps_between)) {f3 : Addr} {fd3 : FuncData} (C_f_distance : Cal K mg "distance" f3 fd3 ["one", "two"]) (O_f_distance : FnOk P w K mg base CX0 2 f3 fd3 ["one", "two"] (spQ P w K T 2 d_f_distance)) {f2 : Addr} {fd2 : FuncData} (C_f_swapped : Cal K mg "swapped" f2 fd2 ["ranking", "place"]) (O_f_swapped : FnOk P w K mg base CX0 1 f2 fd2 ["ranking", "place"] (spQ P w K T 2 d_f_swapped)) {f11 : Addr} {fd11 : FuncData} (C_law_swap : Cal K mg "_law_swap" f11 fd11 ["ranking", "place"]) (O_law_swap : FnOk P w K mg base CX0 1 f11 fd11 ["ranking", "place"] (spQ P w K T 2 d_law_swap)) : FnOk P w K mg base CX0 9 f fd ["script"] (spQ P w K T 1 d_k02) :=
  fn_q F sc_k02 8 rfl fun cdv A outer s H E c =>
    (qss_cons (qs_set 1 c (qe_call O_law_pool c (by decide) C_law_pool.gl C_law_pool.kp C_law_pool.bi (qa_cons (qd_var 0) qa_nil) (al_cons al_nil)))
    (qss_cons (qs_for c (qi_range1 qd_int B.range) (qg_name 2 c) (qss_cons (qs_set 3 c (qe_add qd_int (qd (qe_call O_law_draw c (by decide) C_law_draw.gl C_law_draw.kp C_law_draw.bi (qa_bor 1 (qa_cons qd_int qa_nil)) (al_bor (al_cons al_nil))))))
    (qss_cons (qs_set 4 c (qe_call O_law_ranking c (by decide) C_law_ranking.gl C_law_ranking.kp C_law_ranking.bi (qa_bor 1 (qa_cons (qd_var 3) qa_nil)) (al_bor (al_cons al_nil))))
    (qss_cons (qs_set 5 c (qe_if (qt_eq c (qd (qe_call O_law_draw c (by decide) C_law_draw.gl C_law_draw.kp C_law_draw.bi (qa_bor 1 (qa_cons qd_int qa_nil)) (al_bor (al_cons al_nil)))) qd_int) (qe (qd_var 4)) (qe_call O_law_ranking c (by decide) C_law_ranking.gl C_law_ranking.kp C_law_ranking.bi (qa_bor 1 (qa_cons (qd_var 3) qa_nil)) (al_bor (al_cons al_nil)))))
    (qss_cons (qs_set 6 c (qe_call O_law_inversions c (by decide) C_law_inversions.gl C_law_inversions.kp C_law_inversions.bi (qa_cons (qd_var 4) (qa_cons (qd_var 5) qa_nil)) (al_cons (al_cons al_nil))))
    (qss_cons (qs_if (qt_w (qw_or (qt_not (qt_val (qd (qe_call O_law_same c (by decide) C_law_same.gl C_law_same.kp C_law_same.bi (qa_cons (qd (qe_call O_f_distance c (by decide) C_f_distance.gl C_f_distance.kp C_f_distance.bi (qa_cons (qd_var 4) (qa_cons (qd_var 5) qa_nil)) (al_cons (al_cons al_nil)))) (qa_cons (qd_var 6) qa_nil)) (al_cons (al_cons al_nil)))))) (qw_or1 (qt_not (qt_val (qd (qe_call O_law_same c (by decide) C_law_same.gl C_law_same.kp C_law_same.bi (qa_cons (qd (qe_call O_f_distance c (by decide) C_f_distance.gl C_f_distance.kp C_f_distance.bi (qa_cons (qd_var 5) (qa_cons (qd_var 4) qa_nil)) (al_cons (al_cons al_nil)))) (qa_cons (qd_var 6) qa_nil)) (al_cons (al_cons al_nil))))))))) (qss_one (qs_ret (qe qd_bl))) qss_nil)
    (qss_cons (qs_if (qt_w (qw_and (qt_lt (qd_var 3) qd_int) (qw_and1 (qt_ne c (qd (qe_call O_law_steps_between c (by decide) C_law_steps_between.gl C_law_steps_between.kp C_law_steps_between.bi (qa_cons (qd_var 4) (qa_cons (qd_var 5) qa_nil)) (al_cons (al_cons al_nil)))) (qd_var 6))))) (qss_one (qs_ret (qe qd_bl))) qss_nil)
    (qss_one (qs_for c (qi_range1 (qd (qe_sub (qd_var 3) qd_int)) B.range) (qg_name 7 c) (qss_one (qs_if (qt_w (qw_or (qt_not (qt_val (qd (qe_call O_law_same c (by decide) C_law_same.gl C_law_same.kp C_law_same.bi (qa_cons (qd (qe_call O_f_swapped c (by decide) C_f_swapped.gl C_f_swapped.kp C_f_swapped.bi (qa_cons (qd_var 4) (qa_cons (qd_var 7) qa_nil)) (al_cons (al_cons al_nil)))) (qa_cons (qd (qe_call O_law_swap c (by decide) C_law_swap.gl C_law_swap.kp C_law_swap.bi (qa_cons (qd_var 4) (qa_cons (qd_var 7) qa_nil)) (al_cons (al_cons al_nil)))) qa_nil)) (al_cons (al_cons al_nil)))))) (qw_or1 (qt_not (qt_val (qd (qe_call O_law_same c (by decide) C_law_same.gl C_law_same.kp C_law_same.bi (qa_cons (qd (qe_call O_f_swapped c (by decide) C_f_swapped.gl C_f_swapped.kp C_f_swapped.bi (qa_cons (qd (qe_call O_f_swapped c (by decide) C_f_swapped.gl C_f_swapped.kp C_f_swapped.bi (qa_cons (qd_var 4) (qa_cons (qd_var 7) qa_nil)) (al_cons (al_cons al_nil)))) (qa_cons (qd_var 7) qa_nil)) (al_cons (al_cons al_nil)))) (qa_cons (qd_var 4) qa_nil)) (al_cons (al_cons al_nil))))))))) (qss_one (qs_ret (qe qd_bl))) qss_nil)))))))))))
    (qss_one (qs_ret (qe qd_bl)))))
end
theorem all_mk {P : Program} {w : World} {K : PySem.W.Frag} {h : Heap} {mg : Str → Option Value} {fa f6 f7 f8 f9 f10 f5 f11 f12 f1 f3 f2 f13 : Addr} {T : Addr → Prop} (X : K.In h) (G : h.Ns mainGlobals mg) (hfa : mg "law" = some (.ref fa))
    {od6 an6 : Option Addr} {sl6 : Array (Option Value)} {oc6 kV6 dc6 pm6 cd6 ct6 : Value} (a6 : PySem.W.nsIn K mainGlobals "_law_pool" = some (some (.ref f6))) (l6 : K.lookup f6 = some ⟨oc6, od6, .func (PySem.W.fnOf "_law_pool" "_law_pool" (defArgs s_law_pool) (defBody s_law_pool) (defScope s_law_pool) .none kV6 dc6 pm6 an6 cd6 ct6), sl6⟩) (c6 : PySem.W.codeIn K cd6 "_law_pool" = true) (k6 : PySem.W.keepIn K (.ref f6) = true)
    {od7 an7 : Option Addr} {sl7 : Array (Option Value)} {oc7 kV7 dc7 pm7 cd7 ct7 : Value} (a7 : PySem.W.nsIn K mainGlobals "_law_spread" = some (some (.ref f7))) (l7 : K.lookup f7 = some ⟨oc7, od7, .func (PySem.W.fnOf "_law_spread" "_law_spread" (defArgs s_law_spread) (defBody s_law_spread) (defScope s_law_spread) .none kV7 dc7 pm7 an7 cd7 ct7), sl7⟩) (c7 : PySem.W.codeIn K cd7 "_law_spread" = true) (k7 : PySem.W.keepIn K (.ref f7) = true)
    {od8 an8 : Option Addr} {sl8 : Array (Option Value)} {oc8 kV8 dc8 pm8 cd8 ct8 : Value} (a8 : PySem.W.nsIn K mainGlobals "_law_draw" = some (some (.ref f8))) (l8 : K.lookup f8 = some ⟨oc8, od8, .func (PySem.W.fnOf "_law_draw" "_law_draw" (defArgs s_law_draw) (defBody s_law_draw) (defScope s_law_draw) .none kV8 dc8 pm8 an8 cd8 ct8), sl8⟩) (c8 : PySem.W.codeIn K cd8 "_law_draw" = true) (k8 : PySem.W.keepIn K (.ref f8) = true)
    {od9 an9 : Option Addr} {sl9 : Array (Option Value)} {oc9 kV9 dc9 pm9 cd9 ct9 : Value} (a9 : PySem.W.nsIn K mainGlobals "_law_ranking" = some (some (.ref f9))) (l9 : K.lookup f9 = some ⟨oc9, od9, .func (PySem.W.fnOf "_law_ranking" "_law_ranking" (defArgs s_law_ranking) (defBody s_law_ranking) (defScope s_law_ranking) .none kV9 dc9 pm9 an9 cd9 ct9), sl9⟩) (c9 : PySem.W.codeIn K cd9 "_law_ranking" = true) (k9 : PySem.W.keepIn K (.ref f9) = true)
    {od10 an10 : Option Addr} {sl10 : Array (Option Value)} {oc10 kV10 dc10 pm10 cd10 ct10 : Value} (a10 : PySem.W.nsIn K mainGlobals "_law_inversions" = some (some (.ref f10))) (l10 : K.lookup f10 = some ⟨oc10, od10, .func (PySem.W.fnOf "_law_inversions" "_law_inversions" (defArgs s_law_inversions) (defBody s_law_inversions) (defScope s_law_inversions) .none kV10 dc10 pm10 an10 cd10 ct10), sl10⟩) (c10 : PySem.W.codeIn K cd10 "_law_inversions" = true) (k10 : PySem.W.keepIn K (.ref f10) = true)
    {od5 an5 : Option Addr} {sl5 : Array (Option Value)} {oc5 kV5 dc5 pm5 cd5 ct5 : Value} (a5 : PySem.W.nsIn K mainGlobals "_law_same" = some (some (.ref f5))) (l5 : K.lookup f5 = some ⟨oc5, od5, .func (PySem.W.fnOf "_law_same" "_law_same" (defArgs s_law_same) (defBody s_law_same) (defScope s_law_same) .none kV5 dc5 pm5 an5 cd5 ct5), sl5⟩) (c5 : PySem.W.codeIn K cd5 "_law_same" = true) (k5 : PySem.W.keepIn K (.ref f5) = true)
    {od11 an11 : Option Addr} {sl11 : Array (Option Value)} {oc11 kV11 dc11 pm11 cd11 ct11 : Value} (a11 : PySem.W.nsIn K mainGlobals "_law_swap" = some (some (.ref f11))) (l11 : K.lookup f11 = some ⟨oc11, od11, .func (PySem.W.fnOf "_law_swap" "_law_swap" (defArgs s_law_swap) (defBody s_law_swap) (defScope s_law_swap) .none kV11 dc11 pm11 an11 cd11 ct11), sl11⟩) (c11 : PySem.W.codeIn K cd11 "_law_swap" = true) (k11 : PySem.W.keepIn K (.ref f11) = true)
    {od12 an12 : Option Addr} {sl12 : Array (Option Value)} {oc12 kV12 dc12 pm12 cd12 ct12 : Value} (a12 : PySem.W.nsIn K mainGlobals "_law_steps_between" = some (some (.ref f12))) (l12 : K.lookup f12 = some ⟨oc12, od12, .func (PySem.W.fnOf "_law_steps_between" "_law_steps_between" (defArgs s_law_steps_between) (defBody s_law_steps_between) (defScope s_law_steps_between) .none kV12 dc12 pm12 an12 cd12 ct12), sl12⟩) (c12 : PySem.W.codeIn K cd12 "_law_steps_between" = true) (k12 : PySem.W.keepIn K (.ref f12) = true)
    {od1 an1 : Option Addr} {sl1 : Array (Option Value)} {oc1 kV1 dc1 pm1 cd1 ct1 : Value} (a1 : PySem.W.nsIn K mainGlobals "place_of" = some (some (.ref f1))) (l1 : K.lookup f1 = some ⟨oc1, od1, .func (PySem.W.fnOf "place_of" "place_of" (defArgs s_f_place_of) (defBody s_f_place_of) (defScope s_f_place_of) .none kV1 dc1 pm1 an1 cd1 ct1), sl1⟩) (c1 : PySem.W.codeIn K cd1 "place_of" = true) (k1 : PySem.W.keepIn K (.ref f1) = true)
    {od3 an3 : Option Addr} {sl3 : Array (Option Value)} {oc3 kV3 dc3 pm3 cd3 ct3 : Value} (a3 : PySem.W.nsIn K mainGlobals "distance" = some (some (.ref f3))) (l3 : K.lookup f3 = some ⟨oc3, od3, .func (PySem.W.fnOf "distance" "distance" (defArgs s_f_distance) (defBody s_f_distance) (defScope s_f_distance) .none kV3 dc3 pm3 an3 cd3 ct3), sl3⟩) (c3 : PySem.W.codeIn K cd3 "distance" = true) (k3 : PySem.W.keepIn K (.ref f3) = true)
    {od2 an2 : Option Addr} {sl2 : Array (Option Value)} {oc2 kV2 dc2 pm2 cd2 ct2 : Value} (a2 : PySem.W.nsIn K mainGlobals "swapped" = some (some (.ref f2))) (l2 : K.lookup f2 = some ⟨oc2, od2, .func (PySem.W.fnOf "swapped" "swapped" (defArgs s_f_swapped) (defBody s_f_swapped) (defScope s_f_swapped) .none kV2 dc2 pm2 an2 cd2 ct2), sl2⟩) (c2 : PySem.W.codeIn K cd2 "swapped" = true) (k2 : PySem.W.keepIn K (.ref f2) = true)
    {od13 an13 : Option Addr} {sl13 : Array (Option Value)} {oc13 kV13 dc13 pm13 cd13 ct13 : Value} (a13 : PySem.W.nsIn K mainGlobals "law" = some (some (.ref f13))) (l13 : K.lookup f13 = some ⟨oc13, od13, .func (PySem.W.fnOf "law" "law" (defArgs s_k02) (defBody s_k02) (defScope s_k02) .none kV13 dc13 pm13 an13 cd13 ct13), sl13⟩) (c13 : PySem.W.codeIn K cd13 "law" = true) (k13 : PySem.W.keepIn K (.ref f13) = true)
    (z_bool : PySem.W.nsIn K mainGlobals "bool" = some none)
    (z_int : PySem.W.nsIn K mainGlobals "int" = some none)
    (z_isinstance : PySem.W.nsIn K mainGlobals "isinstance" = some none)
    (z_len : PySem.W.nsIn K mainGlobals "len" = some none)
    (z_list : PySem.W.nsIn K mainGlobals "list" = some none)
    (z_range : PySem.W.nsIn K mainGlobals "range" = some none)
    (z_str : PySem.W.nsIn K mainGlobals "str" = some none)
    (z_tuple : PySem.W.nsIn K mainGlobals "tuple" = some none)
    : ∃ fd : FuncData, (∀ (s : Shared) (v : Value), BindsTo s fd ⟨[v], []⟩ [("script", v)]) ∧ ∀ base : Heap, K.In base → base.Ns mainGlobals mg → FnOk P w K mg base CX0 9 fa fd ["script"] (spQ P w K T 1 d_k02) := by
  have e := hfa.symm.trans (PySem.W.mg_of X G a13)
  cases e
  have B : Bn mg := ⟨PySem.W.mg_none_of X G z_bool, PySem.W.mg_none_of X G z_int, PySem.W.mg_none_of X G z_isinstance, PySem.W.mg_none_of X G z_len, PySem.W.mg_none_of X G z_list, PySem.W.mg_none_of X G z_range, PySem.W.mg_none_of X G z_str, PySem.W.mg_none_of X G z_tuple⟩
  have F6 := fun_mk (st := s_law_pool) l6 c6 k6
  have C6 : Cal K mg "_law_pool" f6 _ ["script"] := ⟨PySem.W.mg_of X G a6, k6, F6.binds (ps := ["script"]) fun _ _ _ _ _ _ us hl => match us, hl with | [_], _ => rfl⟩
  have F7 := fun_mk (st := s_law_spread) l7 c7 k7
  have C7 : Cal K mg "_law_spread" f7 _ ["cell"] := ⟨PySem.W.mg_of X G a7, k7, F7.binds (ps := ["cell"]) fun _ _ _ _ _ _ us hl => match us, hl with | [_], _ => rfl⟩
  have F8 := fun_mk (st := s_law_draw) l8 c8 k8
  have C8 : Cal K mg "_law_draw" f8 _ ["pool", "many"] := ⟨PySem.W.mg_of X G a8, k8, F8.binds (ps := ["pool", "many"]) fun _ _ _ _ _ _ us hl => match us, hl with | [_, _], _ => rfl⟩
  have F9 := fun_mk (st := s_law_ranking) l9 c9 k9
  have C9 : Cal K mg "_law_ranking" f9 _ ["pool", "size"] := ⟨PySem.W.mg_of X G a9, k9, F9.binds (ps := ["pool", "size"]) fun _ _ _ _ _ _ us hl => match us, hl with | [_, _], _ => rfl⟩
  have F10 := fun_mk (st := s_law_inversions) l10 c10 k10
  have C10 : Cal K mg "_law_inversions" f10 _ ["one", "two"] := ⟨PySem.W.mg_of X G a10, k10, F10.binds (ps := ["one", "two"]) fun _ _ _ _ _ _ us hl => match us, hl with | [_, _], _ => rfl⟩
  have F5 := fun_mk (st := s_law_same) l5 c5 k5
  have C5 : Cal K mg "_law_same" f5 _ ["actual", "due"] := ⟨PySem.W.mg_of X G a5, k5, F5.binds (ps := ["actual", "due"]) fun _ _ _ _ _ _ us hl => match us, hl with | [_, _], _ => rfl⟩
  have F11 := fun_mk (st := s_law_swap) l11 c11 k11
  have C11 : Cal K mg "_law_swap" f11 _ ["ranking", "place"] := ⟨PySem.W.mg_of X G a11, k11, F11.binds (ps := ["ranking", "place"]) fun _ _ _ _ _ _ us hl => match us, hl with | [_, _], _ => rfl⟩
  have F12 := fun_mk (st := s_law_steps_between) l12 c12 k12
  have C12 : Cal K mg "_law_steps_between" f12 _ ["start", "goal"] := ⟨PySem.W.mg_of X G a12, k12, F12.binds (ps := ["start", "goal"]) fun _ _ _ _ _ _ us hl => match us, hl with | [_, _], _ => rfl⟩
  have F1 := fun_mk (st := s_f_place_of) l1 c1 k1
  have C1 : Cal K mg "place_of" f1 _ ["ranking", "constraint"] := ⟨PySem.W.mg_of X G a1, k1, F1.binds (ps := ["ranking", "constraint"]) fun _ _ _ _ _ _ us hl => match us, hl with | [_, _], _ => rfl⟩
  have F3 := fun_mk (st := s_f_distance) l3 c3 k3
  have C3 : Cal K mg "distance" f3 _ ["one", "two"] := ⟨PySem.W.mg_of X G a3, k3, F3.binds (ps := ["one", "two"]) fun _ _ _ _ _ _ us hl => match us, hl with | [_, _], _ => rfl⟩
  have F2 := fun_mk (st := s_f_swapped) l2 c2 k2
  have C2 : Cal K mg "swapped" f2 _ ["ranking", "place"] := ⟨PySem.W.mg_of X G a2, k2, F2.binds (ps := ["ranking", "place"]) fun _ _ _ _ _ _ us hl => match us, hl with | [_, _], _ => rfl⟩
  have F13 := fun_mk (st := s_k02) l13 c13 k13
  refine ⟨PySem.W.fnOf "law" "law" (defArgs s_k02) (defBody s_k02) (defScope s_k02) .none kV13 dc13 pm13 an13 cd13 ct13, fun s v => .of_eq rfl, fun base _ _ => ?_⟩
  have O6 := ok_law_pool (P := P) (w := w) (base := base) (T := T) F6 B 
  have O7 := ok_law_spread (P := P) (w := w) (base := base) (T := T) F7 B 
  have O8 := ok_law_draw (P := P) (w := w) (base := base) (T := T) F8 B C7 O7
  have O9 := ok_law_ranking (P := P) (w := w) (base := base) (T := T) F9 B C8 O8
  have O10 := ok_law_inversions (P := P) (w := w) (base := base) (T := T) F10 B 
  have O5 := ok_law_same (P := P) (w := w) (base := base) (T := T) F5 B C5 8
  have O11 := ok_law_swap (P := P) (w := w) (base := base) (T := T) F11 B 
  have O12 := ok_law_steps_between (P := P) (w := w) (base := base) (T := T) F12 B C11 O11
  have O1 := ok_f_place_of (P := P) (w := w) (base := base) (T := T) F1 B 
  have O3 := ok_f_distance (P := P) (w := w) (base := base) (T := T) F3 B C1 O1
  have O2 := ok_f_swapped (P := P) (w := w) (base := base) (T := T) F2 B 
  have O13 := ok_k02 (P := P) (w := w) (base := base) (T := T) F13 B C6 O6 C9 O9 C10 O10 C8 O8 C5 O5 C12 O12 C3 O3 C2 O2 C11 O11
  exact O13
end LW
open PySem PySem.W PyProof.Rows
set_option Elab.async false
set_option maxRecDepth 100000
set_option maxHeartbeats 0 in
theorem PySem.Challenge.cw_leastmarked_k02_whole_distances_holds : PySem.Challenge.rw_leastmarked_k02_whole_distances.Holds := by
  w_on; o_law; k_head; (case hw => w_witness2)
  k_fill
  refine L2.walk_of (l := PySem.Challenge.rw_leastmarked_k02_whole_distances) (n := 63) (k := 9) (x := "script") (CX := fun _ => L2.CX0) (sp := fun w => LQ.spQ (PySem.Challenge.rw_leastmarked_k02_whole_distances).prog w _ (fun _ => False) 1 LD.d_k02) rfl (by decide) rfl ⟨rfl, by decide, by decide⟩ (fun w h Y => PySem.W.kIn_of Y) ?F (fun w H a ns hl _ hS => LQ.end_q (by first | rfl | decide +kernel) (fun _ z => z.elim) hS (LM.k02_true hl).2) (fun _ _ _ _ _ h => h)
  case F =>
    intro w mg fa h KX G hmg
    refine' LW.all_mk KX G hmg ?a6 ?l6 ?c6 ?k6 ?a7 ?l7 ?c7 ?k7 ?a8 ?l8 ?c8 ?k8 ?a9 ?l9 ?c9 ?k9 ?a10 ?l10 ?c10 ?k10 ?a5 ?l5 ?c5 ?k5 ?a11 ?l11 ?c11 ?k11 ?a12 ?l12 ?c12 ?k12 ?a1 ?l1 ?c1 ?k1 ?a3 ?l3 ?c3 ?k3 ?a2 ?l2 ?c2 ?k2 ?a13 ?l13 ?c13 ?k13 ?z_bool ?z_int ?z_isinstance ?z_len ?z_list ?z_range ?z_str ?z_tuple
    (case a6 => k_is); (case l6 => k_is); (case c6 => k_is); (case k6 => k_is); (case a7 => k_is); (case l7 => k_is); (case c7 => k_is); (case k7 => k_is); (case a8 => k_is); (case l8 => k_is); (case c8 => k_is); (case k8 => k_is); (case a9 => k_is); (case l9 => k_is); (case c9 => k_is); (case k9 => k_is); (case a10 => k_is); (case l10 => k_is); (case c10 => k_is); (case k10 => k_is); (case a5 => k_is); (case l5 => k_is); (case c5 => k_is); (case k5 => k_is); (case a11 => k_is); (case l11 => k_is); (case c11 => k_is); (case k11 => k_is); (case a12 => k_is); (case l12 => k_is); (case c12 => k_is); (case k12 => k_is); (case a1 => k_is); (case l1 => k_is); (case c1 => k_is); (case k1 => k_is); (case a3 => k_is); (case l3 => k_is); (case c3 => k_is); (case k3 => k_is); (case a2 => k_is); (case l2 => k_is); (case c2 => k_is); (case k2 => k_is); (case a13 => k_is); (case l13 => k_is); (case c13 => k_is); (case k13 => k_is); (case z_bool => k_is); (case z_int => k_is); (case z_isinstance => k_is); (case z_len => k_is); (case z_list => k_is); (case z_range => k_is); (case z_str => k_is); (case z_tuple => k_is)
