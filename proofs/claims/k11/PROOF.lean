import PyProof.Rows.All
import Wide.All
import OpenK.AllK
import Wide.FinOn
import HandS.ForMost
import HandS.ForExc
import HandS.IsInst
import HandS.TupAny
import HandS.TupMul
import HandS.Style
import HandS.Wide
import HandS.Lambda
import HandS.ExcCtx
import HandS.HotCalls
import HandS.CallLocal
import KE.SortData
import HandS.ExcIs
import HandS.EndTab
import PySem.Challenge.RW_griddleflips_k11_whole_rounds_of_all_sta
set_option Elab.async false
set_option linter.all false
set_option maxRecDepth 100000
set_option maxHeartbeats 2000000
/-! DL1: values read as data (no addresses), the state as data, and what a reading over data means for the layer. -/
namespace DL
open PySem PySem.Spec PyProof.Rows L2

/-- data: what a value stands for; a ref is a thing that has an identity (a def, an object that changes) -/
inductive D where
  | non | bl (b : Bool) | int (i : Int) | str (x : Str)
  | tup (ds : List D) | lst (ds : List D) | ils (ns : List Int) | ref (a : Addr)

mutual
inductive Dt (K : PySem.W.Frag) (G : Hp) : V → D → Prop
  | non : Dt K G .non .non
  | bl (b : Bool) : Dt K G (.bl b) (.bl b)
  | int (i : Int) : Dt K G (.int i) (.int i)
  | str (x : Str) : Dt K G (.str x) (.str x)
  | tup {a : Addr} {xs : List V} {ds : List D} : SqT K G a xs → DtA K G xs ds → Dt K G (.ref a) (.tup ds)
  | lst {a : Addr} {xs : List V} {ds : List D} : G a = some (.lst xs) → DtA K G xs ds → Dt K G (.ref a) (.lst ds)
  | ils {a : Addr} {ns : List Int} : SqL K G a (ns.map V.int) → Dt K G (.ref a) (.ils ns)
  | ref (a : Addr) : Dt K G (.ref a) (.ref a)
inductive DtA (K : PySem.W.Frag) (G : Hp) : List V → List D → Prop
  | nil : DtA K G [] []
  | cons {v : V} {vs : List V} {d : D} {ds : List D} : Dt K G v d → DtA K G vs ds → DtA K G (v :: vs) (d :: ds)
end

theorem seqT {K : PySem.W.Frag} {H H' : Hp} {a : Addr} {xs : List V} (e : Same H H') (h : SqT K H a xs) : SqT K H' a xs := by
  rcases h with (h | ⟨o, h⟩) | h
  · exact .inl (.inl (e _ _ h))
  · exact .inl (.inr ⟨o, e _ _ h⟩)
  · exact .inr h

mutual
theorem Dt.mono {K : PySem.W.Frag} {G G' : Hp} (s : Same G G') : ∀ (d : D) (v : V), Dt K G v d → Dt K G' v d
  | .non, _, h => by cases h; exact .non
  | .bl b, _, h => by cases h; exact .bl b
  | .int i, _, h => by cases h; exact .int i
  | .str x, _, h => by cases h; exact .str x
  | .tup ds, _, h => by
    cases h with
    | tup h1 h2 => exact .tup (seqT s h1) (DtA.mono s ds _ h2)
  | .lst ds, _, h => by
    cases h with
    | lst h1 h2 => exact .lst (s _ _ h1) (DtA.mono s ds _ h2)
  | .ils ns, _, h => by
    cases h with
    | ils h1 => exact .ils (s.seq h1)
  | .ref a, _, h => by cases h; exact .ref a
theorem DtA.mono {K : PySem.W.Frag} {G G' : Hp} (s : Same G G') : ∀ (ds : List D) (vs : List V), DtA K G vs ds → DtA K G' vs ds
  | [], _, h => by cases h; exact .nil
  | d :: ds, _, h => by
    cases h with
    | cons h1 h2 => exact .cons (Dt.mono s d _ h1) (DtA.mono s ds _ h2)
end

section
variable {K : PySem.W.Frag} {G : Hp}
theorem DtA.length : ∀ {vs : List V} {ds : List D}, DtA K G vs ds → vs.length = ds.length
  | _, [], h => by cases h; rfl
  | _, d :: ds, h => by
    cases h with
    | cons h1 h2 => rw [List.length_cons, List.length_cons, DtA.length h2]
theorem DtA.get : ∀ {ds : List D} {vs : List V} {i : Nat} {d : D}, DtA K G vs ds → ds[i]? = some d → ∃ v, vs[i]? = some v ∧ Dt K G v d
  | [], _, _, _, _, e => by simp at e
  | d :: ds, _, 0, _, h, e => by
    cases h with
    | cons h1 h2 =>
      simp only [List.getElem?_cons_zero, Option.some.injEq] at e
      subst e
      exact ⟨_, rfl, h1⟩
  | d :: ds, _, i + 1, x, h, e => by
    cases h with
    | cons h1 h2 =>
      obtain ⟨v, e1, e2⟩ := DtA.get (i := i) (d := x) h2 (by simpa using e)
      exact ⟨v, by simpa using e1, e2⟩
theorem DtA.getV : ∀ {ds : List D} {vs : List V} {i : Nat} {v : V}, DtA K G vs ds → vs[i]? = some v → ∃ d, ds[i]? = some d ∧ Dt K G v d
  | [], _, _, _, h, e => by cases h; simp at e
  | d :: ds, _, 0, _, h, e => by
    cases h with
    | cons h1 h2 =>
      simp only [List.getElem?_cons_zero, Option.some.injEq] at e
      subst e
      exact ⟨_, rfl, h1⟩
  | d :: ds, _, i + 1, x, h, e => by
    cases h with
    | cons h1 h2 =>
      obtain ⟨v, e1, e2⟩ := DtA.getV (i := i) (v := x) h2 (by simpa using e)
      exact ⟨v, by simpa using e1, e2⟩
theorem DtA.append : ∀ {ds es : List D} {vs ws : List V}, DtA K G vs ds → DtA K G ws es → DtA K G (vs ++ ws) (ds ++ es)
  | [], _, _, _, h, k => by cases h; exact k
  | d :: ds, _, _, _, h, k => by
    cases h with
    | cons h1 h2 => exact .cons h1 (DtA.append h2 k)
theorem DtA.take : ∀ (n : Nat) {ds : List D} {vs : List V}, DtA K G vs ds → DtA K G (vs.take n) (ds.take n)
  | 0, _, _, _ => by simpa using DtA.nil
  | n + 1, [], _, h => by cases h; exact .nil
  | n + 1, d :: ds, _, h => by
    cases h with
    | cons h1 h2 => exact .cons h1 (DtA.take n h2)
theorem DtA.drop : ∀ (n : Nat) {ds : List D} {vs : List V}, DtA K G vs ds → DtA K G (vs.drop n) (ds.drop n)
  | 0, _, _, h => h
  | n + 1, [], _, h => by cases h; exact .nil
  | n + 1, d :: ds, _, h => by
    cases h with
    | cons h1 h2 => exact DtA.drop n h2
theorem DtA.reverse : ∀ {ds : List D} {vs : List V}, DtA K G vs ds → DtA K G vs.reverse ds.reverse
  | [], _, h => by cases h; exact .nil
  | d :: ds, _, h => by
    cases h with
    | cons h1 h2 =>
      rw [List.reverse_cons, List.reverse_cons]
      exact (DtA.reverse h2).append (.cons h1 .nil)
theorem DtA.set {x : V} {d : D} (r : Dt K G x d) : ∀ (i : Nat) {ds : List D} {vs : List V}, DtA K G vs ds → DtA K G (vs.set i x) (ds.set i d)
  | _, [], _, h => by cases h; exact .nil
  | 0, _ :: _, _, h => by
    cases h with
    | cons h1 h2 => exact .cons r h2
  | i + 1, _ :: _, _, h => by
    cases h with
    | cons h1 h2 => exact .cons h1 (DtA.set r i h2)
theorem DtA.rep {ds : List D} {vs : List V} (h : DtA K G vs ds) : ∀ n : Nat, DtA K G (List.replicate n vs).flatten (List.replicate n ds).flatten
  | 0 => .nil
  | n + 1 => by
    rw [List.replicate_succ, List.replicate_succ, List.flatten_cons, List.flatten_cons]
    exact h.append (DtA.rep h n)
end

/-! ### the frame's names -/
inductive OR (K : PySem.W.Frag) (G : Hp) : Option V → Option D → Prop
  | none {o : Option V} : OR K G o none
  | some {v : V} {d : D} : Dt K G v d → OR K G (some v) (some d)
abbrev Nv := List (Option D)
def EnvR (K : PySem.W.Frag) (G : Hp) : L2.St → Nv → Prop
  | [], [] => True
  | o :: σ, p :: δ => OR K G o p ∧ EnvR K G σ δ
  | _, _ => False
section
variable {K : PySem.W.Frag} {G G' : Hp}
theorem OR.mono (s : Same G G') {o : Option V} {p : Option D} (h : OR K G o p) : OR K G' o p := by
  cases h with
  | none => exact .none
  | some h => exact .some (h.mono s)
theorem EnvR.mono (s : Same G G') : ∀ {σ : L2.St} {δ : Nv}, EnvR K G σ δ → EnvR K G' σ δ
  | [], [], _ => trivial
  | _ :: _, _ :: _, h => ⟨h.1.mono s, EnvR.mono s h.2⟩
theorem EnvR.get : ∀ {σ : L2.St} {δ : Nv} {i : Nat} {d : D}, EnvR K G σ δ → δ[i]? = some (some d) → ∃ v, σ[i]? = some (some v) ∧ Dt K G v d
  | [], [], _, _, _, e => by simp at e
  | o :: σ, p :: δ, 0, d, h, e => by
    simp only [List.getElem?_cons_zero, Option.some.injEq] at e
    subst e
    obtain ⟨h1, _⟩ := h
    cases h1 with
    | some h1 => exact ⟨_, rfl, h1⟩
  | o :: σ, p :: δ, i + 1, d, h, e => by
    obtain ⟨v, e1, e2⟩ := EnvR.get (i := i) (d := d) h.2 (by simpa using e)
    exact ⟨v, by simpa using e1, e2⟩
theorem EnvR.set {v : V} {d : D} (r : Dt K G v d) : ∀ {σ : L2.St} {δ : Nv} (i : Nat), EnvR K G σ δ → EnvR K G (σ.set i (some v)) (δ.set i (some d))
  | [], [], _, h => h
  | o :: σ, p :: δ, 0, h => ⟨.some r, h.2⟩
  | o :: σ, p :: δ, i + 1, h => ⟨h.1, EnvR.set r i h.2⟩
theorem EnvR.unset : ∀ {σ : L2.St} {δ : Nv} (i : Nat) {o : Option V}, EnvR K G σ δ → EnvR K G (σ.set i o) (δ.set i none)
  | [], [], _, _, h => h
  | o :: σ, p :: δ, 0, _, h => ⟨.none, h.2⟩
  | o :: σ, p :: δ, i + 1, _, h => ⟨h.1, EnvR.unset i h.2⟩
/-- fewer names known -/
theorem EnvR.weak : ∀ {σ σ' : L2.St} {δ : Nv}, EnvR K G σ δ → σ'.length = σ.length → (∀ (i : Nat) (v : V), σ[i]? = some (some v) → (∃ d : D, δ[i]? = some (some d)) → σ'[i]? = some (some v)) → EnvR K G σ' δ
  | [], [], [], h, _, _ => h
  | o :: σ, [], _, h, e, _ => by simp at e
  | [], o :: σ, _, h, e, _ => by simp at e
  | o :: σ, o' :: σ', p :: δ, h, e, w => by
    refine ⟨?_, EnvR.weak h.2 (by simpa using e) fun i v h1 ⟨d, h2⟩ => ?_⟩
    · obtain ⟨h1, _⟩ := h
      cases h1 with
      | none => exact .none
      | some h1 =>
        have q := w 0 _ rfl ⟨_, rfl⟩
        simp only [List.getElem?_cons_zero, Option.some.injEq] at q
        rw [q]
        exact .some h1
    · have q := w (i + 1) v (by simpa using h1) ⟨d, by simpa using h2⟩
      simpa using q
theorem EnvR.length : ∀ {σ : L2.St} {δ : Nv}, EnvR K G σ δ → σ.length = δ.length
  | [], [], _ => rfl
  | _ :: _, _ :: _, h => by rw [List.length_cons, List.length_cons, EnvR.length h.2]
theorem EnvR.nones : ∀ n : Nat, EnvR K G (List.replicate n none) (List.replicate n none)
  | 0 => trivial
  | n + 1 => by
    rw [List.replicate_succ, List.replicate_succ]
    exact ⟨.none, EnvR.nones n⟩
theorem EnvR.of_args (n : Nat) : ∀ {ds : List D} {vs : List V}, DtA K G vs ds → EnvR K G (vs.map some ++ List.replicate n none) (ds.map some ++ List.replicate n none)
  | [], _, h => by
    cases h
    exact EnvR.nones n
  | d :: ds, _, h => by
    cases h with
    | cons h1 h2 => exact ⟨.some h1, EnvR.of_args n h2⟩
end

/-! ### things that change -/
inductive MO where
  | lst (ds : List D)
  | ins (C : Addr) (fs : List (Str × D))
  | dK (kvs : List (Key × D))
  | dT (kvs : List (List Key × D))
abbrev Mu := Addr → Option MO
def mset (μ : Mu) (a : Addr) (m : MO) : Mu := fun b => if b = a then some m else μ b
theorem mset_same {μ : Mu} {a : Addr} {m : MO} : mset μ a m a = some m := by unfold mset; rw [if_pos rfl]
theorem mset_ne {μ : Mu} {a b : Addr} {m : MO} (h : b ≠ a) : mset μ a m b = μ b := by unfold mset; rw [if_neg h]
theorem mset_mset {μ : Mu} {a : Addr} {m n : MO} : mset (mset μ a m) a n = mset μ a n := by
  funext b; unfold mset; split <;> rfl

def KvR {κ : Type} (K : PySem.W.Frag) (G : Hp) : List (κ × V) → List (κ × D) → Prop
  | [], [] => True
  | p :: r, q :: s => p.1 = q.1 ∧ Dt K G p.2 q.2 ∧ KvR K G r s
  | _, _ => False
theorem KvR.mono {κ : Type} {K : PySem.W.Frag} {G G' : Hp} (s : Same G G') : ∀ {xs : List (κ × V)} {ys : List (κ × D)}, KvR K G xs ys → KvR K G' xs ys
  | [], [], _ => trivial
  | _ :: _, _ :: _, h => ⟨h.1, h.2.1.mono s, KvR.mono s h.2.2⟩
theorem KvR.length {κ : Type} {K : PySem.W.Frag} {G : Hp} : ∀ {xs : List (κ × V)} {ys : List (κ × D)}, KvR K G xs ys → xs.length = ys.length
  | [], [], _ => rfl
  | _ :: _, _ :: _, h => by rw [List.length_cons, List.length_cons, KvR.length h.2.2]
def MoOk (K : PySem.W.Frag) (G H : Hp) (a : Addr) : MO → Prop
  | .lst ds => ∃ xs, H a = some (.lst xs) ∧ DtA K G xs ds
  | .ins C fs => ∃ dx vs, H a = some (.ins C dx vs) ∧ H dx = some (.own a) ∧ KvR K G vs fs
  | .dK kvs => ∃ vs, H a = some (.dK vs) ∧ KvR K G vs kvs
  | .dT kvs => ∃ vs, H a = some (.dT vs) ∧ KvR K G vs kvs
/-- an object that does not change its place's kind: not a table, not an instance's own dict -/
def plainO : HO → Bool
  | .tbl _ => false
  | .own _ => false
  | .ext _ => false
  | _ => true

structure Amb where
  T : List (Addr × Str)
  G0 : Hp
  F0 : Hp

/-- G: what stands still and is read as data; F: what stands still for someone else; mu: what changes -/
structure Sta (K : PySem.W.Frag) (A : Amb) (G F : Hp) (μ : Mu) (H : Hp) : Prop where
  g0 : Same A.G0 G
  f0 : Same A.F0 F
  gh : Same G H
  fh : Same F H
  gf : ∀ b o, G b = some o → F b = none
  gm : ∀ b o, G b = some o → μ b = none
  fm : ∀ b o, F b = some o → μ b = none
  mo : ∀ a m, μ a = some m → MoOk K G H a m
  tb : LamX.Tabs A.T H
  gt : ∀ b ps, G b ≠ some (.tbl ps)
  ft : ∀ b ps, F b ≠ some (.tbl ps)
section
variable {K : PySem.W.Frag} {A : Amb} {G F : Hp} {μ : Mu} {H : Hp} {p : Addr}
theorem Sta.ng (s : Sta K A G F μ H) (n : H p = none) : G p = none := s.gh.free n
theorem Sta.nf (s : Sta K A G F μ H) (n : H p = none) : F p = none := s.fh.free n
theorem Sta.nm (s : Sta K A G F μ H) (n : H p = none) : μ p = none := by
  cases e : μ p with
  | none => rfl
  | some m =>
    have q := s.mo p m e
    cases m with
    | lst ds => obtain ⟨_, q, _⟩ := q; rw [n] at q; cases q
    | ins C fs => obtain ⟨_, _, q, _⟩ := q; rw [n] at q; cases q
    | dK fs => obtain ⟨_, q, _⟩ := q; rw [n] at q; cases q
    | dT fs => obtain ⟨_, q, _⟩ := q; rw [n] at q; cases q
theorem same_upd {H : Hp} {p : Addr} {o : HO} (h : H p = none) : Same H (upd H p o) := fun b x e => by
  rw [upd_ne (ne_of_none e h)]
  exact e
theorem sameU {G H : Hp} {p : Addr} {o : HO} (s : Same G H) : Same (upd G p o) (upd H p o) := fun b x e => by
  by_cases h : b = p
  · rw [h, upd_same] at e ⊢
    exact e
  · rw [upd_ne h] at e ⊢
    exact s _ _ e
theorem MoOk.mono {G' H' : Hp} {a : Addr} {m : MO} (s : Same G G') (t : Same H H') (h : MoOk K G H a m) : MoOk K G' H' a m := by
  cases m with
  | lst ds => obtain ⟨xs, e, r⟩ := h; exact ⟨xs, t _ _ e, r.mono s⟩
  | ins C fs => obtain ⟨dx, vs, e, e2, r⟩ := h; exact ⟨dx, vs, t _ _ e, t _ _ e2, r.mono s⟩
  | dK fs => obtain ⟨vs, e, r⟩ := h; exact ⟨vs, t _ _ e, r.mono s⟩
  | dT fs => obtain ⟨vs, e, r⟩ := h; exact ⟨vs, t _ _ e, r.mono s⟩
/-- a new object that will stand still -/
theorem Sta.fresh (s : Sta K A G F μ H) (n : H p = none) {o : HO} (ho : plainO o = true) : Sta K A (upd G p o) F μ (upd H p o) where
  g0 := s.g0.trans (same_upd (s.ng n))
  f0 := s.f0
  gh := sameU s.gh
  fh := s.fh.trans (same_upd n)
  gf := fun b x e => by
    by_cases h : b = p
    · rw [h]; exact s.nf n
    · rw [upd_ne h] at e; exact s.gf b x e
  gm := fun b x e => by
    by_cases h : b = p
    · rw [h]; exact s.nm n
    · rw [upd_ne h] at e; exact s.gm b x e
  fm := s.fm
  mo := fun a m e => (s.mo a m e).mono (same_upd (s.ng n)) (same_upd n)
  tb := s.tb.ext (same_upd n)
  gt := fun b ps e => by
    by_cases h : b = p
    · rw [h, upd_same] at e
      cases e
      cases ho
    · rw [upd_ne h] at e; exact s.gt b ps e
  ft := s.ft
/-- a new object that will change -/
theorem Sta.freshM (s : Sta K A G F μ H) (n : H p = none) {o : HO} {m : MO} (hm : MoOk K G (upd H p o) p m) : Sta K A G F (mset μ p m) (upd H p o) where
  g0 := s.g0
  f0 := s.f0
  gh := s.gh.trans (same_upd n)
  fh := s.fh.trans (same_upd n)
  gf := s.gf
  gm := fun b x e => by
    have h : b ≠ p := ne_of_none e (s.ng n)
    rw [mset_ne h]; exact s.gm b x e
  fm := fun b x e => by
    have h : b ≠ p := ne_of_none e (s.nf n)
    rw [mset_ne h]; exact s.fm b x e
  mo := fun a m' e => by
    by_cases h : a = p
    · rw [h, mset_same] at e
      cases e
      rw [h]; exact hm
    · rw [mset_ne h] at e
      exact (s.mo a m' e).mono (Same.refl G) (same_upd n)
  tb := s.tb.ext (same_upd n)
  gt := s.gt
  ft := s.ft
/-- a changing object is changed -/
theorem Sta.put (s : Sta K A G F μ H) {m0 m : MO} (h0 : μ p = some m0) {o0 o : HO} (ho0 : H p = some o0) (hp : plainO o0 = true) (hm : MoOk K G (upd H p o) p m) : Sta K A G F (mset μ p m) (upd H p o) := by
  have hg : ∀ b x, G b = some x → b ≠ p := fun b x e z => by rw [z] at e; rw [s.gm p x e] at h0; cases h0
  have hf : ∀ b x, F b = some x → b ≠ p := fun b x e z => by rw [z] at e; rw [s.fm p x e] at h0; cases h0
  have hk : ∀ b x, H b = some x → plainO x = false → upd H p o b = some x := fun b x e q => by
    have h : b ≠ p := fun z => by rw [z, ho0] at e; cases e; rw [hp] at q; cases q
    rw [upd_ne h]; exact e
  refine ⟨s.g0, s.f0, fun b x e => ?_, fun b x e => ?_, s.gf, fun b x e => ?_, fun b x e => ?_, fun a m' e => ?_, fun q hq => ?_, s.gt, s.ft⟩
  · rw [upd_ne (hg b x e)]; exact s.gh _ _ e
  · rw [upd_ne (hf b x e)]; exact s.fh _ _ e
  · rw [mset_ne (hg b x e)]; exact s.gm _ _ e
  · rw [mset_ne (hf b x e)]; exact s.fm _ _ e
  · by_cases h : a = p
    · rw [h, mset_same] at e
      cases e
      rw [h]; exact hm
    · rw [mset_ne h] at e
      have q := s.mo a m' e
      cases m' with
      | lst ds => obtain ⟨xs, e1, r⟩ := q; exact ⟨xs, by rw [upd_ne h]; exact e1, r⟩
      | ins C fs => obtain ⟨dx, vs, e1, e2, r⟩ := q; exact ⟨dx, vs, by rw [upd_ne h]; exact e1, hk _ _ e2 rfl, r⟩
      | dK fs => obtain ⟨vs, e1, r⟩ := q; exact ⟨vs, by rw [upd_ne h]; exact e1, r⟩
      | dT fs => obtain ⟨vs, e1, r⟩ := q; exact ⟨vs, by rw [upd_ne h]; exact e1, r⟩
  · obtain ⟨ps, e1, e2, e3⟩ := s.tb q hq
    refine ⟨ps, hk _ _ e1 rfl, e2, fun pos cv hc => ?_⟩
    obtain ⟨c, e4, e5⟩ := e3 pos cv hc
    exact ⟨c, e4, hk _ _ e5 rfl⟩
/-- something that stands still is set aside for a while -/
theorem Sta.frame (s : Sta K A G F μ H) (n : H p = none) {o : HO} (ho : plainO o = true) : Sta K A G (upd F p o) μ (upd H p o) where
  g0 := s.g0
  f0 := s.f0.trans (same_upd (s.nf n))
  gh := s.gh.trans (same_upd n)
  fh := sameU s.fh
  gf := fun b x e => by
    rw [upd_ne (ne_of_none e (s.ng n))]
    exact s.gf b x e
  gm := s.gm
  fm := fun b x e => by
    by_cases h : b = p
    · rw [h]; exact s.nm n
    · rw [upd_ne h] at e; exact s.fm b x e
  mo := fun a m e => (s.mo a m e).mono (Same.refl G) (same_upd n)
  tb := s.tb.ext (same_upd n)
  gt := s.gt
  ft := fun b ps e => by
    by_cases h : b = p
    · rw [h, upd_same] at e
      cases e
      cases ho
    · rw [upd_ne h] at e; exact s.ft b ps e
/-- .. and written -/
theorem Sta.reframe (s : Sta K A G F μ H) {o0 o : HO} (hF0 : A.F0 p = none) (h0 : F p = some o0) (hp : plainO o0 = true) (ho : plainO o = true) : Sta K A G (upd F p o) μ (upd H p o) := by
  have hH : H p = some o0 := s.fh _ _ h0
  have hg : ∀ b x, G b = some x → b ≠ p := fun b x e z => by rw [z] at e; rw [s.gf p x e] at h0; cases h0
  have hm : ∀ b x, μ b = some x → b ≠ p := fun b x e z => by rw [z, s.fm p _ h0] at e; cases e
  have hk : ∀ b x, H b = some x → plainO x = false → upd H p o b = some x := fun b x e q => by
    have h : b ≠ p := fun z => by rw [z, hH] at e; cases e; rw [hp] at q; cases q
    rw [upd_ne h]; exact e
  refine ⟨s.g0, fun b x e => by rw [upd_ne (ne_of_none e hF0)]; exact s.f0 _ _ e, fun b x e => ?_, sameU s.fh, fun b x e => ?_, s.gm, fun b x e => ?_, fun a m' e => ?_, fun q hq => ?_, s.gt, fun b ps e => ?_⟩
  · rw [upd_ne (hg b x e)]; exact s.gh _ _ e
  · rw [upd_ne (hg b x e)]; exact s.gf _ _ e
  · by_cases h : b = p
    · rw [h]; exact s.fm _ _ h0
    · rw [upd_ne h] at e; exact s.fm _ _ e
  · have h := hm a m' e
    have q := s.mo a m' e
    cases m' with
    | lst ds => obtain ⟨xs, e1, r⟩ := q; exact ⟨xs, by rw [upd_ne h]; exact e1, r⟩
    | ins C fs => obtain ⟨dx, vs, e1, e2, r⟩ := q; exact ⟨dx, vs, by rw [upd_ne h]; exact e1, hk _ _ e2 rfl, r⟩
    | dK fs => obtain ⟨vs, e1, r⟩ := q; exact ⟨vs, by rw [upd_ne h]; exact e1, r⟩
    | dT fs => obtain ⟨vs, e1, r⟩ := q; exact ⟨vs, by rw [upd_ne h]; exact e1, r⟩
  · obtain ⟨ps, e1, e2, e3⟩ := s.tb q hq
    refine ⟨ps, hk _ _ e1 rfl, e2, fun pos cv hc => ?_⟩
    obtain ⟨c, e4, e5⟩ := e3 pos cv hc
    exact ⟨c, e4, hk _ _ e5 rfl⟩
  · by_cases h : b = p
    · rw [h, upd_same] at e
      cases e
      cases ho
    · rw [upd_ne h] at e; exact s.ft b ps e
/-- what was set aside is data from now on -/
theorem Sta.unframe {o : HO} (s : Sta K A G (upd F p o) μ H) (hF0 : A.F0 p = none) (h0 : F p = none) : Sta K A (upd G p o) F μ H := by
  have hHp : H p = some o := s.fh _ _ upd_same
  have hGp : G p = none := by
    cases e : G p with
    | none => rfl
    | some x => have q := s.gf p x e; rw [upd_same] at q; cases q
  refine ⟨s.g0.trans (same_upd hGp), fun b x e => by have q := s.f0 _ _ e; rw [upd_ne (ne_of_none e hF0)] at q; exact q, fun b x e => ?_, fun b x e => ?_, fun b x e => ?_, fun b x e => ?_, fun b x e => ?_, fun a m e => (s.mo a m e).mono (same_upd hGp) (Same.refl H), s.tb, fun b ps e => ?_, fun b ps e => ?_⟩
  · by_cases h : b = p
    · rw [h, upd_same] at e; rw [h, hHp]; exact e
    · rw [upd_ne h] at e; exact s.gh _ _ e
  · exact s.fh _ _ (by rw [upd_ne (ne_of_none e h0)]; exact e)
  · by_cases h : b = p
    · rw [h]; exact h0
    · rw [upd_ne h] at e
      have q := s.gf b x e
      rw [upd_ne h] at q; exact q
  · by_cases h : b = p
    · rw [h]; exact s.fm p o upd_same
    · rw [upd_ne h] at e; exact s.gm b x e
  · exact s.fm b x (by rw [upd_ne (ne_of_none e h0)]; exact e)
  · by_cases h : b = p
    · rw [h, upd_same] at e
      exact s.ft p ps (by rw [upd_same]; exact e)
    · rw [upd_ne h] at e; exact s.gt b ps e
  · exact s.ft b ps (by rw [upd_ne (ne_of_none e h0)]; exact e)
end
end DL

set_option Elab.async false
set_option linter.all false
set_option maxRecDepth 100000
set_option maxHeartbeats 2000000
/-! DL2: readings over data, lifted to the layer's readings: expressions, operators, tests, arguments. -/
namespace DL
open PySem PySem.Spec PyProof.Rows L2

abbrev DK := D → Mu → Prop
abbrev TDE := Nv → Mu → DK → Prop
abbrev TDT := Nv → Mu → (Bool → Mu → Prop) → Prop
abbrev TDA := Nv → Mu → (List D → Mu → Prop) → Prop

section
variable (K : PySem.W.Frag) (A : Amb) (F G : Hp)
def PoV (P : DK) (Q : VK) : Prop := ∀ d μ' v G' H', P d μ' → Same G G' → Sta K A G' F μ' H' → Dt K G' v d → Q v H'
def PoT (P : Bool → Mu → Prop) (Q : Bool → Hp → Prop) : Prop := ∀ b μ' G' H', P b μ' → Same G G' → Sta K A G' F μ' H' → Q b H'
def PoL (P : List D → Mu → Prop) (Q : List V → Hp → Prop) : Prop := ∀ ds μ' vs G' H', P ds μ' → Same G G' → Sta K A G' F μ' H' → DtA K G' vs ds → Q vs H'
def PoN (P : Nv → Mu → Prop) (Q : L2.St → Hp → Prop) : Prop := ∀ δ μ' σ G' H', P δ μ' → Same G G' → Sta K A G' F μ' H' → EnvR K G' σ δ → Q σ H'
end
section
variable {K : PySem.W.Frag} {A : Amb} {F G G' : Hp}
theorem PoV.mono {P : DK} {Q : VK} (h : PoV K A F G P Q) (s : Same G G') : PoV K A F G' P Q := fun d μ v G1 H1 p s1 t r => h d μ v G1 H1 p (s.trans s1) t r
theorem PoT.mono {P : Bool → Mu → Prop} {Q : Bool → Hp → Prop} (h : PoT K A F G P Q) (s : Same G G') : PoT K A F G' P Q := fun d μ G1 H1 p s1 t => h d μ G1 H1 p (s.trans s1) t
theorem PoL.mono {P : List D → Mu → Prop} {Q : List V → Hp → Prop} (h : PoL K A F G P Q) (s : Same G G') : PoL K A F G' P Q := fun d μ v G1 H1 p s1 t r => h d μ v G1 H1 p (s.trans s1) t r
theorem PoN.mono {P : Nv → Mu → Prop} {Q : L2.St → Hp → Prop} (h : PoN K A F G P Q) (s : Same G G') : PoN K A F G' P Q := fun d μ v G1 H1 p s1 t r => h d μ v G1 H1 p (s.trans s1) t r
end

def lE (K : PySem.W.Frag) (A : Amb) (t : TDE) : TE := fun σ H Q => ∃ G F μ δ P, Sta K A G F μ H ∧ EnvR K G σ δ ∧ t δ μ P ∧ PoV K A F G P Q
def lT (K : PySem.W.Frag) (A : Amb) (t : TDT) : TT := fun σ H Q => ∃ G F μ δ P, Sta K A G F μ H ∧ EnvR K G σ δ ∧ t δ μ P ∧ PoT K A F G P Q
def lA (K : PySem.W.Frag) (A : Amb) (t : TDA) : TA := fun σ H Q => ∃ G F μ δ P, Sta K A G F μ H ∧ EnvR K G σ δ ∧ t δ μ P ∧ PoL K A F G P Q

theorem PE.imp {X : Cx} {e : Expr} {t t' : TE} (h : PE X e t) (i : ∀ σ H Q, t' σ H Q → t σ H Q) : PE X e t' := ⟨fun pins s σ H Q I x => h.run pins s σ H Q I (i σ H Q x)⟩
theorem PT.imp {X : Cx} {e : Expr} {t t' : TT} (h : PT X e t) (i : ∀ σ H Q, t' σ H Q → t σ H Q) : PT X e t' := ⟨fun pins s σ H Q I x => h.run pins s σ H Q I (i σ H Q x)⟩
theorem PW.imp {X : Cx} {e : Expr} {t t' : TT} (h : PW X e t) (i : ∀ σ H Q, t' σ H Q → t σ H Q) : PW X e t' := ⟨fun w pins s σ H Q I x => h.run w pins s σ H Q I (i σ H Q x)⟩
theorem PA.imp {X : Cx} {e : List Expr} {t t' : TA} (h : PA X e t) (i : ∀ σ H Q, t' σ H Q → t σ H Q) : PA X e t' := ⟨fun p pins s σ H Q I x => h.run p pins s σ H Q I (i σ H Q x)⟩

/-! ### names, constants -/
def dVar (i : Nat) : TDE := fun δ μ P => match δ[i]? with
  | some (some d) => P d μ
  | _ => False
def dC (d : D) : TDE := fun _ μ P => P d μ
section
variable {X : Cx} {A : Amb} {pos : Pos}
theorem lE_var {K : PySem.W.Frag} {i : Nat} {σ : L2.St} {H : Hp} {Q : VK} (h : lE K A (dVar i) σ H Q) : tVar i σ H Q := by
  obtain ⟨G, F, μ, δ, P, s, r, t, q⟩ := h
  unfold dVar at t
  split at t
  · rename_i d e
    obtain ⟨v, e1, e2⟩ := r.get e
    exact ⟨v, e1, q _ _ _ _ _ t (Same.refl _) s e2⟩
  · exact t.elim
theorem de_var (i : Nat) {x : Str} (hN : X.N[i]? = some x := by rfl) (hv : Vis X.env.scope x := by first | exact Or.inl rfl | exact Or.inr (Or.inl rfl) | exact Or.inr (Or.inr rfl)) (hd : (x == ("__debug__" : Str)) = false := by decide)
    (hcd : (x == ("__classdict__" : Str)) = false := by decide) : PE X (.Name x pos) (lE X.K A (dVar i)) := PE.imp (pe_var hN hv hd hcd) fun σ H Q h => lE_var h
theorem lE_c {K : PySem.W.Frag} {v : V} {d : D} (hd : ∀ G, Dt K G v d) {σ : L2.St} {H : Hp} {Q : VK} (h : lE K A (dC d) σ H Q) : tC v σ H Q := by
  obtain ⟨G, F, μ, δ, P, s, r, t, q⟩ := h
  exact q _ _ _ _ _ t (Same.refl _) s (hd G)
theorem de_int {i : Int} {j} : PE X (.Constant (.int i) j pos) (lE X.K A (dC (.int i))) := PE.imp pe_int fun σ H Q h => lE_c (fun _ => .int i) h
theorem de_bl {b : Bool} {j} : PE X (.Constant (.bool b) j pos) (lE X.K A (dC (.bl b))) := PE.imp pe_bl fun σ H Q h => lE_c (fun _ => .bl b) h
theorem de_non {j} : PE X (.Constant .none j pos) (lE X.K A (dC .non)) := PE.imp pe_non fun σ H Q h => lE_c (fun _ => .non) h
theorem de_str {x : Str} {j} : PE X (.Constant (.str x) j pos) (lE X.K A (dC (.str x))) := PE.imp pe_str fun σ H Q h => lE_c (fun _ => .str x) h
/-- a name of the module: hd says what it stands for -/
theorem de_glob {x : Str} {v : V} {u : Value} {d : D} (hm : X.mg x = some u) (r : RelV v u) (hd : ∀ G, Dt X.K G v d) (hg : Gl X x := by rfl) (hdb : (x == ("__debug__" : Str)) = false := by decide) : PE X (.Name x pos) (lE X.K A (dC d)) :=
  PE.imp (pe_glob hg hm r hdb) fun σ H Q h => lE_c hd h

/-! ### operators by values -/
abbrev DOp := D → D → Mu → DK → Prop
def lO (K : PySem.W.Frag) (A : Amb) (r : DOp) : R2 := fun x y H Q => ∃ G F μ d e P, Sta K A G F μ H ∧ Dt K G x d ∧ Dt K G y e ∧ r d e μ P ∧ PoV K A F G P Q
theorem oimp {X : Cx} {f : Value → Value → Sem Value} {r r' : R2} (h : OpR X f r) (i : ∀ x y H Q, r' x y H Q → r x y H Q) : OpR X f r' := fun pins s σ H x y v u Q I rx ry z => h pins s σ H x y v u Q I rx ry (i _ _ _ _ z)
def dBin (r : DOp) (ta tb : TDE) : TDE := fun δ μ P => ta δ μ fun d μ1 => tb δ μ1 fun e μ2 => r d e μ2 P
variable {a b c : Expr} {ta tb tc : TDE} {r r' : DOp}
theorem lE_bin {K : PySem.W.Frag} {σ : L2.St} {H : Hp} {Q : VK} (h : lE K A (dBin r ta tb) σ H Q) : tOp (lO K A r) (lE K A ta) (lE K A tb) σ H Q := by
  obtain ⟨G, F, μ, δ, P, s, e, t, q⟩ := h
  refine ⟨G, F, μ, δ, _, s, e, t, fun d μ1 v G1 H1 t1 s1 st1 dt1 => ?_⟩
  refine ⟨G1, F, μ1, δ, _, st1, e.mono s1, t1, fun d2 μ2 v2 G2 H2 t2 s2 st2 dt2 => ?_⟩
  exact ⟨G2, F, μ2, d, d2, P, st2, dt1.mono s2, dt2, t2, (q.mono s1).mono s2⟩
theorem de_op {op : Operator} (ho : OpR X (binaryOp op) (lO X.K A r)) (ha : PE X a (lE X.K A ta)) (hb : PE X b (lE X.K A tb)) : PE X (.BinOp a op b pos) (lE X.K A (dBin r ta tb)) :=
  PE.imp (pe_op ho ha hb) fun σ H Q h => lE_bin h
theorem de_cmp {op : CmpOp} (ho : OpR X (compareOp op) (lO X.K A r)) (ha : PE X a (lE X.K A ta)) (hb : PE X b (lE X.K A tb)) (hm : behindInMarks op b = false) : PE X (.Compare a [op] [b] pos) (lE X.K A (dBin r ta tb)) :=
  PE.imp (pe_cmpR ho ha hb hm) fun σ H Q h => lE_bin h
/-- a truth, as a test -/
def dB (t : TDE) : TDT := fun δ μ P => t δ μ fun d μ1 => match d with
  | .bl k => P k μ1
  | _ => False
theorem dt_cmp {op : CmpOp} (ho : OpR X (compareOp op) (lO X.K A r)) (ha : PE X a (lE X.K A ta)) (hb : PE X b (lE X.K A tb)) (hm : behindInMarks op b = false) : PT X (.Compare a [op] [b] pos) (lT X.K A (dB (dBin r ta tb))) := by
  refine PT.imp (pt_cmpR ho ha hb hm) fun σ H Q h => ?_
  obtain ⟨G, F, μ, δ, P, s, e, t, q⟩ := h
  refine lE_bin ⟨G, F, μ, δ, _, s, e, t, fun d μ1 v G1 H1 t1 s1 st1 dt1 => ?_⟩
  split at t1
  · cases dt1
    exact ⟨_, rfl, q _ _ _ _ t1 s1 st1⟩
  · exact t1.elim
theorem dt_val (ha : PE X a (lE X.K A ta)) (he : ∀ whole, isTrue a X.env whole = (do let v ← whole; standAt a.pos; holding [v] (truthy v)) := by intro _; rfl) : PT X a (lT X.K A (dB ta)) := by
  refine PT.imp (pt_val ha he) fun σ H Q h => ?_
  obtain ⟨G, F, μ, δ, P, s, e, t, q⟩ := h
  refine ⟨G, F, μ, δ, _, s, e, t, fun d μ1 v G1 H1 t1 s1 st1 dt1 => ?_⟩
  split at t1
  · cases dt1
    exact ⟨_, rfl, q _ _ _ _ t1 s1 st1⟩
  · exact t1.elim
def dChain (r r' : DOp) (ta tb tc : TDE) : TDE := fun δ μ P => ta δ μ fun d μ1 => tb δ μ1 fun e μ2 => r d e μ2 fun z μ3 => match z with
  | .bl k => if k = true then tc δ μ3 fun f μ4 => r' e f μ4 P else P (.bl false) μ3
  | _ => False
theorem lE_chain {K : PySem.W.Frag} {σ : L2.St} {H : Hp} {Q : VK} (h : lE K A (dChain r r' ta tb tc) σ H Q) : tChain (lO K A r) (lO K A r') (lE K A ta) (lE K A tb) (lE K A tc) σ H Q := by
  obtain ⟨G, F, μ, δ, P, s, e, t, q⟩ := h
  refine ⟨G, F, μ, δ, _, s, e, t, fun d μ1 v G1 H1 t1 s1 st1 dt1 => ?_⟩
  refine ⟨G1, F, μ1, δ, _, st1, e.mono s1, t1, fun d2 μ2 v2 G2 H2 t2 s2 st2 dt2 => ?_⟩
  refine ⟨G2, F, μ2, d, d2, _, st2, dt1.mono s2, dt2, t2, fun z μ3 v3 G3 H3 t3 s3 st3 dt3 => ?_⟩
  split at t3
  · rename_i k
    cases dt3
    refine ⟨k, rfl, ?_⟩
    cases k with
    | false =>
      rw [if_neg Bool.false_ne_true] at t3 ⊢
      exact q _ _ _ _ _ t3 (s1.trans (s2.trans s3)) st3 (.bl false)
    | true =>
      rw [if_pos rfl] at t3 ⊢
      refine ⟨G3, F, μ3, δ, _, st3, ((e.mono s1).mono s2).mono s3, t3, fun f μ4 v4 G4 H4 t4 s4 st4 dt4 => ?_⟩
      exact ⟨G4, F, μ4, d2, f, P, st4, (dt2.mono s3).mono s4, dt4, t4, (((q.mono s1).mono s2).mono s3).mono s4⟩
  · exact t3.elim
theorem de_chain {op op' : CmpOp} (ho : OpR X (compareOp op) (lO X.K A r)) (ho' : OpR X (compareOp op') (lO X.K A r')) (ha : PE X a (lE X.K A ta)) (hb : PE X b (lE X.K A tb)) (hc : PE X c (lE X.K A tc))
    (hm : lastMarks [op, op'] [b, c] = false := by with_unfolding_all rfl) : PE X (.Compare a [op, op'] [b, c] pos) (lE X.K A (dChain r r' ta tb tc)) :=
  PE.imp (pe_chain ho ho' ha hb hc hm) fun σ H Q h => lE_chain h
theorem dt_chain {op op' : CmpOp} (ho : OpR X (compareOp op) (lO X.K A r)) (ho' : OpR X (compareOp op') (lO X.K A r')) (ha : PE X a (lE X.K A ta)) (hb : PE X b (lE X.K A tb)) (hc : PE X c (lE X.K A tc))
    (hm : lastMarks [op, op'] [b, c] = false := by with_unfolding_all rfl) : PT X (.Compare a [op, op'] [b, c] pos) (lT X.K A (dB (dChain r r' ta tb tc))) := by
  refine PT.imp (pt_chain ho ho' ha hb hc hm) fun σ H Q h => ?_
  obtain ⟨G, F, μ, δ, P, s, e, t, q⟩ := h
  refine lE_chain ⟨G, F, μ, δ, _, s, e, t, fun d μ1 v G1 H1 t1 s1 st1 dt1 => ?_⟩
  split at t1
  · cases dt1
    exact ⟨_, rfl, q _ _ _ _ t1 s1 st1⟩
  · exact t1.elim

/-! ### and, or, not, if -/
def dAndT (t u : TDT) : TDT := fun δ μ P => t δ μ fun c μ1 => if c = true then u δ μ1 P else P false μ1
def dOrT (t u : TDT) : TDT := fun δ μ P => t δ μ fun c μ1 => if c = true then P true μ1 else u δ μ1 P
def dNotT (t : TDT) : TDT := fun δ μ P => t δ μ fun c μ1 => P (!c) μ1
variable {t u : TDT} {rest : List Expr}
theorem dw_and1 (ha : PT X a (lT X.K A t)) : PW X (.BoolOp .And [a] pos) (lT X.K A t) := pw_and1 ha
theorem dw_or1 (ha : PT X a (lT X.K A t)) : PW X (.BoolOp .Or [a] pos) (lT X.K A t) := pw_or1 ha
theorem dw_and (ha : PT X a (lT X.K A t)) (hb : PW X (.BoolOp .And (b :: rest) pos) (lT X.K A u)) : PW X (.BoolOp .And (a :: b :: rest) pos) (lT X.K A (dAndT t u)) := by
  refine PW.imp (pw_and ha hb) fun σ H Q h => ?_
  obtain ⟨G, F, μ, δ, P, s, e, t, q⟩ := h
  refine ⟨G, F, μ, δ, _, s, e, t, fun c μ1 G1 H1 t1 s1 st1 => ?_⟩
  cases c with
  | false =>
    rw [if_neg Bool.false_ne_true] at t1 ⊢
    exact q _ _ _ _ t1 s1 st1
  | true =>
    rw [if_pos rfl] at t1 ⊢
    exact ⟨G1, F, μ1, δ, _, st1, e.mono s1, t1, q.mono s1⟩
theorem dw_or (ha : PT X a (lT X.K A t)) (hb : PW X (.BoolOp .Or (b :: rest) pos) (lT X.K A u)) : PW X (.BoolOp .Or (a :: b :: rest) pos) (lT X.K A (dOrT t u)) := by
  refine PW.imp (pw_or ha hb) fun σ H Q h => ?_
  obtain ⟨G, F, μ, δ, P, s, e, t, q⟩ := h
  refine ⟨G, F, μ, δ, _, s, e, t, fun c μ1 G1 H1 t1 s1 st1 => ?_⟩
  cases c with
  | true =>
    rw [if_pos rfl] at t1 ⊢
    exact q _ _ _ _ t1 s1 st1
  | false =>
    rw [if_neg Bool.false_ne_true] at t1 ⊢
    exact ⟨G1, F, μ1, δ, _, st1, e.mono s1, t1, q.mono s1⟩
theorem dt_not (ha : PT X a (lT X.K A t)) : PT X (.UnaryOp .Not a pos) (lT X.K A (dNotT t)) := by
  refine PT.imp (pt_not ha) fun σ H Q h => ?_
  obtain ⟨G, F, μ, δ, P, s, e, t, q⟩ := h
  exact ⟨G, F, μ, δ, _, s, e, t, fun c μ1 G1 H1 t1 s1 st1 => q _ _ _ _ t1 s1 st1⟩
def dAndV (ta tb : TDE) : TDE := fun δ μ P => ta δ μ fun d μ1 => match d with
  | .bl k => if k = true then tb δ μ1 P else P (.bl false) μ1
  | _ => False
def dOrV (ta tb : TDE) : TDE := fun δ μ P => ta δ μ fun d μ1 => match d with
  | .bl k => if k = true then P (.bl true) μ1 else tb δ μ1 P
  | _ => False
def dNotV (ta : TDE) : TDE := fun δ μ P => ta δ μ fun d μ1 => match d with
  | .bl k => P (.bl (!k)) μ1
  | _ => False
theorem de_one {op} (h : PE X a (lE X.K A ta)) : PE X (.BoolOp op [a] pos) (lE X.K A ta) := pe_one h
theorem de_and (ha : PE X a (lE X.K A ta)) (hb : PE X (.BoolOp .And (b :: rest) pos) (lE X.K A tb)) : PE X (.BoolOp .And (a :: b :: rest) pos) (lE X.K A (dAndV ta tb)) := by
  refine PE.imp (pe_and ha hb) fun σ H Q h => ?_
  obtain ⟨G, F, μ, δ, P, s, e, t, q⟩ := h
  refine ⟨G, F, μ, δ, _, s, e, t, fun d μ1 v G1 H1 t1 s1 st1 dt1 => ?_⟩
  split at t1
  · rename_i k
    cases dt1
    refine ⟨k, rfl, ?_⟩
    cases k with
    | false =>
      rw [if_neg Bool.false_ne_true] at t1 ⊢
      exact q _ _ _ _ _ t1 s1 st1 (.bl false)
    | true =>
      rw [if_pos rfl] at t1 ⊢
      exact ⟨G1, F, μ1, δ, _, st1, e.mono s1, t1, q.mono s1⟩
  · exact t1.elim
theorem de_or (ha : PE X a (lE X.K A ta)) (hb : PE X (.BoolOp .Or (b :: rest) pos) (lE X.K A tb)) : PE X (.BoolOp .Or (a :: b :: rest) pos) (lE X.K A (dOrV ta tb)) := by
  refine PE.imp (pe_or ha hb) fun σ H Q h => ?_
  obtain ⟨G, F, μ, δ, P, s, e, t, q⟩ := h
  refine ⟨G, F, μ, δ, _, s, e, t, fun d μ1 v G1 H1 t1 s1 st1 dt1 => ?_⟩
  split at t1
  · rename_i k
    cases dt1
    refine ⟨k, rfl, ?_⟩
    cases k with
    | true =>
      rw [if_pos rfl] at t1 ⊢
      exact q _ _ _ _ _ t1 s1 st1 (.bl true)
    | false =>
      rw [if_neg Bool.false_ne_true] at t1 ⊢
      exact ⟨G1, F, μ1, δ, _, st1, e.mono s1, t1, q.mono s1⟩
  · exact t1.elim
theorem de_not (ha : PE X a (lE X.K A ta)) : PE X (.UnaryOp .Not a pos) (lE X.K A (dNotV ta)) := by
  refine PE.imp (pe_not ha) fun σ H Q h => ?_
  obtain ⟨G, F, μ, δ, P, s, e, t, q⟩ := h
  refine ⟨G, F, μ, δ, _, s, e, t, fun d μ1 v G1 H1 t1 s1 st1 dt1 => ?_⟩
  split at t1
  · cases dt1
    exact ⟨_, rfl, q _ _ _ _ _ t1 s1 st1 (.bl _)⟩
  · exact t1.elim
def dIf (t : TDT) (ta tb : TDE) : TDE := fun δ μ P => t δ μ fun c μ1 => if c = true then ta δ μ1 P else tb δ μ1 P
theorem de_if (hc : PT X c (lT X.K A t)) (ha : PE X a (lE X.K A ta)) (hb : PE X b (lE X.K A tb)) : PE X (.IfExp c a b pos) (lE X.K A (dIf t ta tb)) := by
  refine PE.imp (pe_ifExp hc ha hb) fun σ H Q h => ?_
  obtain ⟨G, F, μ, δ, P, s, e, t, q⟩ := h
  refine ⟨G, F, μ, δ, _, s, e, t, fun c μ1 G1 H1 t1 s1 st1 => ?_⟩
  cases c with
  | false =>
    rw [if_neg Bool.false_ne_true] at t1 ⊢
    exact ⟨G1, F, μ1, δ, _, st1, e.mono s1, t1, q.mono s1⟩
  | true =>
    rw [if_pos rfl] at t1 ⊢
    exact ⟨G1, F, μ1, δ, _, st1, e.mono s1, t1, q.mono s1⟩

/-! ### arguments, displays -/
def dNil : TDA := fun _ μ P => P [] μ
def dCons (ta : TDE) (tr : TDA) : TDA := fun δ μ P => ta δ μ fun d μ1 => tr δ μ1 fun ds μ2 => P (d :: ds) μ2
variable {es : List Expr} {tl : TDA}
theorem da_nil : PA X [] (lA X.K A dNil) := by
  refine PA.imp pa_nil fun σ H Q h => ?_
  obtain ⟨G, F, μ, δ, P, s, e, t, q⟩ := h
  exact q _ _ _ _ _ t (Same.refl _) s .nil
theorem da_cons (ha : PE X a (lE X.K A ta)) (hr : PA X es (lA X.K A tl)) (hs : starEach (a :: es) X.env = (false, eval a X.env) :: starEach es X.env := by rfl) : PA X (a :: es) (lA X.K A (dCons ta tl)) := by
  refine PA.imp (pa_cons ha hr hs) fun σ H Q h => ?_
  obtain ⟨G, F, μ, δ, P, s, e, t, q⟩ := h
  refine ⟨G, F, μ, δ, _, s, e, t, fun d μ1 v G1 H1 t1 s1 st1 dt1 => ?_⟩
  refine ⟨G1, F, μ1, δ, _, st1, e.mono s1, t1, fun ds μ2 vs G2 H2 t2 s2 st2 dt2 => ?_⟩
  exact q _ _ _ _ _ t2 (s1.trans s2) st2 (.cons (dt1.mono s2) dt2)
def dTup (tl : TDA) : TDE := fun δ μ P => tl δ μ fun ds μ1 => ds.length ≤ sizeLine ∧ P (.tup ds) μ1
def dLst (tl : TDA) : TDE := fun δ μ P => tl δ μ fun ds μ1 => ds.length ≤ sizeLine ∧ P (.lst ds) μ1
/-- a list that will change -/
def dLstM (tl : TDA) : TDE := fun δ μ P => tl δ μ fun ds μ1 => ds.length ≤ sizeLine ∧ ∀ p, μ1 p = none → P (.ref p) (mset μ1 p (.lst ds))
theorem new_tup {K : PySem.W.Frag} {G F : Hp} {μ : Mu} {H : Hp} {p : Addr} {vs : List V} {ds : List D} (s : Sta K A G F μ H) (n : H p = none) (d : DtA K G vs ds) : Same G (upd G p (.tup vs)) ∧ Sta K A (upd G p (.tup vs)) F μ (upd H p (.tup vs)) ∧ Dt K (upd G p (.tup vs)) (.ref p) (.tup ds) :=
  ⟨same_upd (s.ng n), s.fresh n rfl, .tup (SqT.of upd_same) (d.mono (same_upd (s.ng n)))⟩
theorem new_lst {K : PySem.W.Frag} {G F : Hp} {μ : Mu} {H : Hp} {p : Addr} {vs : List V} {ds : List D} (s : Sta K A G F μ H) (n : H p = none) (d : DtA K G vs ds) : Same G (upd G p (.lst vs)) ∧ Sta K A (upd G p (.lst vs)) F μ (upd H p (.lst vs)) ∧ Dt K (upd G p (.lst vs)) (.ref p) (.lst ds) :=
  ⟨same_upd (s.ng n), s.fresh n rfl, .lst upd_same (d.mono (same_upd (s.ng n)))⟩
theorem de_tup {k : Nat} (h : PA X es (lA X.K A tl)) : PE X (.Tuple es k pos) (lE X.K A (dTup tl)) := by
  refine PE.imp (pe_tup h) fun σ H Q h => ?_
  obtain ⟨G, F, μ, δ, P, s, e, t, q⟩ := h
  refine ⟨G, F, μ, δ, _, s, e, t, fun ds μ1 vs G1 H1 t1 s1 st1 dt1 => ⟨by rw [dt1.length]; exact t1.1, fun p n => ?_⟩⟩
  obtain ⟨a1, a2, a3⟩ := new_tup st1 n dt1
  exact q _ _ _ _ _ t1.2 (s1.trans a1) a2 a3
theorem de_lst (h : PA X es (lA X.K A tl)) : PE X (.List es pos) (lE X.K A (dLst tl)) := by
  refine PE.imp (pe_lst h) fun σ H Q h => ?_
  obtain ⟨G, F, μ, δ, P, s, e, t, q⟩ := h
  refine ⟨G, F, μ, δ, _, s, e, t, fun ds μ1 vs G1 H1 t1 s1 st1 dt1 => ⟨by rw [dt1.length]; exact t1.1, fun p n => ?_⟩⟩
  obtain ⟨a1, a2, a3⟩ := new_lst st1 n dt1
  exact q _ _ _ _ _ t1.2 (s1.trans a1) a2 a3
theorem de_lstM (h : PA X es (lA X.K A tl)) : PE X (.List es pos) (lE X.K A (dLstM tl)) := by
  refine PE.imp (pe_lst h) fun σ H Q h => ?_
  obtain ⟨G, F, μ, δ, P, s, e, t, q⟩ := h
  refine ⟨G, F, μ, δ, _, s, e, t, fun ds μ1 vs G1 H1 t1 s1 st1 dt1 => ⟨by rw [dt1.length]; exact t1.1, fun p n => ?_⟩⟩
  exact q _ _ _ _ _ (t1.2 p (st1.nm n)) s1 (st1.freshM n ⟨vs, upd_same, dt1⟩) (.ref p)

/-! ### calls by values -/
abbrev DCl := List D → Mu → DK → Prop
def lC (K : PySem.W.Frag) (A : Amb) (r : DCl) : List V → Hp → VK → Prop := fun xs H Q => ∃ G F μ ds P, Sta K A G F μ H ∧ DtA K G xs ds ∧ r ds μ P ∧ PoV K A F G P Q
theorem cimp {X : Cx} {f : Value} {r r' : List V → Hp → VK → Prop} (h : CallR X f r) (i : ∀ x H Q, r' x H Q → r x H Q) : CallR X f r' := fun pins s σ H xs us Q I rx z => h pins s σ H xs us Q I rx (i _ _ _ z)
def dCall (r : DCl) (tl : TDA) : TDE := fun δ μ P => tl δ μ fun ds μ1 => r ds μ1 P
variable {rc : DCl} {x : Str} {id T : String} {p : Pos}
theorem lE_call {K : PySem.W.Frag} {σ : L2.St} {H : Hp} {Q : VK} (h : lE K A (dCall rc tl) σ H Q) : tCB (lC K A rc) (lA K A tl) σ H Q := by
  obtain ⟨G, F, μ, δ, P, s, e, t, q⟩ := h
  refine ⟨G, F, μ, δ, _, s, e, t, fun ds μ1 vs G1 H1 t1 s1 st1 dt1 => ?_⟩
  exact ⟨G1, F, μ1, ds, P, st1, dt1, t1, q.mono s1⟩
theorem de_callB (hc : CallR X (.builtin id) (lC X.K A rc)) (hm : X.mg x = none) (hv : bootBuiltins x = some (.builtin id)) (ha : PA X (a :: es) (lA X.K A tl)) (hg : Gl X x := by rfl) (hn : x ≠ "__name__" := by decide) (hdb : (x == ("__debug__" : Str)) = false := by decide)
    (he : starEach (a :: es) X.env = (false, eval a X.env) :: starEach es X.env := by rfl) (hpl : (backTo pos (starEach es X.env)).any (·.1) = false := by rfl) : PE X (.Call (.Name x p) (a :: es) [] pos) (lE X.K A (dCall rc tl)) :=
  PE.imp (pe_callB hc hg hm hv ha hn hdb he hpl) fun σ H Q h => lE_call h
theorem de_callTy (hc : CallR X (.type T) (lC X.K A rc)) (hm : X.mg x = none) (hv : bootBuiltins x = some (.type T)) (ha : PA X (a :: es) (lA X.K A tl)) (hg : Gl X x := by rfl) (hn : x ≠ "__name__" := by decide) (hdb : (x == ("__debug__" : Str)) = false := by decide)
    (he : starEach (a :: es) X.env = (false, eval a X.env) :: starEach es X.env := by rfl) (hpl : (backTo pos (starEach es X.env)).any (·.1) = false := by rfl) : PE X (.Call (.Name x p) (a :: es) [] pos) (lE X.K A (dCall rc tl)) :=
  PE.imp (pe_callTy hc hg hm hv ha hn hdb he hpl) fun σ H Q h => lE_call h
end
end DL

set_option Elab.async false
set_option linter.all false
set_option maxRecDepth 100000
set_option maxHeartbeats 2000000
/-! DL3: operators, comparisons, subscripts, slices, built-in functions over data. -/
namespace DL
open PySem PySem.Spec PyProof.Rows L2 HT

/-! ### data as the library's data -/
mutual
def py : D → PyData
  | .non => .none
  | .bl b => .bool b
  | .int i => .int i
  | .str x => .str x
  | .tup ds => .tuple (pyA ds)
  | .lst ds => .list (pyA ds)
  | .ils _ => .none
  | .ref _ => .none
def pyA : List D → List PyData
  | [] => []
  | d :: ds => py d :: pyA ds
end
mutual
/-- what == may be asked of: no thing with an identity, at most so deep -/
def okD : Nat → D → Bool
  | _, .non => true
  | _, .bl _ => true
  | _, .int _ => true
  | _, .str x => PyData.strOk x
  | 0, .tup _ => false
  | n + 1, .tup ds => okDA n ds
  | 0, .lst _ => false
  | n + 1, .lst ds => okDA n ds
  | _, .ils _ => false
  | _, .ref _ => false
def okDA : Nat → List D → Bool
  | _, [] => true
  | n, d :: ds => okD n d && okDA n ds
end
def deq (d e : D) : Bool := PyData.eqv (py d) (py e)
def deqA (d e : List D) : Bool := PyData.eqvAll (pyA d) (pyA e)
mutual
theorem py_ok : ∀ (n : Nat) (d : D), okD n d = true → (py d).canLay0 = true ∧ (py d).depth ≤ n
  | _, .non, _ => by simp [py, PyData.canLay0, PyData.depth]
  | _, .bl _, _ => by simp [py, PyData.canLay0, PyData.depth]
  | _, .int _, _ => by simp [py, PyData.canLay0, PyData.depth]
  | _, .str x, h => by
    have h : PyData.strOk x = true := by simpa [okD] using h
    simp [py, PyData.canLay0, PyData.depth, h]
  | 0, .tup _, h => by simp [okD] at h
  | n + 1, .tup ds, h => by
    have q := pyA_ok n ds (by simpa [okD] using h)
    simp only [py, PyData.canLay0, PyData.depth]
    exact ⟨q.1, Nat.succ_le_succ q.2⟩
  | 0, .lst _, h => by simp [okD] at h
  | n + 1, .lst ds, h => by
    have q := pyA_ok n ds (by simpa [okD] using h)
    simp only [py, PyData.canLay0, PyData.depth]
    exact ⟨q.1, Nat.succ_le_succ q.2⟩
  | _, .ils _, h => by simp [okD] at h
  | _, .ref _, h => by simp [okD] at h
theorem pyA_ok : ∀ (n : Nat) (ds : List D), okDA n ds = true → PyData.canLayAll0 (pyA ds) = true ∧ PyData.depthAll (pyA ds) ≤ n
  | _, [], _ => by simp [pyA, PyData.canLayAll0, PyData.depthAll]
  | n, d :: ds, h => by
    rw [okDA, Bool.and_eq_true] at h
    have q1 := py_ok n d h.1
    have q2 := pyA_ok n ds h.2
    simp only [pyA, PyData.canLayAll0, PyData.depthAll, Bool.and_eq_true]
    exact ⟨⟨q1.1, q2.1⟩, Nat.max_le.mpr ⟨q1.2, q2.2⟩⟩
end
mutual
theorem dp_of {K : PySem.W.Frag} {G H : Hp} (s : Same G H) : ∀ (n : Nat) (d : D) (v : V), okD n d = true → Dt K G v d → Dp K H v (py d)
  | _, .non, _, _, h => by cases h; rw [py]; exact .non
  | _, .bl b, _, _, h => by cases h; rw [py]; exact .bl b
  | _, .int i, _, _, h => by cases h; rw [py]; exact .int i
  | _, .str x, _, _, h => by cases h; rw [py]; exact .str x
  | 0, .tup _, _, o, _ => by simp [okD] at o
  | n + 1, .tup ds, _, o, h => by
    cases h with
    | tup h1 h2 =>
      rw [py]
      exact .tup (seqT s h1) (dpA_of s n ds _ (by simpa [okD] using o) h2)
  | 0, .lst _, _, o, _ => by simp [okD] at o
  | n + 1, .lst ds, _, o, h => by
    cases h with
    | lst h1 h2 =>
      rw [py]
      exact .lst (SqL.of (s _ _ h1)) (dpA_of s n ds _ (by simpa [okD] using o) h2)
  | _, .ils _, _, o, _ => by simp [okD] at o
  | _, .ref _, _, o, _ => by simp [okD] at o
theorem dpA_of {K : PySem.W.Frag} {G H : Hp} (s : Same G H) : ∀ (n : Nat) (ds : List D) (vs : List V), okDA n ds = true → DtA K G vs ds → DpAll K H vs (pyA ds)
  | _, [], _, _, h => by cases h; rw [pyA]; exact .nil
  | n, d :: ds, _, o, h => by
    rw [okDA, Bool.and_eq_true] at o
    cases h with
    | cons h1 h2 =>
      rw [pyA]
      exact .cons (dp_of s n d _ o.1 h1) (dpA_of s n ds _ o.2 h2)
end
theorem shaped_of {n : Nat} {d : D} (hn : n ≤ 64) (h : okD n d = true) : SeqAt.shaped (py d) = true := by
  have q := py_ok n d h
  unfold SeqAt.shaped
  rw [q.1, Bool.true_and]
  exact decide_eq_true (Nat.le_trans q.2 hn)

/-! ### operators -/
def dAdd : DOp := fun d e μ P => match d, e with
  | .int i, .int j => P (.int (i + j)) μ
  | .tup a, .tup b => a.length + b.length ≤ sizeLine ∧ P (.tup (a ++ b)) μ
  | .lst a, .lst b => a.length + b.length ≤ sizeLine ∧ P (.lst (a ++ b)) μ
  | .str x, .str y => x.length + y.length ≤ sizeLine ∧ P (.str (x ++ y)) μ
  | _, _ => False
def dSub : DOp := fun d e μ P => match d, e with
  | .int i, .int j => P (.int (i - j)) μ
  | _, _ => False
def dMul : DOp := fun d e μ P => match d, e with
  | .int i, .int j => IntMulOk i j ∧ P (.int (i * j)) μ
  | .lst a, .int k => (0 ≤ k ∧ k < 2 ^ 63 ∧ a.length * k.toNat ≤ sizeLine) ∧ P (.lst (List.replicate k.toNat a).flatten) μ
  | _, _ => False
/-- a list times an int, the list will change -/
def dMulM : DOp := fun d e μ P => match d, e with
  | .lst a, .int k => (0 ≤ k ∧ k < 2 ^ 63 ∧ a.length * k.toNat ≤ sizeLine) ∧ ∀ p, μ p = none → P (.ref p) (mset μ p (.lst (List.replicate k.toNat a).flatten))
  | _, _ => False
def dFdiv : DOp := fun d e μ P => match d, e with
  | .int i, .int j => CDivW i j ∧ P (.int (i / j)) μ
  | _, _ => False
def dMod : DOp := fun d e μ P => match d, e with
  | .int i, .int j => 0 < j ∧ P (.int (i % j)) μ
  | _, _ => False
def dPow : DOp := fun d e μ P => match d, e with
  | .int i, .int j => CPow i j ∧ P (.int (i ^ j.toNat)) μ
  | _, _ => False
def dCmpI (p : Int → Int → Bool) : DOp := fun d e μ P => match d, e with
  | .int i, .int j => P (.bl (p i j)) μ
  | _, _ => False
abbrev dLt : DOp := dCmpI fun i j => decide (i < j)
abbrev dLe : DOp := dCmpI fun i j => decide (i ≤ j)
abbrev dGt : DOp := dCmpI fun i j => decide (j < i)
abbrev dGe : DOp := dCmpI fun i j => decide (j ≤ i)
def dEq : DOp := fun d e μ P => okD 8 d = true ∧ okD 8 e = true ∧ P (.bl (deq d e)) μ
def dNe : DOp := fun d e μ P => okD 8 d = true ∧ okD 8 e = true ∧ P (.bl (!deq d e)) μ
def isNon : D → Bool
  | .non => true
  | _ => false
def dIs : DOp := fun d e μ P => match e with
  | .non => P (.bl (isNon d)) μ
  | _ => False
def dIsNot : DOp := fun d e μ P => match e with
  | .non => P (.bl (!isNon d)) μ
  | _ => False
section
variable {X : Cx} {A : Amb}
theorem lO_int {K : PySem.W.Frag} {C : Int → Int → Prop} {g : Int → Int → V} {g' : Int → Int → D} {r : DOp} (hr : ∀ d e μ P, r d e μ P → ∃ i j, d = .int i ∧ e = .int j ∧ C i j ∧ P (g' i j) μ) (hg : ∀ G i j, Dt K G (g i j) (g' i j)) :
    ∀ x y H Q, lO K A r x y H Q → rI C g x y H Q := by
  rintro x y H Q ⟨G, F, μ, d, e, P, s, dx, dy, t, q⟩
  obtain ⟨i, j, rfl, rfl, c, t'⟩ := hr _ _ _ _ t
  cases dx
  cases dy
  exact ⟨i, j, rfl, rfl, c, q _ _ _ _ _ t' (Same.refl _) s (hg _ _ _)⟩
theorem lO_int0 {K : PySem.W.Frag} {g : Int → Int → V} {g' : Int → Int → D} {r : DOp} (hr : ∀ d e μ P, r d e μ P → ∃ i j, d = .int i ∧ e = .int j ∧ P (g' i j) μ) (hg : ∀ G i j, Dt K G (g i j) (g' i j)) :
    ∀ x y H Q, lO K A r x y H Q → rI0 g x y H Q := by
  rintro x y H Q ⟨G, F, μ, d, e, P, s, dx, dy, t, q⟩
  obtain ⟨i, j, rfl, rfl, t'⟩ := hr _ _ _ _ t
  cases dx
  cases dy
  exact ⟨i, j, rfl, rfl, q _ _ _ _ _ t' (Same.refl _) s (hg _ _ _)⟩
theorem od_sub : OpR X (binaryOp .Sub) (lO X.K A dSub) := oimp op_sub (lO_int0 (g' := fun i j => .int (i - j)) (fun d e μ P h => by
  unfold dSub at h
  split at h
  · exact ⟨_, _, rfl, rfl, h⟩
  · exact h.elim) fun _ _ _ => .int _)
theorem od_fdiv : OpR X (binaryOp .FloorDiv) (lO X.K A dFdiv) := oimp op_fdivW (lO_int (g' := fun i j => .int (i / j)) (fun d e μ P h => by
  unfold dFdiv at h
  split at h
  · exact ⟨_, _, rfl, rfl, h⟩
  · exact h.elim) fun _ _ _ => .int _)
theorem od_mod : OpR X (binaryOp .Mod) (lO X.K A dMod) := oimp op_mod (lO_int (g' := fun i j => .int (i % j)) (fun d e μ P h => by
  unfold dMod at h
  split at h
  · exact ⟨_, _, rfl, rfl, h⟩
  · exact h.elim) fun _ _ _ => .int _)
theorem od_pow : OpR X (binaryOp .Pow) (lO X.K A dPow) := oimp op_pow (lO_int (g' := fun i j => .int (i ^ j.toNat)) (fun d e μ P h => by
  unfold dPow at h
  split at h
  · exact ⟨_, _, rfl, rfl, h⟩
  · exact h.elim) fun _ _ _ => .int _)
theorem lO_cmp {K : PySem.W.Frag} {p : Int → Int → Bool} : ∀ x y H Q, lO K A (dCmpI p) x y H Q → rI0 (fun i j => .bl (p i j)) x y H Q := lO_int0 (g' := fun i j => .bl (p i j)) (fun d e μ P h => by
  unfold dCmpI at h
  split at h
  · exact ⟨_, _, rfl, rfl, h⟩
  · exact h.elim) fun _ _ _ => .bl _
theorem od_lt : OpR X (compareOp .Lt) (lO X.K A dLt) := oimp op_lt lO_cmp
theorem od_le : OpR X (compareOp .LtE) (lO X.K A dLe) := oimp op_le lO_cmp
theorem od_gt : OpR X (compareOp .Gt) (lO X.K A dGt) := oimp op_gt lO_cmp
theorem od_ge : OpR X (compareOp .GtE) (lO X.K A dGe) := oimp op_ge lO_cmp
theorem od_eq (hu : X.A.units + 64 < cLine) : OpR X (compareOp .Eq) (lO X.K A dEq) := oimp (op_eqD hu) fun x y H Q h => by
  obtain ⟨G, F, μ, d, e, P, s, dx, dy, ⟨o1, o2, t⟩, q⟩ := h
  exact ⟨_, _, dp_of s.gh 8 d x o1 dx, dp_of s.gh 8 e y o2 dy, shaped_of (by decide) o1, shaped_of (by decide) o2, q _ _ _ _ _ t (Same.refl _) s (.bl _)⟩
theorem od_ne (hu : X.A.units + 64 < cLine) : OpR X (compareOp .NotEq) (lO X.K A dNe) := oimp (op_neD hu) fun x y H Q h => by
  obtain ⟨G, F, μ, d, e, P, s, dx, dy, ⟨o1, o2, t⟩, q⟩ := h
  exact ⟨_, _, dp_of s.gh 8 d x o1 dx, dp_of s.gh 8 e y o2 dy, shaped_of (by decide) o1, shaped_of (by decide) o2, q _ _ _ _ _ t (Same.refl _) s (.bl _)⟩
theorem non_iff {K : PySem.W.Frag} {G : Hp} {x : V} {d : D} (h : Dt K G x d) : decide (x = .non) = isNon d := by
  cases h <;> first | rfl | (apply decide_eq_false; intro z; cases z)
theorem od_is : OpR X (compareOp .Is) (lO X.K A dIs) := oimp op_isN fun x y H Q h => by
  obtain ⟨G, F, μ, d, e, P, s, dx, dy, t, q⟩ := h
  unfold dIs at t
  split at t
  · cases dy
    exact ⟨rfl, by rw [non_iff dx]; exact q _ _ _ _ _ t (Same.refl _) s (.bl _)⟩
  · exact t.elim
theorem od_isnot : OpR X (compareOp .IsNot) (lO X.K A dIsNot) := oimp op_notN fun x y H Q h => by
  obtain ⟨G, F, μ, d, e, P, s, dx, dy, t, q⟩ := h
  unfold dIsNot at t
  split at t
  · cases dy
    exact ⟨rfl, by rw [non_iff dx]; exact q _ _ _ _ _ t (Same.refl _) s (.bl _)⟩
  · exact t.elim
theorem nil_of {K : PySem.W.Frag} {G : Hp} {xs : List V} {ds : List D} (h : DtA K G xs ds) : xs = [] ↔ ds = [] := by
  have e := h.length
  cases xs <;> cases ds <;> simp at e ⊢
theorem od_add : OpR X (binaryOp .Add) (lO X.K A dAdd) := oimp ((op_add.or op_catA).or (op_cat.or op_add_str)) fun x y H Q h => by
  obtain ⟨G, F, μ, d, e, P, s, dx, dy, t, q⟩ := h
  unfold dAdd at t
  split at t
  · cases dx
    cases dy
    exact .inl (.inl ⟨_, _, rfl, rfl, q _ _ _ _ _ t (Same.refl _) s (.int _)⟩)
  · rename_i da db
    cases dx with
    | @tup a xs _ h1 h2 =>
      cases dy with
      | @tup b ys _ k1 k2 =>
        refine .inl (.inr ⟨a, b, xs, ys, rfl, rfl, seqT s.gh h1, seqT s.gh k1, by rw [h2.length, k2.length]; exact t.1, fun e => ?_, fun e1 e2 => ?_, fun e1 e2 p n => ?_⟩)
        · have e' := (nil_of h2).mp e
          subst e'
          exact q _ _ _ _ _ t.2 (Same.refl _) s (.tup k1 k2)
        · have e' := (nil_of k2).mp e2
          subst e'
          have t2 := t.2
          rw [List.append_nil] at t2
          exact q _ _ _ _ _ t2 (Same.refl _) s (.tup h1 h2)
        · obtain ⟨a1, a2, a3⟩ := new_tup s n (h2.append k2)
          exact q _ _ _ _ _ t.2 a1 a2 a3
  · rename_i da db
    cases dx with
    | @lst a xs _ h1 h2 =>
      cases dy with
      | @lst b ys _ k1 k2 =>
        refine .inr (.inl ⟨a, b, xs, ys, rfl, rfl, s.gh _ _ h1, s.gh _ _ k1, by rw [h2.length, k2.length]; exact t.1, fun p n => ?_⟩)
        obtain ⟨a1, a2, a3⟩ := new_lst s n (h2.append k2)
        exact q _ _ _ _ _ t.2 a1 a2 a3
  · cases dx
    cases dy
    exact .inr (.inr ⟨_, _, rfl, rfl, t.1, q _ _ _ _ _ t.2 (Same.refl _) s (.str _)⟩)
  · exact t.elim
theorem op_mulOk : OpR X (binaryOp .Mult) (rI IntMulOk fun i j => .int (i * j)) := opI fun _ _ _ _ _ _ _ hc q => mul_int q hc
theorem od_mul : OpR X (binaryOp .Mult) (lO X.K A dMul) := oimp (op_mulOk.or op_rep) fun x y H Q h => by
  obtain ⟨G, F, μ, d, e, P, s, dx, dy, t, q⟩ := h
  unfold dMul at t
  split at t
  · cases dx
    cases dy
    exact .inl ⟨_, _, rfl, rfl, t.1, q _ _ _ _ _ t.2 (Same.refl _) s (.int _)⟩
  · rename_i da k
    cases dx with
    | @lst a xs _ h1 h2 =>
      cases dy
      refine .inr ⟨a, k, xs, rfl, rfl, s.gh _ _ h1, by omega, t.1.2.1, by rw [h2.length]; exact t.1.2.2, fun p n => ?_⟩
      obtain ⟨a1, a2, a3⟩ := new_lst s n (h2.rep k.toNat)
      exact q _ _ _ _ _ t.2 a1 a2 a3
  · exact t.elim
theorem od_mulM : OpR X (binaryOp .Mult) (lO X.K A dMulM) := oimp op_rep fun x y H Q h => by
  obtain ⟨G, F, μ, d, e, P, s, dx, dy, t, q⟩ := h
  unfold dMulM at t
  split at t
  · rename_i da k
    cases dx with
    | @lst a xs _ h1 h2 =>
      cases dy
      refine ⟨a, k, xs, rfl, rfl, s.gh _ _ h1, by omega, t.1.2.1, by rw [h2.length]; exact t.1.2.2, fun p n => ?_⟩
      exact q _ _ _ _ _ (t.2 p (s.nm n)) (Same.refl _) (s.freshM n ⟨_, upd_same, h2.rep k.toNat⟩) (.ref p)
  · exact t.elim
def dNeg (ta : TDE) : TDE := fun δ μ P => ta δ μ fun d μ1 => match d with
  | .int i => P (.int (-i)) μ1
  | _ => False
theorem de_neg {a : Expr} {pos : Pos} {ta : TDE} (ha : PE X a (lE X.K A ta)) : PE X (.UnaryOp .USub a pos) (lE X.K A (dNeg ta)) := PE.imp (pe_un un_neg ha) fun σ H Q h => by
  obtain ⟨G, F, μ, δ, P, s, e, t, q⟩ := h
  refine ⟨G, F, μ, δ, _, s, e, t, fun d μ1 v G1 H1 t1 s1 st1 dt1 => ?_⟩
  split at t1
  · cases dt1
    exact ⟨_, rfl, q _ _ _ _ _ t1 s1 st1 (.int _)⟩
  · exact t1.elim

/-! ### subscripts -/
def ixD (μ : Mu) (d e : D) : Option D := match d, e with
  | .tup ds, .int i => atI ds i
  | .lst ds, .int i => atI ds i
  | .ils ns, .int i => (atI ns i).map .int
  | .ref a, .int i => match μ a with
    | some (.lst ds) => atI ds i
    | _ => none
  | _, _ => none
def dIx : DOp := fun d e μ P => match ixD μ d e with
  | some x => P x μ
  | none => False
theorem atI_of {α β : Type} {xs : List α} {ys : List β} {i : Int} {y : β} (hl : xs.length = ys.length) (h : atI ys i = some y) : ∃ (x : α) (j : Nat), atI xs i = some x ∧ xs[j]? = some x ∧ ys[j]? = some y := by
  unfold atI at h ⊢
  rw [hl]
  cases e : ixN ys.length i with
  | none => rw [e] at h; simp at h
  | some j =>
    rw [e] at h
    have h : ys[j]? = some y := by simpa using h
    have hj : j < xs.length := by rw [hl]; exact (List.getElem?_eq_some_iff.mp h).1
    exact ⟨xs[j], j, by simp [hj], by simp [hj], h⟩
theorem DtA.at {K : PySem.W.Frag} {G : Hp} {xs : List V} {ds : List D} {i : Int} {d : D} (h : DtA K G xs ds) (e : atI ds i = some d) : ∃ x, atI xs i = some x ∧ Dt K G x d := by
  obtain ⟨x, j, e1, e2, e3⟩ := atI_of h.length e
  obtain ⟨v, e4, r⟩ := h.get e3
  rw [e2] at e4
  cases e4
  exact ⟨x, e1, r⟩
theorem id_ix : IxR X (lO X.K A dIx) := by
  have base : IxR X (fun x y H Q => rIxL X.K x y H Q ∨ rIxT X.K x y H Q) := ix_list.or ix_tup
  intro ex sl pins s' σ H x y v u Q I rx ry h hs
  refine base ex sl pins s' σ H x y v u Q I rx ry ?_ hs
  obtain ⟨G, F, μ, d, e, P, s, dx, dy, t, q⟩ := h
  unfold dIx at t
  split at t
  · rename_i z ez
    unfold ixD at ez
    split at ez
    · cases dx with
      | @tup a xs _ h1 h2 =>
        cases dy
        obtain ⟨w, e1, r⟩ := h2.at ez
        exact .inr ⟨a, xs, _, w, rfl, rfl, seqT s.gh h1, e1, q _ _ _ _ _ t (Same.refl _) s r⟩
    · cases dx with
      | @lst a xs _ h1 h2 =>
        cases dy
        obtain ⟨w, e1, r⟩ := h2.at ez
        exact .inl ⟨a, xs, _, w, rfl, rfl, SqL.of (s.gh _ _ h1), e1, q _ _ _ _ _ t (Same.refl _) s r⟩
    · rename_i ns i
      cases dx with
      | @ils a _ h1 =>
        cases dy
        obtain ⟨n, en, rfl⟩ := Option.map_eq_some_iff.mp ez
        obtain ⟨w, j, e1, e2, e3⟩ := atI_of (xs := ns.map V.int) (by rw [List.length_map]) en
        rw [List.getElem?_map, e3] at e2
        cases e2
        exact .inl ⟨a, _, i, _, rfl, rfl, s.gh.seq h1, e1, q _ _ _ _ _ t (Same.refl _) s (.int _)⟩
    · cases dx
      cases dy
      split at ez
      · rename_i ds em
        obtain ⟨xs, h1, h2⟩ := s.mo _ _ em
        obtain ⟨w, e1, r⟩ := h2.at ez
        exact .inl ⟨_, xs, _, w, rfl, rfl, SqL.of h1, e1, q _ _ _ _ _ t (Same.refl _) s r⟩
      · cases ez
    · cases ez
  · exact t.elim
variable {a b : Expr} {ta tb : TDE} {pos p2 : Pos}
theorem de_ix (ha : PE X a (lE X.K A ta)) (hb : PE X b (lE X.K A tb)) (hs : PlainIx b := by exact fun _ _ => rfl) : PE X (.Subscript a b pos) (lE X.K A (dBin dIx ta tb)) := PE.imp (pe_ix id_ix ha hb hs) fun σ H Q h => lE_bin h

/-! ### slices -/
abbrev TDO := Nv → Mu → (Option Int → Mu → Prop) → Prop
def PoO (K : PySem.W.Frag) (A : Amb) (F G : Hp) (P : Option Int → Mu → Prop) (Q : Option Int → Hp → Prop) : Prop := ∀ b μ' G' H', P b μ' → Same G G' → Sta K A G' F μ' H' → Q b H'
theorem PoO.mono {K : PySem.W.Frag} {F G G' : Hp} {P : Option Int → Mu → Prop} {Q : Option Int → Hp → Prop} (h : PoO K A F G P Q) (s : Same G G') : PoO K A F G' P Q := fun d μ G1 H1 p s1 t => h d μ G1 H1 p (s.trans s1) t
def lP (K : PySem.W.Frag) (A : Amb) (t : TDO) : TO := fun σ H Q => ∃ G F μ δ P, Sta K A G F μ H ∧ EnvR K G σ δ ∧ t δ μ P ∧ PoO K A F G P Q
theorem PO.imp {X : Cx} {e : Option Expr} {t t' : TO} (h : PO X e t) (i : ∀ σ H Q, t' σ H Q → t σ H Q) : PO X e t' := ⟨fun pins s σ H Q I x => h.run pins s σ H Q I (i σ H Q x)⟩
def dNo : TDO := fun _ μ P => P none μ
def dPart (ta : TDE) : TDO := fun δ μ P => ta δ μ fun d μ1 => match d with
  | .int i => P (some i) μ1
  | _ => False
theorem do_none : PO X none (lP X.K A dNo) := PO.imp po_none fun σ H Q h => by
  obtain ⟨G, F, μ, δ, P, s, e, t, q⟩ := h
  exact q _ _ _ _ t (Same.refl _) s
theorem do_some (ha : PE X a (lE X.K A ta)) : PO X (some a) (lP X.K A (dPart ta)) := PO.imp (po_some ha) fun σ H Q h => by
  obtain ⟨G, F, μ, δ, P, s, e, t, q⟩ := h
  refine ⟨G, F, μ, δ, _, s, e, t, fun d μ1 v G1 H1 t1 s1 st1 dt1 => ?_⟩
  split at t1
  · cases dt1
    exact ⟨_, rfl, q _ _ _ _ t1 s1 st1⟩
  · exact t1.elim
def cutD (ds : List D) (lo hi : Option Int) : List D := (ds.drop (sIx ds.length 0 lo)).take (sIx ds.length ds.length hi - sIx ds.length 0 lo)
def dCut (d : D) (lo hi : Option Int) (μ : Mu) (P : DK) : Prop := match d with
  | .tup ds => P (.tup (cutD ds lo hi)) μ
  | .lst ds => P (.lst (cutD ds lo hi)) μ
  | .ref a => match μ a with
    | some (.lst ds) => P (.lst (cutD ds lo hi)) μ
    | _ => False
  | _ => False
def dSlice (ta : TDE) (tl th : TDO) : TDE := fun δ μ P => ta δ μ fun d μ1 => tl δ μ1 fun lo μ2 => th δ μ2 fun hi μ3 => dCut d lo hi μ3 P
theorem DtA.cut {K : PySem.W.Frag} {G : Hp} {xs : List V} {ds : List D} (lo hi : Option Int) (h : DtA K G xs ds) : DtA K G (cutV xs lo hi) (cutD ds lo hi) := by
  unfold cutV cutD
  rw [h.length]
  exact (h.drop _).take _
theorem cutD_whole {ds : List D} {lo hi : Option Int} (h : sIx ds.length 0 lo = 0 ∧ sIx ds.length ds.length hi = ds.length) : cutD ds lo hi = ds := by
  unfold cutD
  rw [h.1, h.2, Nat.sub_zero, List.drop_zero, List.take_length]
theorem de_slice {lo hi : Option Expr} {tl th : TDO} (ha : PE X a (lE X.K A ta)) (hl : PO X lo (lP X.K A tl)) (hh : PO X hi (lP X.K A th)) : PE X (.Subscript a (.Slice lo hi none p2) pos) (lE X.K A (dSlice ta tl th)) := by
  refine PE.imp (pe_slice (SlR.or sl_tupA sl_list) ha hl hh) fun σ H Q h => ?_
  obtain ⟨G, F, μ, δ, P, s, e, t, q⟩ := h
  refine ⟨G, F, μ, δ, _, s, e, t, fun d μ1 v G1 H1 t1 s1 st1 dt1 => ?_⟩
  refine ⟨G1, F, μ1, δ, _, st1, e.mono s1, t1, fun l μ2 G2 H2 t2 s2 st2 => ?_⟩
  refine ⟨G2, F, μ2, δ, _, st2, (e.mono s1).mono s2, t2, fun u μ3 G3 H3 t3 s3 st3 => ?_⟩
  have q3 := ((q.mono s1).mono s2).mono s3
  have dt3 := (dt1.mono s2).mono s3
  unfold dCut at t3
  split at t3
  · rename_i ds
    cases dt3 with
    | @tup a xs _ h1 h2 =>
      refine .inl ⟨a, xs, rfl, seqT st3.gh h1, fun w => ?_, fun w p n => ?_⟩
      · have w' : sIx ds.length 0 l = 0 ∧ sIx ds.length ds.length u = ds.length := by rw [← h2.length]; exact w
        have t4 := t3
        rw [cutD_whole w'] at t4
        exact q3 _ _ _ _ _ t4 (Same.refl _) st3 (.tup h1 h2)
      · obtain ⟨a1, a2, a3⟩ := new_tup st3 n (h2.cut l u)
        exact q3 _ _ _ _ _ t3 a1 a2 a3
  · rename_i ds
    cases dt3 with
    | @lst a xs _ h1 h2 =>
      refine .inr ⟨a, xs, rfl, SqL.of (st3.gh _ _ h1), fun p n => ?_⟩
      obtain ⟨a1, a2, a3⟩ := new_lst st3 n (h2.cut l u)
      exact q3 _ _ _ _ _ t3 a1 a2 a3
  · rename_i ad
    cases dt3
    split at t3
    · rename_i ds em
      obtain ⟨xs, h1, h2⟩ := st3.mo _ _ em
      refine .inr ⟨_, xs, rfl, SqL.of h1, fun p n => ?_⟩
      obtain ⟨a1, a2, a3⟩ := new_lst st3 n (h2.cut l u)
      exact q3 _ _ _ _ _ t3 a1 a2 a3
    · exact t3.elim
  · exact t3.elim

/-! ### built-in functions -/
def lenD (μ : Mu) : D → Option Nat
  | .tup ds => some ds.length
  | .lst ds => some ds.length
  | .ils ns => some ns.length
  | .str x => if x.length ≤ sizeLine then some x.length else none
  | .ref a => match μ a with
    | some (.lst ds) => some ds.length
    | _ => none
  | _ => none
def dLen : DCl := fun ds μ P => match ds with
  | [d] => match lenD μ d with
    | some n => P (.int n) μ
    | none => False
  | _ => False
theorem DtA.one {K : PySem.W.Frag} {G : Hp} {xs : List V} {d : D} (h : DtA K G xs [d]) : ∃ x, xs = [x] ∧ Dt K G x d := by
  cases h with
  | cons h1 h2 => cases h2; exact ⟨_, rfl, h1⟩
theorem DtA.two {K : PySem.W.Frag} {G : Hp} {xs : List V} {d e : D} (h : DtA K G xs [d, e]) : ∃ x y, xs = [x, y] ∧ Dt K G x d ∧ Dt K G y e := by
  cases h with
  | cons h1 h2 =>
    obtain ⟨y, rfl, h3⟩ := h2.one
    exact ⟨_, y, rfl, h1, h3⟩
theorem cd_len : CallR X (.builtin "len") (lC X.K A dLen) := cimp (call_len_seq.or call_len_str) fun xs H Q h => by
  obtain ⟨G, F, μ, ds, P, s, dx, t, q⟩ := h
  unfold dLen at t
  split at t
  · obtain ⟨x, rfl, d1⟩ := dx.one
    split at t
    · rename_i n en
      unfold lenD at en
      split at en
      · cases en
        cases d1 with
        | @tup a xs _ h1 h2 => exact .inl ⟨a, xs, rfl, .inr (seqT s.gh h1), q _ _ _ _ _ t (Same.refl _) s (by rw [h2.length]; exact .int _)⟩
      · cases en
        cases d1 with
        | @lst a xs _ h1 h2 => exact .inl ⟨a, xs, rfl, .inl (SqL.of (s.gh _ _ h1)), q _ _ _ _ _ t (Same.refl _) s (by rw [h2.length]; exact .int _)⟩
      · cases en
        cases d1 with
        | @ils a ns h1 => exact .inl ⟨a, _, rfl, .inl (s.gh.seq h1), q _ _ _ _ _ t (Same.refl _) s (by rw [List.length_map]; exact .int _)⟩
      · split at en
        · rename_i hz
          cases en
          cases d1
          exact .inr ⟨_, rfl, hz, q _ _ _ _ _ t (Same.refl _) s (.int _)⟩
        · cases en
      · cases d1
        split at en
        · rename_i ds em
          cases en
          obtain ⟨xs, h1, h2⟩ := s.mo _ _ em
          exact .inl ⟨_, xs, rfl, .inl (SqL.of h1), q _ _ _ _ _ t (Same.refl _) s (by rw [h2.length]; exact .int _)⟩
        · cases en
      · cases en
    · exact t.elim
  · exact t.elim
def dAbs : DCl := fun ds μ P => match ds with
  | [.int i] => P (.int (if i < 0 then -i else i)) μ
  | _ => False
theorem cd_abs : CallR X (.builtin "abs") (lC X.K A dAbs) := cimp call_abs fun xs H Q h => by
  obtain ⟨G, F, μ, ds, P, s, dx, t, q⟩ := h
  unfold dAbs at t
  split at t
  · obtain ⟨x, rfl, d1⟩ := dx.one
    cases d1
    exact ⟨_, rfl, q _ _ _ _ _ t (Same.refl _) s (.int _)⟩
  · exact t.elim
def dMax : DCl := fun ds μ P => match ds with
  | [.int i, .int j] => P (.int (if j > i then j else i)) μ
  | _ => False
def dMin : DCl := fun ds μ P => match ds with
  | [.int i, .int j] => P (.int (if j < i then j else i)) μ
  | _ => False
theorem cd_max (hc : X.calm = true) : CallR X (.builtin "max") (lC X.K A dMax) := cimp (call_max2 hc) fun xs H Q h => by
  obtain ⟨G, F, μ, ds, P, s, dx, t, q⟩ := h
  unfold dMax at t
  split at t
  · obtain ⟨x, y, rfl, d1, d2⟩ := dx.two
    cases d1
    cases d2
    exact ⟨_, _, rfl, q _ _ _ _ _ t (Same.refl _) s (.int _)⟩
  · exact t.elim
theorem cd_min (hc : X.calm = true) : CallR X (.builtin "min") (lC X.K A dMin) := cimp (call_min2 hc) fun xs H Q h => by
  obtain ⟨G, F, μ, ds, P, s, dx, t, q⟩ := h
  unfold dMin at t
  split at t
  · obtain ⟨x, y, rfl, d1, d2⟩ := dx.two
    cases d1
    cases d2
    exact ⟨_, _, rfl, q _ _ _ _ _ t (Same.refl _) s (.int _)⟩
  · exact t.elim
def dInt : DCl := fun ds μ P => match ds with
  | [.int i] => P (.int i) μ
  | [.bl k] => P (.int (if k then 1 else 0)) μ
  | _ => False
theorem cd_int : CallR X (.type "int") (lC X.K A dInt) := cimp call_int1 fun xs H Q h => by
  obtain ⟨G, F, μ, ds, P, s, dx, t, q⟩ := h
  unfold dInt at t
  split at t
  · obtain ⟨x, rfl, d1⟩ := dx.one
    cases d1
    exact .inl ⟨_, rfl, q _ _ _ _ _ t (Same.refl _) s (.int _)⟩
  · obtain ⟨x, rfl, d1⟩ := dx.one
    cases d1
    exact .inr ⟨_, rfl, q _ _ _ _ _ t (Same.refl _) s (.int _)⟩
  · exact t.elim
/-- isinstance(x, T), T a built-in class -/
def isiD (T : String) : D → Option Bool
  | .non => kitB "NoneType" T
  | .bl _ => kitB "bool" T
  | .int _ => kitB "int" T
  | .str _ => kitB "str" T
  | .tup _ => kitB "tuple" T
  | .lst _ => kitB "list" T
  | _ => none
theorem tyX_tup {K : PySem.W.Frag} {H : Hp} {a : Addr} {xs : List V} (h : SqT K H a xs) : TyX K H (.ref a) (.type "tuple") := by
  rcases h with (h | ⟨o, h⟩) | ⟨o, its, n, h1, h2, _⟩
  · exact .base (.tup h)
  · exact .fTuple h
  · exact .kTuple h1 h2
def dIsi (T : String) : DCl := fun ds μ P => match ds with
  | [d, .non] => match isiD T d with
    | some b => P (.bl b) μ
    | none => False
  | _ => False
theorem tyX_of {K : PySem.W.Frag} {G H : Hp} {T : String} {x : V} {d : D} {b : Bool} (s : Same G H) (h : Dt K G x d) (e : isiD T d = some b) : ∃ t, TyX K H x t ∧ PySem.W.kitOne K t (.type T) = some b := by
  cases h with
  | non => exact ⟨_, .base .non, kit_ty e⟩
  | bl k => exact ⟨_, .base (.bl k), kit_ty e⟩
  | int i => exact ⟨_, .base (.int i), kit_ty e⟩
  | str z => exact ⟨_, .base (.str z), kit_ty e⟩
  | tup h1 h2 => exact ⟨_, tyX_tup (seqT s h1), kit_ty e⟩
  | lst h1 h2 => exact ⟨_, .base (.lst (s _ _ h1)), kit_ty e⟩
  | ils h1 => cases e
  | ref a => cases e
/-- isinstance(x, T) as an expression -/
def dIsiE (T : String) (ta : TDE) : TDE := fun δ μ P => ta δ μ fun d μ1 => match isiD T d with
  | some b => P (.bl b) μ1
  | none => False
theorem de_isi {T : String} {n : Str} {p1 p2 p3 : Pos} (hm : X.mg "isinstance" = none) (ha : PE X a (lE X.K A ta)) (hm2 : X.mg n = none) (hv2 : bootBuiltins n = some (.type T)) (hg : Gl X "isinstance" := by rfl) (hg2 : Gl X n := by rfl)
    (hn : n ≠ "__name__" := by decide) (hd : (n == ("__debug__" : Str)) = false := by decide) (hv : bootBuiltins "isinstance" = some (.builtin "isinstance") := by decide +kernel)
    (he : starEach [a, .Name n p2] X.env = (false, eval a X.env) :: starEach [.Name n p2] X.env := by rfl) (he2 : starEach [.Name n p2] X.env = (false, eval (.Name n p2) X.env) :: starEach [] X.env := by rfl)
    (hpl : (backTo p3 (starEach [.Name n p2] X.env)).any (·.1) = false := by rfl) : PE X (.Call (.Name "isinstance" p1) [a, .Name n p2] [] p3) (lE X.K A (dIsiE T ta)) := by
  refine PE.imp (pe_callB call_isi hg hm hv (pa_cons ha (pa_cons (pe_bltn (v := .ty T) hg2 hm2 hv2 rfl hn hd) pa_nil he2) he) (by decide) (by decide) he hpl) fun σ H Q h => ?_
  obtain ⟨G, F, μ, δ, P, s, e, t, q⟩ := h
  refine ⟨G, F, μ, δ, _, s, e, t, fun d μ1 v G1 H1 t1 s1 st1 dt1 => ?_⟩
  split at t1
  · rename_i b eb
    obtain ⟨t, h1, h2⟩ := tyX_of st1.gh dt1 eb
    exact ⟨v, .ty T, t, .type T, b, rfl, .ty T, h1, h2, q _ _ _ _ _ t1 s1 st1 (.bl b)⟩
  · exact t1.elim
/-- all(a list of truths) -/
def dAll : DCl := fun ds μ P => match ds with
  | [.lst ds] => ∃ bs : List Bool, ds = bs.map .bl ∧ P (.bl (bs.all id)) μ
  | _ => False
theorem bls_of {K : PySem.W.Frag} {G : Hp} : ∀ {bs : List Bool} {xs : List V}, DtA K G xs (bs.map .bl) → xs = bs.map V.bl
  | [], _, h => by cases h; rfl
  | b :: bs, _, h => by
    cases h with
    | cons h1 h2 =>
      cases h1
      rw [bls_of h2]
      rfl
theorem cd_all (hc : X.calm = true) : CallR X (.builtin "all") (lC X.K A dAll) := cimp (cr_all hc) fun xs H Q h => by
  obtain ⟨G, F, μ, ds, P, s, dx, t, q⟩ := h
  unfold dAll at t
  split at t
  · obtain ⟨x, rfl, d1⟩ := dx.one
    obtain ⟨bs, rfl, t⟩ := t
    cases d1 with
    | @lst a xs _ h1 h2 =>
      have e := bls_of h2
      subst e
      exact ⟨a, bs, rfl, SqL.of (s.gh _ _ h1), q _ _ _ _ _ t (Same.refl _) s (.bl _)⟩
  · exact t.elim
/-- tuple(xs), list(xs) -/
def dTuple : DCl := fun ds μ P => match ds with
  | [.lst ds] => P (.tup ds) μ
  | [.tup ds] => P (.tup ds) μ
  | _ => False
theorem cd_tuple : CallR X (.type "tuple") (lC X.K A dTuple) := cimp call_tuple_of fun xs H Q h => by
  obtain ⟨G, F, μ, ds, P, s, dx, t, q⟩ := h
  unfold dTuple at t
  split at t
  · obtain ⟨x, rfl, d1⟩ := dx.one
    cases d1 with
    | @lst a xs _ h1 h2 =>
      refine ⟨a, xs, rfl, .inl ⟨SqL.of (s.gh _ _ h1), fun p n => ?_⟩⟩
      obtain ⟨a1, a2, a3⟩ := new_tup s n h2
      exact q _ _ _ _ _ t a1 a2 a3
  · obtain ⟨x, rfl, d1⟩ := dx.one
    cases d1 with
    | @tup a xs _ h1 h2 => exact ⟨a, xs, rfl, .inr ⟨seqT s.gh h1, q _ _ _ _ _ t (Same.refl _) s (.tup h1 h2)⟩⟩
  · exact t.elim
def dList : DCl := fun ds μ P => match ds with
  | [.lst ds] => P (.lst ds) μ
  | [.tup ds] => P (.lst ds) μ
  | _ => False
theorem cd_list : CallR X (.type "list") (lC X.K A dList) := cimp call_list_of fun xs H Q h => by
  obtain ⟨G, F, μ, ds, P, s, dx, t, q⟩ := h
  unfold dList at t
  split at t
  · obtain ⟨x, rfl, d1⟩ := dx.one
    cases d1 with
    | @lst a xs _ h1 h2 =>
      refine ⟨a, xs, rfl, .inl (SqL.of (s.gh _ _ h1)), fun p n => ?_⟩
      obtain ⟨a1, a2, a3⟩ := new_lst s n h2
      exact q _ _ _ _ _ t a1 a2 a3
  · obtain ⟨x, rfl, d1⟩ := dx.one
    cases d1 with
    | @tup a xs _ h1 h2 =>
      refine ⟨a, xs, rfl, .inr (seqT s.gh h1), fun p n => ?_⟩
      obtain ⟨a1, a2, a3⟩ := new_lst s n h2
      exact q _ _ _ _ _ t a1 a2 a3
  · exact t.elim
def dStr : DCl := fun ds μ P => match ds with
  | [.int i] => i.natAbs.log2 < 1920 ∧ P (.str (toString i)) μ
  | _ => False
theorem cd_str : CallR X (.type "str") (lC X.K A dStr) := cimp call_str_int fun xs H Q h => by
  obtain ⟨G, F, μ, ds, P, s, dx, t, q⟩ := h
  unfold dStr at t
  split at t
  · obtain ⟨x, rfl, d1⟩ := dx.one
    cases d1
    exact ⟨_, rfl, t.1, q _ _ _ _ _ t.2 (Same.refl _) s (.str _)⟩
  · exact t.elim
end
end DL

set_option Elab.async false
set_option linter.all false
set_option maxRecDepth 100000
set_option maxHeartbeats 2000000
/-! DL3b: t[::-1] of tuples and lists. -/
namespace DL
open PySem PyProof.Rows HT
section
variable {prog : Program} {w : World} {A : Around} {E : Value → Shared → Prop} {s : Shared}
theorem sliceApplied_rev {sl : Addr} {vs : Value} {n : Nat} {Q : Int × Int × Nat → Shared → Prop} (hs : s.heap.IsSliceOf sl .none .none vs) (ps : IsPart vs (some (-1)))
    (h : Q ((n : Int) - 1, -1, n) s) : wpAny (model prog w) A (Builtin.Slice.sliceApplied (.ref sl) (pure (n : Int))) Q E s := by
  obtain ⟨os, hos, hcs, hds⟩ := id hs
  unfold Builtin.Slice.sliceApplied Builtin.Slice.sliceFields
  refine wpAny_bind (wpAny_bind (wpAny_field hos hds (x := .none) rfl (wpAny_bind (wpAny_field hos hds (x := .none) rfl (wpAny_bind (wpAny_field hos hds (x := vs) rfl (wpAny_pure ?_)))))))
  refine wpAny_bind (slicePart_ ps ?_)
  show wpAny _ _ (if ((-1 : Int) == 0) = true then _ else _) _ _ s
  rw [if_neg (by decide)]
  refine wpAny_bind (slicePart_none (wpAny_bind (slicePart_none (wpAny_bind (wpAny_pure ?_)))))
  show wpAny _ _ (pure (((n : Int) - 1), (-1 : Int), Builtin.Slice.slicePlaces ((n : Int) - 1) (-1) (-1))) _ _ s
  have e : Builtin.Slice.slicePlaces ((n : Int) - 1) (-1) (-1) = n := by
    unfold Builtin.Slice.slicePlaces
    rw [if_neg (by omega)]
    simp only [Int.neg_neg, Int.ediv_one]
    split <;> omega
  rw [e]
  exact wpAny_pure h
theorem fm_map {α β : Type} {f : α → Option β} {g : α → β} : ∀ {l : List α}, (∀ m ∈ l, f m = some (g m)) → l.filterMap f = l.map g
  | [], _ => rfl
  | x :: l, h => by
    rw [List.filterMap_cons, h x List.mem_cons_self, List.map_cons]
    show g x :: l.filterMap f = _
    rw [fm_map fun m hm => h m (List.mem_cons_of_mem _ hm)]
theorem pick_rev (xs : Array Value) : ((List.range xs.size).filterMap fun (m : Nat) => xs[(((xs.size : Nat) : Int) - 1 + (m : Int) * (-1)).toNat]?).toArray = xs.toList.reverse.toArray := by
  congr 1
  have e : ∀ m ∈ List.range xs.size, xs[(((xs.size : Nat) : Int) - 1 + (m : Int) * (-1)).toNat]? = some (xs.toList.reverse.getD m Value.none) := fun m hm => by
    have hm := List.mem_range.mp hm
    have e1 : (((xs.size : Nat) : Int) - 1 + (m : Int) * (-1)).toNat = xs.size - 1 - m := by omega
    rw [e1, ← Array.getElem?_toList]
    rw [List.getD_eq_getElem?_getD, List.getElem?_reverse (by simpa using hm), Array.length_toList]
    have : xs.size - 1 - m < xs.toList.length := by rw [Array.length_toList]; omega
    rw [List.getElem?_eq_getElem this]
    rfl
  rw [fm_map e]
  refine List.ext_getElem? fun i => ?_
  rw [List.getElem?_map]
  by_cases hi : i < xs.size
  · rw [List.getElem?_range hi]
    have : i < xs.toList.reverse.length := by simpa using hi
    rw [List.getElem?_eq_getElem this]
    show some (xs.toList.reverse.getD i Value.none) = _
    rw [List.getD_eq_getElem?_getD, List.getElem?_eq_getElem this]
    rfl
  · rw [List.getElem?_eq_none (by simpa using hi), List.getElem?_eq_none (by simpa using hi)]
    rfl
theorem getItem_tuple_rev {t sl : Addr} {items : Array Value} {vs : Value} {Q : Value → Shared → Prop} (ht : IsTup s.heap t items) (hs : s.heap.IsSliceOf sl .none .none vs) (ps : IsPart vs (some (-1)))
    (h : Q (.ref s.heap.objs.size) { s with heap := s.heap.push { cls := .type "tuple", data := .seq items.toList.reverse.toArray } })
    (hsz : items.size ≤ sizeLine) : wpAny (model prog w) A (getItem (.ref t) (.ref sl)) Q E s := by
  have htake : sizeOk (.seq items.toList.reverse.toArray) := by
    show items.toList.reverse.toArray.size ≤ sizeLine
    rw [List.size_toArray, List.length_reverse, Array.length_toList]
    exact hsz
  obtain ⟨os, hos, hcs, hds⟩ := id hs
  have hTs : s.TypeIs (.ref sl) "slice" := ⟨os, hos, hcs⟩
  unfold getItem
  try with_reducible refine wpAny_holding ?_
  first | refine wpAny_bind (wpAny_pure ?_) | skip
  refine wpAny_bind (wpAny_sequenceKey ht.typeIs (by decide) ?_)
  refine wpAny_bind (wpAny_callSpecial?_slot (name := Str.ofString "__getitem__") ht.typeIs PyProof.Rows.slot_tuple_getitem
    (wpAny_call_entry PyProof.Rows.slot_tuple_getitem ht.typeIs entry_tuple_getitem ?_ (args_tuple_getitem _ _)))
  show wpAny _ _ (Builtin.Tuple.tupleItemsOf (.ref t) >>= _) _ _ s
  refine wpAny_bind (tupleItemsOf_ ht ?_)
  refine wpAny_bind (wpAny_typeOf hTs ?_)
  rw [if_pos (by decide)]
  refine wpAny_bind (sliceApplied_rev hs ps ?_)
  show wpAny _ _ (if (((items.size : Nat) : Int) - 1 == 0 && (-1 : Int) == 1 && items.size == items.size) = true then _ else _) _ _ s
  have hno : ¬ ((((items.size : Nat) : Int) - 1 == 0 && (-1 : Int) == 1 && items.size == items.size) = true) := by
    rw [show ((-1 : Int) == 1) = false from by decide, Bool.and_false, Bool.false_and]
    exact Bool.false_ne_true
  rw [if_neg hno, pick_rev]
  first
    | exact wpAny_bind (m := Builtin.Tuple.tupleExact _) (wpAny_newObj_type (wpAny_pure ⟨_, rfl, wpAny_pure h⟩) htake)
    | exact wpAny_bind (m := Builtin.Tuple.tupleExact _) (wpAny_newObj_type (wpAny_bind (wpAny_pure (wpAny_pure ⟨_, rfl, wpAny_pure h⟩))) htake)
    | exact wpAny_bind (wpAny_bind (m := Builtin.Tuple.tupleExact _) (wpAny_newObj_type (wpAny_pure (wpAny_pure ⟨_, rfl, wpAny_pure h⟩)) htake))
    | exact wpAny_bind (wpAny_bind (m := Builtin.Tuple.tupleExact _) (wpAny_newObj_type (wpAny_pure ⟨_, rfl, wpAny_pure h⟩) htake))
end
end DL
namespace DL
open PySem PySem.Spec PyProof.Rows L2 HT
section
variable {X : Cx} {A : Amb}
def tRevA (K : PySem.W.Frag) (te : TE) : TE := fun σ H Q => te σ H fun x H1 => ∃ a xs, x = .ref a ∧ ((SqL K H1 a xs ∧ ∀ p, H1 p = none → Q (.ref p) (upd H1 p (.lst xs.reverse))) ∨ (SqT K H1 a xs ∧ ∀ p, H1 p = none → Q (.ref p) (upd H1 p (.tup xs.reverse))))
theorem pe_revA {e : Expr} {te : TE} {k : Nat} {p1 p2 p3 pos : Pos} (he : PE X e te) : PE X (.Subscript e (.Slice none none (some (.UnaryOp .USub (.Constant (.int 1) k p1) p2)) p3) pos) (tRevA X.K te) := by
  refine ⟨fun pins s σ H Q I h => ?_⟩
  refine Subscript_ (thn (he.run pins s σ H _ I h) fun v s1 ⟨x, H1, I1, r1, q1⟩ => ?_)
  obtain ⟨a, xs, ex, q⟩ := q1
  subst ex
  cases r1
  have hst : PO X (some (.UnaryOp .USub (.Constant (.int 1) k p1) p2)) (tPart (tUn (rU fun i => .int (-i)) (tC (.int 1)))) := po_some (pe_un un_neg pe_int)
  refine wpAny_Slice (thn (po_none.run pins s1 σ H1 (fun o H2 => o = none ∧ H2 = H1) I1 ⟨rfl, rfl⟩) fun vl s2 ⟨l, H2, I2, pl, el, e2⟩ => ?_)
  subst el e2
  refine thn (po_none.run pins s2 σ H2 (fun o H3 => o = none ∧ H3 = H2) I2 ⟨rfl, rfl⟩) fun vu s3 ⟨u, H3, I3, pu, eu, e3⟩ => ?_
  subst eu e3
  refine thn (hst.run pins s3 σ H3 (fun o H4 => o = some (-1) ∧ H4 = H3) I3 ⟨1, rfl, -1, rfl, rfl, rfl⟩) fun vs s4 ⟨o, H4, I4, ps, eo, e4⟩ => ?_
  subst eo e4
  have I5 : Inv X pins σ H4 { s4 with heap := s4.heap.push { cls := .type "slice", data := .fields #[vl, vu, vs] } } := I4.kept (t' := s4.toks) fun b ob q => Heap.get?_push_of_some _ q
  show wpAny (model X.prog X.w) X.A (subscriptTail e (.Slice none none (some (.UnaryOp .USub (.Constant (.int 1) k p1) p2)) p3) (.ref a) (.ref s4.heap.objs.size)) (EP X pins σ Q) X.xe { s4 with heap := s4.heap.push { cls := .type "slice", data := .fields #[vl, vu, vs] } }
  rcases q with ⟨hx, q⟩ | ⟨hx, q⟩
  · obtain ⟨its, r, ht, hz⟩ := I5.list hx
    have hlen := r.length
    refine tail_any (ops := [.ref a, .ref s4.heap.objs.size]) ht.isList.typeIs (PySem.slot_list_getitem.lookup) ?_ (by with_unfolding_all rfl)
    refine wpAny_getItem_list_slice ht.isList (Heap.IsSliceOf.new _ vl vu vs) pl pu ps (by decide) ?_ (by rw [List.size_toArray]; omega)
    rw [PySem.W.krv_pick]
    refine ⟨.ref _, _, I5.laid (t' := s4.toks) (o := .lst xs.reverse) (fun b ob q => Heap.get?_push_of_some _ q) (Nat.le_refl _) ?_, rfl, q _ (I5.hok.fresh (Nat.le_refl _))⟩
    exact ⟨by rw [List.length_reverse]; exact hz, _, 0, r.reverse, Heap.get?_push_size _ rfl⟩
  · obtain ⟨its, r, ht, hz⟩ := I5.tuple hx
    have hlen := r.length
    cases pl
    cases pu
    refine tail_any (ops := [.ref a, .ref s4.heap.objs.size]) ht.typeIs (PyProof.Rows.slot_tuple_getitem.lookup) ?_ (by with_unfolding_all rfl)
    refine getItem_tuple_rev ht (Heap.IsSliceOf.new _ _ _ vs) ps ?_ (by rw [List.size_toArray]; omega)
    have ob := IsTup.new ({ s4 with heap := s4.heap.push { cls := .type "slice", data := .fields #[.none, .none, vs] } } : Shared).heap its.reverse.toArray
    refine ⟨.ref _, _, I5.laid (t' := s4.toks) (o := .tup xs.reverse) (fun b ob q => Heap.get?_push_of_some _ q) (Nat.le_refl _) ?_, rfl, q _ (I5.hok.fresh (Nat.le_refl _))⟩
    exact ⟨by rw [List.length_reverse]; exact hz, _, r.reverse, ob⟩
def dRev (ta : TDE) : TDE := fun δ μ P => ta δ μ fun d μ1 => match d with
  | .lst ds => P (.lst ds.reverse) μ1
  | .tup ds => P (.tup ds.reverse) μ1
  | _ => False
theorem de_rev {a : Expr} {ta : TDE} {k : Nat} {p1 p2 p3 pos : Pos} (ha : PE X a (lE X.K A ta)) : PE X (.Subscript a (.Slice none none (some (.UnaryOp .USub (.Constant (.int 1) k p1) p2)) p3) pos) (lE X.K A (dRev ta)) := PE.imp (pe_revA ha) fun σ H Q h => by
  obtain ⟨G, F, μ, δ, P, s, e, t, q⟩ := h
  refine ⟨G, F, μ, δ, _, s, e, t, fun d μ1 v G1 H1 t1 s1 st1 dt1 => ?_⟩
  split at t1
  · cases dt1 with
    | @lst a xs _ h1 h2 =>
      refine ⟨a, xs, rfl, .inl ⟨SqL.of (st1.gh _ _ h1), fun p n => ?_⟩⟩
      obtain ⟨a1, a2, a3⟩ := new_lst st1 n h2.reverse
      exact q _ _ _ _ _ t1 (s1.trans a1) a2 a3
  · cases dt1 with
    | @tup a xs _ h1 h2 =>
      refine ⟨a, xs, rfl, .inr ⟨seqT st1.gh h1, fun p n => ?_⟩⟩
      obtain ⟨a1, a2, a3⟩ := new_tup st1 n h2.reverse
      exact q _ _ _ _ _ t1 (s1.trans a1) a2 a3
  · exact t1.elim
end
end DL

set_option Elab.async false
set_option linter.all false
set_option maxRecDepth 100000
set_option maxHeartbeats 2000000
/-! DL4: statements over data: blocks, stores, if, loops; a def's promise over data; calls; raise. -/
namespace DL
open PySem PySem.Spec PyProof.Rows L2 HT

/-- what follows, over data -/
structure DE where
  nx : Nv → Mu → Prop
  rt : DK
  bk : Nv → Mu → Prop := fun _ _ => False
  ct : Nv → Mu → Prop := fun _ _ => False
abbrev TDS := DE → Nv → Mu → Prop
structure PoE (K : PySem.W.Frag) (A : Amb) (F G : Hp) (E : DE) (Dn : Ends) : Prop where
  nx : PoN K A F G E.nx Dn.nx
  rt : PoV K A F G E.rt Dn.rt
  bk : PoN K A F G E.bk Dn.bk
  ct : PoN K A F G E.ct Dn.ct
theorem PoE.mono {K : PySem.W.Frag} {A : Amb} {F G G' : Hp} {E : DE} {Dn : Ends} (h : PoE K A F G E Dn) (s : Same G G') : PoE K A F G' E Dn := ⟨h.nx.mono s, h.rt.mono s, h.bk.mono s, h.ct.mono s⟩
def lS (K : PySem.W.Frag) (A : Amb) (t : TDS) : TS := fun Dn σ H => ∃ G F μ δ E, Sta K A G F μ H ∧ EnvR K G σ δ ∧ t E δ μ ∧ PoE K A F G E Dn
theorem simp_ {X : Cx} {e : Stmt} {t t' : TS} (h : PS X e t) (i : ∀ D σ H, t' D σ H → t D σ H) : PS X e t' := ⟨fun pins s σ H Q I x => h.run pins s σ H Q I (i Q σ H x)⟩
theorem ssimp {X : Cx} {e : List Stmt} {t t' : TS} (h : PSs X e t) (i : ∀ D σ H, t' D σ H → t D σ H) : PSs X e t' := ⟨fun pins s σ H Q I x => h.run pins s σ H Q I (i Q σ H x)⟩

def dNext : TDS := fun E δ μ => E.nx δ μ
def dSeq (t u : TDS) : TDS := fun E δ μ => t { E with nx := u E } δ μ
def dBreak : TDS := fun E δ μ => E.bk δ μ
def dCont : TDS := fun E δ μ => E.ct δ μ
def dDrop (t : TDE) : TDS := fun E δ μ => t δ μ fun _ μ1 => E.nx δ μ1
def dRet (t : TDE) : TDS := fun E δ μ => t δ μ E.rt
def dRetN : TDS := fun E _ μ => E.rt .non μ
def dIfS (c : TDT) (t u : TDS) : TDS := fun E δ μ => c δ μ fun b μ1 => if b = true then t E δ μ1 else u E δ μ1
section
variable {X : Cx} {A : Amb} {st : Stmt} {rest : List Stmt} {t u : TDS} {e c : Expr} {te : TDE} {tc : TDT} {pos : Pos}
theorem ds_nil : PSs X [] (lS X.K A dNext) := ssimp pss_nil fun Dn σ H h => by
  obtain ⟨G, F, μ, δ, E, s, e, t, q⟩ := h
  exact q.nx _ _ _ _ _ t (Same.refl _) s e
theorem ds_cons (h1 : PS X st (lS X.K A t)) (h2 : PSs X rest (lS X.K A u)) : PSs X (st :: rest) (lS X.K A (dSeq t u)) := ssimp (pss_cons h1 h2) fun Dn σ H h => by
  obtain ⟨G, F, μ, δ, E, s, e, t, q⟩ := h
  exact ⟨G, F, μ, δ, _, s, e, t, ⟨fun δ1 μ1 σ1 G1 H1 t1 s1 st1 e1 => ⟨G1, F, μ1, δ1, E, st1, e1, t1, q.mono s1⟩, q.rt, q.bk, q.ct⟩⟩
theorem ds_one (h1 : PS X st (lS X.K A t)) : PSs X [st] (lS X.K A t) := pss_one h1
theorem ds_pass : PS X (.Pass pos) (lS X.K A dNext) := simp_ ps_pass fun Dn σ H h => by
  obtain ⟨G, F, μ, δ, E, s, e, t, q⟩ := h
  exact q.nx _ _ _ _ _ t (Same.refl _) s e
theorem ds_break : PS X (.Break pos) (lS X.K A dBreak) := simp_ ps_break fun Dn σ H h => by
  obtain ⟨G, F, μ, δ, E, s, e, t, q⟩ := h
  exact q.bk _ _ _ _ _ t (Same.refl _) s e
theorem ds_continue : PS X (.Continue pos) (lS X.K A dCont) := simp_ ps_continue fun Dn σ H h => by
  obtain ⟨G, F, μ, δ, E, s, e, t, q⟩ := h
  exact q.ct _ _ _ _ _ t (Same.refl _) s e
theorem ds_expr (he : PE X e (lE X.K A te)) (hs : swapsWith e none pos.line X.env = pure false := by rfl) : PS X (.Expr e pos) (lS X.K A (dDrop te)) := simp_ (ps_expr he hs) fun Dn σ H h => by
  obtain ⟨G, F, μ, δ, E, s, e, t, q⟩ := h
  exact ⟨G, F, μ, δ, _, s, e, t, fun d μ1 v G1 H1 t1 s1 st1 dt1 => q.nx _ _ _ _ _ t1 s1 st1 (e.mono s1)⟩
theorem ds_ret (he : PE X e (lE X.K A te)) : PS X (.Return (some e) pos) (lS X.K A (dRet te)) := simp_ (ps_ret he) fun Dn σ H h => by
  obtain ⟨G, F, μ, δ, E, s, e, t, q⟩ := h
  exact ⟨G, F, μ, δ, _, s, e, t, q.rt⟩
theorem ds_retN : PS X (.Return none pos) (lS X.K A dRetN) := simp_ ps_retN fun Dn σ H h => by
  obtain ⟨G, F, μ, δ, E, s, e, t, q⟩ := h
  exact q.rt _ _ _ _ _ t (Same.refl _) s .non
theorem ds_if {a b : List Stmt} (hc : PT X c (lT X.K A tc)) (ha : PSs X a (lS X.K A t)) (hb : PSs X b (lS X.K A u)) : PS X (.If c a b pos) (lS X.K A (dIfS tc t u)) := simp_ (ps_if hc ha hb) fun Dn σ H h => by
  obtain ⟨G, F, μ, δ, E, s, e, t, q⟩ := h
  refine ⟨G, F, μ, δ, _, s, e, t, fun b μ1 G1 H1 t1 s1 st1 => ?_⟩
  cases b with
  | false =>
    rw [if_neg Bool.false_ne_true] at t1 ⊢
    exact ⟨G1, F, μ1, δ, E, st1, e.mono s1, t1, q.mono s1⟩
  | true =>
    rw [if_pos rfl] at t1 ⊢
    exact ⟨G1, F, μ1, δ, E, st1, e.mono s1, t1, q.mono s1⟩
end

/-! ### targets -/
abbrev TDG := D → Nv → Mu → (Nv → Mu → Prop) → Prop
abbrev TDGs := List D → Nv → Mu → (Nv → Mu → Prop) → Prop
def lG (K : PySem.W.Frag) (A : Amb) (t : TDG) : TG := fun v σ H Q => ∃ G F μ δ d P, Sta K A G F μ H ∧ EnvR K G σ δ ∧ Dt K G v d ∧ t d δ μ P ∧ PoN K A F G P Q
def lGs (K : PySem.W.Frag) (A : Amb) (t : TDGs) : TGs := fun vs σ H Q => ∃ G F μ δ ds P, Sta K A G F μ H ∧ EnvR K G σ δ ∧ DtA K G vs ds ∧ t ds δ μ P ∧ PoN K A F G P Q
theorem gimp {X : Cx} {e : Expr} {t t' : TG} (h : PG X e t) (i : ∀ v σ H Q, t' v σ H Q → t v σ H Q) : PG X e t' := ⟨fun pins s σ H v u Q I r x => h.run pins s σ H v u Q I r (i v σ H Q x)⟩
theorem gsimp {X : Cx} {e : List Expr} {t t' : TGs} (h : PGs X e t) (i : ∀ v σ H Q, t' v σ H Q → t v σ H Q) : PGs X e t' := ⟨fun pins s σ H v u Q I r x => h.run pins s σ H v u Q I r (i v σ H Q x)⟩
def dgN (i : Nat) : TDG := fun d δ μ P => P (δ.set i (some d)) μ
def dgNil : TDGs := fun ds δ μ P => match ds with
  | [] => P δ μ
  | _ => False
def dgCons (t : TDG) (u : TDGs) : TDGs := fun ds δ μ P => match ds with
  | d :: r => t d δ μ fun δ1 μ1 => u r δ1 μ1 P
  | _ => False
def dgT (n : Nat) (t : TDGs) : TDG := fun d δ μ P => match d with
  | .tup ds => ds.length = n ∧ t ds δ μ P
  | _ => False
def dgSub (to ti : TDE) : TDG := fun d δ μ P => to δ μ fun o μ1 => ti δ μ1 fun i μ2 => match o, i with
  | .ref a, .int k => match μ2 a with
    | some (.lst ds) => match ixN ds.length k with
      | some j => P δ (mset μ2 a (.lst (ds.set j d)))
      | none => False
    | _ => False
  | _, _ => False
section
variable {X : Cx} {A : Amb} {pos : Pos} {e : Expr} {es : List Expr} {t : TDG} {u : TDGs} {te to ti : TDE}
theorem lG_name {K : PySem.W.Frag} {i : Nat} {v : V} {σ : L2.St} {H : Hp} {Q : L2.St → Hp → Prop} (h : lG K A (dgN i) v σ H Q) : gName i v σ H Q := by
  obtain ⟨G, F, μ, δ, d, P, s, e, r, t, q⟩ := h
  exact q _ _ _ _ _ t (Same.refl _) s (e.set r i)
theorem dg_name {i : Nat} {x : Str} (hN : X.N.Nodup) (hi : X.N[i]? = some x) (hx : Loc X.env.scope x) (hf : X.fn x = true ∨ X.env.scope.names.lookup x = some .local := by first | exact .inl rfl | exact .inr rfl | assumption) : PG X (.Name x pos) (lG X.K A (dgN i)) :=
  gimp (pg_name hN hi hx hf) fun v σ H Q h => lG_name h
theorem dgs_nil : PGs X [] (lGs X.K A dgNil) := gsimp pgs_nil fun v σ H Q h => by
  obtain ⟨G, F, μ, δ, ds, P, s, e, r, t, q⟩ := h
  unfold dgNil at t
  split at t
  · cases r
    exact ⟨rfl, q _ _ _ _ _ t (Same.refl _) s e⟩
  · exact t.elim
theorem dgs_cons (h1 : PG X e (lG X.K A t)) (h2 : PGs X es (lGs X.K A u)) (hs : (assignEach (e :: es) X.env).map (·.2) = assign e X.env :: (assignEach es X.env).map (·.2) := by rfl) : PGs X (e :: es) (lGs X.K A (dgCons t u)) := gsimp (pgs_cons h1 h2 hs) fun v σ H Q h => by
  obtain ⟨G, F, μ, δ, ds, P, s, e, r, t, q⟩ := h
  unfold dgCons at t
  split at t
  · rename_i d ds'
    cases r with
    | cons r1 r2 =>
      exact ⟨_, _, rfl, G, F, μ, δ, _, _, s, e, r1, t, fun δ1 μ1 σ1 G1 H1 t1 s1 st1 e1 => ⟨G1, F, μ1, δ1, _, _, st1, e1, r2.mono s1, t1, q.mono s1⟩⟩
  · exact t.elim
theorem dg_tup {k n : Nat} (hc : X.calm = true) (h : PGs X es (lGs X.K A u)) (hn : (assignEach es X.env).length = n := by rfl) (hst : (assignEach es X.env).findIdx? (·.1) = none := by rfl) : PG X (.Tuple es k pos) (lG X.K A (dgT n u)) :=
  gimp (pg_tup hc h hn hst) fun v σ H Q h => by
    obtain ⟨G, F, μ, δ, d, P, s, e, r, t, q⟩ := h
    unfold dgT at t
    split at t
    · cases r with
      | @tup a xs ds h1 h2 => exact ⟨a, xs, rfl, seqT s.gh h1, by rw [h2.length]; exact t.1, G, F, μ, δ, _, P, s, e, h2, t.2, q⟩
    · exact t.elim
theorem dg_sub {o i : Expr} (ho : PE X o (lE X.K A to)) (hi : PE X i (lE X.K A ti))
    (ha : ∀ v, assign (.Subscript o i pos) X.env v = (do
      let ov ← holding [v] (eval o X.env)
      let iv ← holding [v, ov] (eval i X.env)
      standAt pos
      holding [v, ov, iv] (setItem ov iv v)
      release [v, ov, iv] []) := by intro _; rfl) : PG X (.Subscript o i pos) (lG X.K A (dgSub to ti)) :=
  gimp (pg_sub ho hi set_list ha) fun v σ H Q h => by
    obtain ⟨G, F, μ, δ, d, P, s, e, r, t, q⟩ := h
    refine ⟨G, F, μ, δ, _, s, e, t, fun dd μ1 v1 G1 H1 t1 s1 st1 dt1 => ?_⟩
    refine ⟨G1, F, μ1, δ, _, st1, e.mono s1, t1, fun di μ2 v2 G2 H2 t2 s2 st2 dt2 => ?_⟩
    split at t2
    · rename_i a k
      split at t2
      · rename_i ds em
        split at t2
        · rename_i j ej
          cases dt1
          cases dt2
          obtain ⟨xs, h1, h2⟩ := st2.mo _ _ em
          refine ⟨a, xs, k, j, rfl, rfl, h1, by rw [h2.length]; exact ej, ?_⟩
          have r2 := (r.mono s1).mono s2
          exact q _ _ _ _ _ t2 (s1.trans s2) (st2.put em h1 rfl ⟨_, upd_same, h2.set r2 j⟩) ((e.mono s1).mono s2)
        · exact t2.elim
      · exact t2.elim
    · exact t2.elim
def dAsg (te : TDE) (g : TDG) : TDS := fun E δ μ => te δ μ fun d μ1 => g d δ μ1 E.nx
theorem lS_asg {K : PySem.W.Frag} {te' : TE} {g' : TG} {Dn : Ends} {σ : L2.St} {H : Hp} (h : lS K A (dAsg te t) Dn σ H) (he : ∀ σ H Q, lE K A te σ H Q → te' σ H Q) (hg : ∀ v σ H Q, lG K A t v σ H Q → g' v σ H Q) : tAsg te' g' Dn σ H := by
  obtain ⟨G, F, μ, δ, E, s, e, t, q⟩ := h
  refine he _ _ _ ⟨G, F, μ, δ, _, s, e, t, fun d μ1 v G1 H1 t1 s1 st1 dt1 => hg _ _ _ _ ?_⟩
  exact ⟨G1, F, μ1, δ, d, _, st1, e.mono s1, dt1, t1, q.nx.mono s1⟩
theorem ds_asg {tg e : Expr} (he : PE X e (lE X.K A te)) (hg : PG X tg (lG X.K A t)) (hs : swapsWithSole [tg] e pos.line X.env = pure false := by rfl) (hw : swappedStores [tg] e X.env = pure none := by rfl)
    (h1 : (assignEach [tg] X.env).map (·.2) = [assign tg X.env] := by rfl) : PS X (.Assign [tg] e pos) (lS X.K A (dAsg te t)) :=
  simp_ (ps_asg he hg hs hw h1) fun Dn σ H h => lS_asg h (fun _ _ _ h => h) fun _ _ _ _ h => h
theorem ds_set {i : Nat} {x : Str} {pos' : Pos} (hN : X.N.Nodup) (hi : X.N[i]? = some x) (hx : Loc X.env.scope x) (he : PE X e (lE X.K A te)) (hs : swapsWith e (some (.Name x pos')) pos.line X.env = pure false := by rfl) (hf : X.fn x = true ∨ X.env.scope.names.lookup x = some .local := by first | exact .inl rfl | exact .inr rfl | assumption) :
    PS X (.Assign [.Name x pos'] e pos) (lS X.K A (dAsg te (dgN i))) :=
  simp_ (ps_set hN hi hx he hs hf) fun Dn σ H h => lS_asg h (fun _ _ _ h => h) fun _ _ _ _ h => lG_name h
variable {tl : TDA}
def dPar (i j : Nat) (tl : TDA) : TDS := fun E δ μ => tl δ μ fun ds μ1 => match ds with
  | [d, e] => E.nx ((δ.set i (some d)).set j (some e)) μ1
  | _ => False
theorem ds_par {i j : Nat} {x y : Str} {a b : Expr} {px py pt : Pos} {kt k2 pt2} (hc : X.calm = true) (hN : X.N.Nodup) (hi : X.N[i]? = some x) (hj : X.N[j]? = some y) (hij : i ≠ j)
    (hx : X.env.scope.names.lookup x = some .local) (hy : X.env.scope.names.lookup y = some .local) (ha : PA X [a, b] (lA X.K A tl))
    (hw : swappedStores [.Tuple [.Name x px, .Name y py] kt pt] (.Tuple [a, b] k2 pt2) X.env = pure (some [x, y]) := by rfl)
    (hs : swapsWithSole [.Tuple [.Name x px, .Name y py] kt pt] (.Tuple [a, b] k2 pt2) pos.line X.env = pure false := by rfl) :
    PS X (.Assign [.Tuple [.Name x px, .Name y py] kt pt] (.Tuple [a, b] k2 pt2) pos) (lS X.K A (dPar i j tl)) :=
  simp_ (ps_par hc hN hi hj hij hx hy ha hw hs) fun Dn σ H h => by
    obtain ⟨G, F, μ, δ, E, s, e, t, q⟩ := h
    refine ⟨G, F, μ, δ, _, s, e, t, fun ds μ1 vs G1 H1 t1 s1 st1 dt1 => ?_⟩
    split at t1
    · obtain ⟨v, w, rfl, d1, d2⟩ := dt1.two
      exact ⟨v, w, rfl, q.nx _ _ _ _ _ t1 s1 st1 (((e.mono s1).set d1 i).set d2 j)⟩
    · exact t1.elim
def dPar3 (i j l : Nat) (tl : TDA) : TDS := fun E δ μ => tl δ μ fun ds μ1 => match ds with
  | [d, e, f] => E.nx (((δ.set i (some d)).set j (some e)).set l (some f)) μ1
  | _ => False
theorem DtA.three {K : PySem.W.Frag} {G : Hp} {xs : List V} {d e f : D} (h : DtA K G xs [d, e, f]) : ∃ x y z, xs = [x, y, z] ∧ Dt K G x d ∧ Dt K G y e ∧ Dt K G z f := by
  cases h with
  | cons h1 h2 =>
    obtain ⟨y, z, rfl, h3, h4⟩ := h2.two
    exact ⟨_, y, z, rfl, h1, h3, h4⟩
theorem ds_par3 {i j l : Nat} {x y z : Str} {a b c : Expr} {px py pz pt pos : Pos} {kt k2 pt2} (hc : X.calm = true) (hN : X.N.Nodup) (hi : X.N[i]? = some x) (hj : X.N[j]? = some y) (hl : X.N[l]? = some z) (hij : i ≠ j) (hil : i ≠ l) (hjl : j ≠ l)
    (hx : X.env.scope.names.lookup x = some .local) (hy : X.env.scope.names.lookup y = some .local) (hz : X.env.scope.names.lookup z = some .local) (ha : PA X [a, b, c] (lA X.K A tl))
    (hw : swappedStores [.Tuple [.Name x px, .Name y py, .Name z pz] kt pt] (.Tuple [a, b, c] k2 pt2) X.env = pure (some [x, y, z]) := by rfl)
    (hs : swapsWithSole [.Tuple [.Name x px, .Name y py, .Name z pz] kt pt] (.Tuple [a, b, c] k2 pt2) pos.line X.env = pure false := by rfl) :
    PS X (.Assign [.Tuple [.Name x px, .Name y py, .Name z pz] kt pt] (.Tuple [a, b, c] k2 pt2) pos) (lS X.K A (dPar3 i j l tl)) :=
  simp_ (ps_par3 hc hN hi hj hl hij hil hjl hx hy hz ha hw hs) fun Dn σ H h => by
    obtain ⟨G, F, μ, δ, E, s, e, t, q⟩ := h
    refine ⟨G, F, μ, δ, _, s, e, t, fun ds μ1 vs G1 H1 t1 s1 st1 dt1 => ?_⟩
    split at t1
    · obtain ⟨u, v, w, rfl, d1, d2, d3⟩ := dt1.three
      exact ⟨u, v, w, rfl, q.nx _ _ _ _ _ t1 s1 st1 ((((e.mono s1).set d1 i).set d2 j).set d3 l)⟩
    · exact t1.elim
end

/-! ### while -/
def dWhileN (c : TDT) (tb : TDS) (E : DE) : Nat → Nv → Mu → Prop
  | 0, _, _ => False
  | n + 1, δ, μ => c δ μ fun b μ1 => if b = true then tb { nx := dWhileN c tb E n, rt := E.rt, bk := E.nx, ct := dWhileN c tb E n } δ μ1 else E.nx δ μ1
def dWhile (c : TDT) (tb : TDS) : TDS := fun E δ μ => ∃ n, dWhileN c tb E n δ μ
section
variable {X : Cx} {A : Amb} {pos : Pos} {tc : TDT} {tb : TDS}
theorem ds_while {c : Expr} {body : List Stmt} (hp : PassesOwn (model X.prog X.w) X.A X.env X.xe) (hc : PT X c (lT X.K A tc)) (hb : PSs X body (lS X.K A tb)) : PS X (.While c body [] pos) (lS X.K A (dWhile tc tb)) :=
  simp_ (ps_while hp hc hb) fun Dn σ H h => by
    obtain ⟨G, F, μ, δ, E, s, e, ⟨n, t⟩, q⟩ := h
    refine ⟨fun n σ H => ∃ G' μ δ, Same G G' ∧ Sta X.K A G' F μ H ∧ EnvR X.K G' σ δ ∧ dWhileN tc tb E n δ μ, ⟨n, G, μ, δ, Same.refl _, s, e, t⟩, fun m σ1 H1 w => ?_⟩
    obtain ⟨G1, μ1, δ1, s1, st1, e1, t1⟩ := w
    cases m with
    | zero => exact t1.elim
    | succ m =>
      refine ⟨G1, F, μ1, δ1, _, st1, e1, t1, fun b μ2 G2 H2 t2 s2 st2 => ?_⟩
      cases b with
      | false =>
        rw [if_neg Bool.false_ne_true] at t2 ⊢
        exact q.nx _ _ _ _ _ t2 (s1.trans s2) st2 (e1.mono s2)
      | true =>
        rw [if_pos rfl] at t2 ⊢
        refine ⟨fun σ H => ∃ G' μ δ, Same G G' ∧ Sta X.K A G' F μ H ∧ EnvR X.K G' σ δ ∧ dWhileN tc tb E m δ μ, fun σ' H' z => ⟨m, Nat.lt_succ_self _, z⟩, G2, F, μ2, δ1, _, st2, e1.mono s2, t2, ?_⟩
        have s12 := s1.trans s2
        exact ⟨fun δ3 μ3 σ3 G3 H3 t3 s3 st3 e3 => ⟨G3, μ3, δ3, s12.trans s3, st3, e3, t3⟩, q.rt.mono s12, q.nx.mono s12, fun δ3 μ3 σ3 G3 H3 t3 s3 st3 e3 => ⟨G3, μ3, δ3, s12.trans s3, st3, e3, t3⟩⟩
end

/-! ### for -/
def dForD (g : TDG) (tb : TDS) (E : DE) : List D → Nv → Mu → Prop
  | [], δ, μ => E.nx δ μ
  | d :: ds, δ, μ => g d δ μ fun δ1 μ1 => tb { nx := dForD g tb E ds, rt := E.rt, bk := E.nx, ct := dForD g tb E ds } δ1 μ1
def itemsD : D → Option (List D)
  | .tup ds => some ds
  | .lst ds => some ds
  | .ils ns => some (ns.map .int)
  | _ => none
/-- what a for walks: the items; they may be made one by one -/
abbrev TDI := Nv → Mu → (List D → Mu → Prop) → Prop
def diSeq (te : TDE) : TDI := fun δ μ R => te δ μ fun d μ1 => match itemsD d with
  | some ds => R ds μ1
  | none => False
def rangeD (lo : Int) (n : Nat) : List D := (List.range n).map fun (i : Nat) => D.int (lo + (i : Int))
def diRange1 (tl : TDA) : TDI := fun δ μ R => tl δ μ fun ds μ1 => match ds with
  | [.int j] => (-(2 ^ 62) ≤ j ∧ j < 2 ^ 62) ∧ R (rangeD 0 j.toNat) μ1
  | _ => False
def diRange2 (tl : TDA) : TDI := fun δ μ R => tl δ μ fun ds μ1 => match ds with
  | [.int i, .int j] => (-(2 ^ 62) ≤ i ∧ i < 2 ^ 62 ∧ -(2 ^ 62) ≤ j ∧ j < 2 ^ 62) ∧ R (rangeD i (j - i).toNat) μ1
  | _ => False
def pairD (i : Nat) (d : D) : D := .tup [.int i, d]
def enumD (ds : List D) : List D := ds.zipIdx.map fun p => pairD p.2 p.1
def diEnum (te : TDE) : TDI := fun δ μ R => te δ μ fun d μ1 => match d with
  | .lst ds => R (enumD ds) μ1
  | _ => False
def zipD (ds es : List D) : List D := List.zipWith (fun d e => .tup [d, e]) ds es
def dFor (wi : TDI) (g : TDG) (tb : TDS) : TDS := fun E δ μ => wi δ μ fun ds μ1 => dForD g tb E ds δ μ1
/-- a walk over items told as data: J walks what at turn i stands for the i-th of ds, and needs only that what stands still stays -/
structure WalkD (K : PySem.W.Frag) (A : Amb) (G : Hp) (J : It) (ds : List D) : Prop where
  stop : ∀ G' F μ H, Same G G' → Sta K A G' F μ H → J.stop ds.length H
  go : ∀ i d G' F μ H, ds[i]? = some d → Same G G' → Sta K A G' F μ H → J.go i H
  yld : ∀ i d G' F μ H x H', ds[i]? = some d → Same G G' → Sta K A G' F μ H → J.yld i H x H' → ∃ G2, Same G' G2 ∧ Sta K A G2 F μ H' ∧ Dt K G2 x d
def lI (K : PySem.W.Frag) (A : Amb) (t : TDI) : TI := fun σ H R => ∃ G F μ δ P, Sta K A G F μ H ∧ EnvR K G σ δ ∧ t δ μ P ∧ ∀ ds μ' G' H' J, P ds μ' → Same G G' → Sta K A G' F μ' H' → WalkD K A G' J ds → R J H'
theorem iimp {X : Cx} {tg e : Expr} {t t' : TI} (h : PI X tg e t) (i : ∀ σ H Q, t' σ H Q → t σ H Q) : PI X tg e t' := ⟨fun pins s σ H Q I x => h.run pins s σ H Q I (i σ H Q x)⟩
section
variable {X : Cx} {A : Amb} {pos : Pos} {tg : Expr} {te : TDE} {tl : TDA}
theorem pi_seq {l : Expr} {tl : TE} (hl : PE X l tl) : PI X tg l (fun σ H R => tl σ H fun x H1 => ∃ a, x = .ref a ∧ (((∃ xs, SqL X.K H1 a xs) ∧ R (Itl X.K a) H1) ∨ ((∃ xs, SqT X.K H1 a xs) ∧ R (Itt X.K a) H1))) := by
  refine ⟨fun pins s σ H R I h => ?_⟩
  refine thn (hl.run pins s σ H _ I h) fun v s1 ⟨x, H1, I1, r1, q1⟩ => ?_
  obtain ⟨a, ex, q1⟩ := q1
  subst ex
  cases r1
  rcases q1 with ⟨⟨xs, hq⟩, q⟩ | ⟨⟨xs, hq⟩, q⟩
  · obtain ⟨its, rv, p, hz⟩ := I1.list hq
    refine wpAny_pyIter_list p.isList ⟨s1.heap.objs.size, [s1.heap.objs.size], _, _, H1, rfl, I1.kept (t' := s1.toks) fun b o e => Heap.get?_push_of_some _ e, turn_list a _, ⟨_, Heap.get?_push_size _ rfl, rfl, rfl⟩, fun b hb => ?_, q⟩
    obtain rfl : b = s1.heap.objs.size := by simpa using hb
    exact I1.fpOk (Nat.le_refl _) (I1.hok.fresh (Nat.le_refl _))
  · obtain ⟨its, rv, p, hz⟩ := I1.tuple hq
    refine wpAny_pyIter_tuple (show s1.heap.IsTuple a its.toArray from p) ⟨s1.heap.objs.size, [s1.heap.objs.size], _, _, H1, rfl, I1.kept (t' := s1.toks) fun b o e => Heap.get?_push_of_some _ e, turn_tuple a _, ⟨_, Heap.get?_push_size _ rfl, rfl, rfl⟩, fun b hb => ?_, q⟩
    obtain rfl : b = s1.heap.objs.size := by simpa using hb
    exact I1.fpOk (Nat.le_refl _) (I1.hok.fresh (Nat.le_refl _))
theorem walk_lst {K : PySem.W.Frag} {G : Hp} {a : Addr} {xs : List V} {ds : List D} (h1 : SqL K G a xs) (h2 : DtA K G xs ds) : WalkD K A G (Itl K a) ds where
  stop := fun G' F μ H s st => ⟨xs, st.gh.seq (s.seq h1), by rw [h2.length]; exact Nat.le_refl _⟩
  go := fun i d G' F μ H e s st => by
    obtain ⟨v, e1, _⟩ := h2.get e
    exact ⟨xs, v, st.gh.seq (s.seq h1), e1⟩
  yld := fun i d G' F μ H x H' e s st y => by
    obtain ⟨e2, y⟩ := y
    subst e2
    obtain ⟨v, e1, r⟩ := h2.get e
    have e3 := y xs (st.gh.seq (s.seq h1))
    rw [e1] at e3
    cases e3
    exact ⟨G', Same.refl _, st, r.mono s⟩
theorem walk_tup {K : PySem.W.Frag} {G : Hp} {a : Addr} {xs : List V} {ds : List D} (h1 : SqT K G a xs) (h2 : DtA K G xs ds) : WalkD K A G (Itt K a) ds where
  stop := fun G' F μ H s st => ⟨xs, seqT st.gh (seqT s h1), by rw [h2.length]; exact Nat.le_refl _⟩
  go := fun i d G' F μ H e s st => by
    obtain ⟨v, e1, _⟩ := h2.get e
    exact ⟨xs, v, seqT st.gh (seqT s h1), e1⟩
  yld := fun i d G' F μ H x H' e s st y => by
    obtain ⟨e2, y⟩ := y
    subst e2
    obtain ⟨v, e1, r⟩ := h2.get e
    have e3 := y xs (seqT st.gh (seqT s h1))
    rw [e1] at e3
    cases e3
    exact ⟨G', Same.refl _, st, r.mono s⟩
theorem ints_dt {K : PySem.W.Frag} {G : Hp} : ∀ ns : List Int, DtA K G (ns.map V.int) (ns.map D.int)
  | [] => .nil
  | n :: ns => .cons (.int n) (ints_dt ns)
theorem di_seq {l : Expr} (hl : PE X l (lE X.K A te)) : PI X tg l (lI X.K A (diSeq te)) := iimp (pi_seq hl) fun σ H R h => by
  obtain ⟨G, F, μ, δ, P, s, e, t, q⟩ := h
  refine ⟨G, F, μ, δ, _, s, e, t, fun d μ1 v G1 H1 t1 s1 st1 dt1 => ?_⟩
  cases dt1 with
  | @tup a xs ds h1 h2 => exact ⟨a, rfl, .inr ⟨⟨xs, seqT st1.gh h1⟩, q _ _ _ _ _ t1 s1 st1 (walk_tup h1 h2)⟩⟩
  | @lst a xs ds h1 h2 => exact ⟨a, rfl, .inl ⟨⟨xs, SqL.of (st1.gh _ _ h1)⟩, q _ _ _ _ _ t1 s1 st1 (walk_lst (SqL.of h1) h2)⟩⟩
  | @ils a ns h1 => exact ⟨a, rfl, .inl ⟨⟨_, st1.gh.seq h1⟩, q _ _ _ _ _ t1 s1 st1 (walk_lst h1 (ints_dt ns))⟩⟩
  | _ => exact t1.elim
theorem rangeD_get {lo : Int} {n i : Nat} {d : D} (h : (rangeD lo n)[i]? = some d) : i < n ∧ d = .int (lo + i) := by
  unfold rangeD at h
  rw [List.getElem?_map] at h
  by_cases hi : i < n
  · rw [List.getElem?_range hi] at h
    cases h
    exact ⟨hi, rfl⟩
  · rw [List.getElem?_eq_none (by simpa using hi)] at h
    cases h
theorem walk_rng {K : PySem.W.Frag} {G : Hp} {lo : Int} {n : Nat} : WalkD K A G (Itr lo n) (rangeD lo n) where
  stop := fun G' F μ H s st => by
    show n ≤ (rangeD lo n).length
    unfold rangeD
    rw [List.length_map, List.length_range]
    exact Nat.le_refl _
  go := fun i d G' F μ H e s st => (rangeD_get e).1
  yld := fun i d G' F μ H x H' e s st y => by
    obtain ⟨e1, e2⟩ := y
    subst e1 e2
    rw [(rangeD_get e).2]
    exact ⟨G', Same.refl _, st, .int _⟩
theorem di_range1 {a : Expr} {p : Pos} (hm : X.mg "range" = none) (ha : PA X [a] (lA X.K A tl)) (hg : Gl X "range" := by rfl) (hs : starEach [a] X.env = [(false, eval a X.env)] := by rfl) : PI X tg (.Call (.Name "range" p) [a] [] pos) (lI X.K A (diRange1 tl)) := iimp (pi_range1 hg hm ha hs) fun σ H R h => by
  obtain ⟨G, F, μ, δ, P, s, e, t, q⟩ := h
  refine ⟨G, F, μ, δ, _, s, e, t, fun ds μ1 vs G1 H1 t1 s1 st1 dt1 => ?_⟩
  split at t1
  · obtain ⟨x, rfl, d1⟩ := dt1.one
    cases d1
    exact ⟨_, rfl, t1.1.1, t1.1.2, q _ _ _ _ _ t1.2 s1 st1 walk_rng⟩
  · exact t1.elim
theorem di_range2 {a b : Expr} {p : Pos} (hm : X.mg "range" = none) (ha : PA X [a, b] (lA X.K A tl)) (hg : Gl X "range" := by rfl) (hs : starEach [a, b] X.env = [(false, eval a X.env), (false, eval b X.env)] := by rfl) (hs2 : starEach [b] X.env = [(false, eval b X.env)] := by rfl) :
    PI X tg (.Call (.Name "range" p) [a, b] [] pos) (lI X.K A (diRange2 tl)) := iimp (pi_range2 hg hm ha hs hs2) fun σ H R h => by
  obtain ⟨G, F, μ, δ, P, s, e, t, q⟩ := h
  refine ⟨G, F, μ, δ, _, s, e, t, fun ds μ1 vs G1 H1 t1 s1 st1 dt1 => ?_⟩
  split at t1
  · obtain ⟨x, y, rfl, d1, d2⟩ := dt1.two
    cases d1
    cases d2
    exact ⟨_, _, rfl, t1.1, q _ _ _ _ _ t1.2 s1 st1 walk_rng⟩
  · exact t1.elim
variable {wi : TDI} {g : TDG} {tb : TDS}
theorem ds_for {iter : Expr} {body : List Stmt} (hp : PassesOwn (model X.prog X.w) X.A X.env X.xe) (hc : X.calm = true) (hi : PI X tg iter (lI X.K A wi)) (hg : PG X tg (lG X.K A g)) (hb : PSs X body (lS X.K A tb))
    (hs : ∀ x, foldedSetIterable iter X.env x = pure x := by intro _; rfl) : PS X (.For tg iter body [] pos) (lS X.K A (dFor wi g tb)) :=
  simp_ (ps_for hp hc hi hg hb hs) fun Dn σ H h => by
    obtain ⟨G, F, μ, δ, E, s, e, t, q⟩ := h
    refine ⟨G, F, μ, δ, _, s, e, t, fun ds μ0 G0 H0 J t0 s0 st0 wk => ?_⟩
    refine ⟨fun i m σ H => m = ds.length - i ∧ i ≤ ds.length ∧ ∃ G' μ δ, Same G0 G' ∧ Sta X.K A G' F μ H ∧ EnvR X.K G' σ δ ∧ dForD g tb E (ds.drop i) δ μ, ⟨ds.length, rfl, Nat.zero_le _, G0, μ0, δ, Same.refl _, st0, e.mono s0, t0⟩, ?_⟩
    rintro i m σ1 H1 ⟨rfl, hi, G1, μ1, δ1, s1, st1, e1, t1⟩
    by_cases hlt : i < ds.length
    · have ei : ds[i]? = some ds[i] := List.getElem?_eq_getElem hlt
      rw [List.drop_eq_getElem_cons hlt] at t1
      refine .inr ⟨wk.go i _ G1 F μ1 H1 ei s1 st1, fun σ H => ∃ G' μ δ, Same G0 G' ∧ Sta X.K A G' F μ H ∧ EnvR X.K G' σ δ ∧ dForD g tb E (ds.drop (i + 1)) δ μ, fun σ' H' z => ⟨ds.length - (i + 1), by omega, rfl, hlt, z⟩, fun x H2 y => ?_⟩
      obtain ⟨G2, s2, st2, d2⟩ := wk.yld i _ G1 F μ1 H1 x H2 ei s1 st1 y
      refine ⟨G2, F, μ1, δ1, _, _, st2, e1.mono s2, d2, t1, fun δ3 μ3 σ3 G3 H3 t3 s3 st3 e3 => ?_⟩
      have s13 := (s1.trans s2).trans s3
      refine ⟨G3, F, μ3, δ3, _, st3, e3, t3, ⟨fun δ4 μ4 σ4 G4 H4 t4 s4 st4 e4 => ⟨G4, μ4, δ4, s13.trans s4, st4, e4, t4⟩, q.rt.mono (s0.trans s13), q.nx.mono (s0.trans s13), fun δ4 μ4 σ4 G4 H4 t4 s4 st4 e4 => ⟨G4, μ4, δ4, s13.trans s4, st4, e4, t4⟩⟩⟩
    · have e9 : i = ds.length := by omega
      subst e9
      rw [List.drop_length] at t1
      exact .inl ⟨wk.stop G1 F μ1 H1 s1 st1, q.nx _ _ _ _ _ t1 (s0.trans s1) st1 e1⟩
end
end DL

set_option Elab.async false
set_option linter.all false
set_option maxRecDepth 100000
set_option maxHeartbeats 2000000
/-! DL5: comprehensions, enumerate, zip; a def's promise over data, its calls; raise; sorted of data. -/
namespace DL
open PySem PySem.Spec PyProof.Rows L2 HT

/-! ### enumerate, zip -/
section
variable {X : Cx} {A : Amb} {pos tpos : Pos} {te : TDE} {tl : TDA} {elts : List Expr} {kk : Nat}
theorem enumD_get {ds : List D} {i : Nat} {d : D} (h : (enumD ds)[i]? = some d) : ∃ x, ds[i]? = some x ∧ d = .tup [.int (i : Nat), x] := by
  unfold enumD at h
  rw [List.getElem?_map, List.getElem?_zipIdx] at h
  cases e : ds[i]? with
  | none => rw [e] at h; cases h
  | some x =>
    rw [e] at h
    have h' : pairD (0 + i) x = d := by simpa using h
    rw [Nat.zero_add] at h'
    exact ⟨x, rfl, h'.symm⟩
theorem walk_enum {K : PySem.W.Frag} {G : Hp} {a : Addr} {xs : List V} {ds : List D} (h1 : SqL K G a xs) (h2 : DtA K G xs ds) : WalkD K A G (Ite K a) (enumD ds) where
  stop := fun G' F μ H s st => ⟨xs, st.gh.seq (s.seq h1), by unfold enumD; rw [List.length_map, List.length_zipIdx, h2.length]; exact Nat.le_refl _⟩
  go := fun i d G' F μ H e s st => by
    obtain ⟨x, ex, _⟩ := enumD_get e
    obtain ⟨v, e1, _⟩ := h2.get ex
    exact ⟨xs, v, st.gh.seq (s.seq h1), e1⟩
  yld := fun i d G' F μ H x H' e s st y => by
    obtain ⟨T, z, rfl, nT, rfl, hz⟩ := y
    obtain ⟨dx, ex, rfl⟩ := enumD_get e
    obtain ⟨v, e1, r⟩ := h2.get ex
    have e3 := hz xs (st.gh.seq (s.seq h1))
    rw [e1] at e3
    cases e3
    obtain ⟨a1, a2, a3⟩ := new_tup st nT (.cons (.int _) (.cons (r.mono s) .nil))
    exact ⟨_, a1, a2, a3⟩
theorem di_enum {l : Expr} {p : Pos} (hm : X.mg "enumerate" = none) (hl : PE X l (lE X.K A te)) (hg : Gl X "enumerate" := by rfl) (hs : starEach [l] X.env = [(false, eval l X.env)] := by rfl) : PI X (.Tuple elts kk tpos) (.Call (.Name "enumerate" p) [l] [] pos) (lI X.K A (diEnum te)) :=
  iimp (pi_enum hg hm (pa_cons hl pa_nil hs) hs) fun σ H R h => by
    obtain ⟨G, F, μ, δ, P, s, e, t, q⟩ := h
    refine ⟨G, F, μ, δ, _, s, e, t, fun d μ1 v G1 H1 t1 s1 st1 dt1 => ?_⟩
    cases dt1 with
    | @lst a xs ds h1 h2 => exact ⟨a, xs, rfl, SqL.of (st1.gh _ _ h1), q _ _ _ _ _ t1 s1 st1 (walk_enum (SqL.of h1) h2)⟩
    | _ => exact t1.elim
def diZip (tl : TDA) : TDI := fun δ μ R => tl δ μ fun ds μ1 => match ds with
  | [.lst ds, .lst es] => R (zipD ds es) μ1
  | _ => False
theorem zipD_get {ds es : List D} {i : Nat} {d : D} (h : (zipD ds es)[i]? = some d) : ∃ x y, ds[i]? = some x ∧ es[i]? = some y ∧ d = .tup [x, y] := by
  unfold zipD at h
  rw [List.getElem?_zipWith] at h
  cases e1 : ds[i]? with
  | none => rw [e1] at h; simp at h
  | some x =>
    cases e2 : es[i]? with
    | none => rw [e1, e2] at h; simp at h
    | some y => rw [e1, e2] at h; simp at h; exact ⟨x, y, rfl, rfl, h.symm⟩
theorem walk_zip {K : PySem.W.Frag} {G : Hp} {a b : Addr} {xs ys : List V} {ds es : List D} (h1 : SqL K G a xs) (h2 : DtA K G xs ds) (k1 : SqL K G b ys) (k2 : DtA K G ys es) : WalkD K A G (Itz K a b) (zipD ds es) where
  stop := fun G' F μ H s st => ⟨xs, ys, st.gh.seq (s.seq h1), st.gh.seq (s.seq k1), by
    unfold zipD
    rw [List.length_zipWith, h2.length, k2.length]
    omega⟩
  go := fun i d G' F μ H e s st => by
    obtain ⟨x, y, ex, ey, _⟩ := zipD_get e
    obtain ⟨v, e1, _⟩ := h2.get ex
    obtain ⟨w, e2, _⟩ := k2.get ey
    exact ⟨xs, ys, v, w, st.gh.seq (s.seq h1), st.gh.seq (s.seq k1), e1, e2⟩
  yld := fun i d G' F μ H x H' e s st y => by
    obtain ⟨T, z, z2, rfl, nT, rfl, hz, hz2⟩ := y
    obtain ⟨dx, dy, ex, ey, rfl⟩ := zipD_get e
    obtain ⟨v, e1, r⟩ := h2.get ex
    obtain ⟨w, e2, r2⟩ := k2.get ey
    have e3 := hz xs (st.gh.seq (s.seq h1))
    rw [e1] at e3
    cases e3
    have e4 := hz2 ys (st.gh.seq (s.seq k1))
    rw [e2] at e4
    cases e4
    obtain ⟨a1, a2, a3⟩ := new_tup st nT (.cons (r.mono s) (.cons (r2.mono s) .nil))
    exact ⟨_, a1, a2, a3⟩
theorem di_zip {e e2 : Expr} {p : Pos} (hm : X.mg "zip" = none) (ha : PA X [e, e2] (lA X.K A tl)) (hg : Gl X "zip" := by rfl) (hs : starEach [e, e2] X.env = (false, eval e X.env) :: starEach [e2] X.env := by rfl) (hpl : (backTo pos (starEach [e2] X.env)).any (·.1) = false := by rfl) :
    PI X (.Tuple elts kk tpos) (.Call (.Name "zip" p) [e, e2] [] pos) (lI X.K A (diZip tl)) :=
  iimp (pi_zip hg hm ha hs hpl) fun σ H R h => by
    obtain ⟨G, F, μ, δ, P, s, e, t, q⟩ := h
    refine ⟨G, F, μ, δ, _, s, e, t, fun ds μ1 vs G1 H1 t1 s1 st1 dt1 => ?_⟩
    split at t1
    · obtain ⟨x, y, rfl, d1, d2⟩ := dt1.two
      cases d1 with
      | @lst a xs _ h1 h2 =>
        cases d2 with
        | @lst b ys _ k1 k2 => exact ⟨a, b, xs, ys, rfl, SqL.of (st1.gh _ _ h1), SqL.of (st1.gh _ _ k1), q _ _ _ _ _ t1 s1 st1 (walk_zip (SqL.of h1) h2 (SqL.of k1) k2)⟩
    · exact t1.elim
end

/-! ### comprehensions -/
def wipeD (δ : Nv) : List Nat → Nv
  | [] => δ
  | v :: vs => (wipeD δ vs).set v none
theorem EnvR.wipe {K : PySem.W.Frag} {G : Hp} {σ : L2.St} {δ : Nv} (h : EnvR K G σ δ) : ∀ vs : List Nat, EnvR K G (L2.wipe σ vs) (wipeD δ vs)
  | [] => h
  | v :: vs => (EnvR.wipe h vs).unset v
theorem wipe_at (σ : L2.St) {j : Nat} : ∀ {vs : List Nat}, j ∈ vs → j < σ.length → (wipe σ vs)[j]? = some none
  | v :: vs, h, hl => by
    unfold wipe
    by_cases e : v = j
    · subst e
      rw [List.getElem?_set_self (by rw [wipe_length]; exact hl)]
    · rw [List.getElem?_set_ne e]
      rcases List.mem_cons.mp h with z | z
      · exact absurd z.symm e
      · exact wipe_at σ z hl
theorem wipe_out2 {σ : L2.St} {i : Nat} : ∀ {vs : List Nat}, i ∉ vs → (wipe σ vs)[i]? = σ[i]?
  | [], _ => rfl
  | v :: vs, h => by
    have h1 : v ≠ i := fun e => h (by rw [e]; exact List.mem_cons_self)
    unfold wipe
    rw [List.getElem?_set_ne h1]
    exact wipe_out2 fun m => h (List.mem_cons_of_mem _ m)
theorem wipe_eq {σ τ : L2.St} {vs : List Nat} (hl : σ.length = τ.length) (h : ∀ i, i ∉ vs → σ[i]? = τ[i]?) : wipe σ vs = wipe τ vs := by
  refine List.ext_getElem? fun i => ?_
  by_cases hi : i ∈ vs
  · by_cases hb : i < σ.length
    · rw [wipe_at σ hi hb, wipe_at τ hi (by omega)]
    · rw [List.getElem?_eq_none (by rw [wipe_length]; omega), List.getElem?_eq_none (by rw [wipe_length]; omega)]
  · rw [wipe_out2 hi, wipe_out2 hi, h i hi]
/-- a target whose stores the block forgets -/
def TgR (K : PySem.W.Frag) (A : Amb) (vs : List Nat) (g : TG) (gd : TDG) : Prop :=
  ∀ (G F : Hp) (μ : Mu) (H : Hp) (σ : L2.St) (δ : Nv) (x : V) (d : D) (P : Nv → Mu → Prop) (Q : L2.St → Hp → Prop), Sta K A G F μ H → EnvR K G (wipe σ vs) δ → Dt K G x d → gd d δ μ P →
    (∀ σ2 δ2, P δ2 μ → EnvR K G σ2 δ2 → wipe σ2 vs = wipe σ vs → Q σ2 H) → g x (wipe σ vs) H Q
theorem tg_name {K : PySem.W.Frag} {A : Amb} {vs : List Nat} {i : Nat} (hi : i ∈ vs) : TgR K A vs (gName i) (dgN i) := by
  intro G F μ H σ δ x d P Q st e r t q
  refine q _ _ t (e.set r i) ?_
  rw [wipe_eq (σ := (wipe σ vs).set i (some x)) (τ := wipe σ vs) (by rw [List.length_set]) fun j hj => List.getElem?_set_ne fun z => hj (by rw [← z]; exact hi)]
  exact wipe_eq (wipe_length _ _) fun j hj => wipe_out2 hj
def gNs : List Nat → TGs
  | [] => gNil
  | i :: is => gCons (gName i) (gNs is)
def dgNs : List Nat → TDGs
  | [] => dgNil
  | i :: is => dgCons (dgN i) (dgNs is)
theorem gNs_of {K : PySem.W.Frag} {G : Hp} {vs : List Nat} {τ : L2.St} {μ : Mu} {H : Hp} {P : Nv → Mu → Prop} {Q : L2.St → Hp → Prop} (q : ∀ σ2 δ2, P δ2 μ → EnvR K G σ2 δ2 → wipe σ2 vs = τ → Q σ2 H) :
    ∀ {is : List Nat} {ds : List D} {xs : List V} {σ : L2.St} {δ : Nv}, (∀ i ∈ is, i ∈ vs) → EnvR K G σ δ → wipe σ vs = τ → DtA K G xs ds → dgNs is ds δ μ P → gNs is xs σ H Q
  | [], ds, xs, σ, δ, hi, e, w, r, t => by
    unfold dgNs dgNil at t
    split at t
    · cases r
      exact ⟨rfl, q _ _ t e w⟩
    · exact t.elim
  | i :: is, ds, xs, σ, δ, hi, e, w, r, t => by
    unfold dgNs dgCons at t
    split at t
    · cases r with
      | cons r1 r2 =>
        refine ⟨_, _, rfl, gNs_of q (fun j hj => hi j (List.mem_cons_of_mem _ hj)) (e.set r1 i) ?_ r2 t⟩
        rw [wipe_eq (τ := σ) (by rw [List.length_set]) fun j hj => List.getElem?_set_ne fun z => hj (by rw [← z]; exact hi i List.mem_cons_self)]
        exact w
    · exact t.elim
theorem tg_tup {K : PySem.W.Frag} {A : Amb} {vs is : List Nat} {n : Nat} (hi : ∀ i ∈ is, i ∈ vs) : TgR K A vs (gTup K n (gNs is)) (dgT n (dgNs is)) := by
  intro G F μ H σ δ x d P Q st e r t q
  unfold dgT at t
  split at t
  · cases r with
    | @tup a xs ds h1 h2 =>
      refine ⟨a, xs, rfl, seqT st.gh h1, by rw [h2.length]; exact t.1, gNs_of q hi e ?_ h2 t.2⟩
      exact wipe_eq (wipe_length _ _) fun j hj => wipe_out2 hj
  · exact t.elim
def dYes : TDT := fun _ μ P => P true μ
def dLcD (g : TDG) (tt : TDT) (te : TDE) (δw : Nv) (P : List D → Mu → Prop) : List D → List D → Mu → Prop
  | [], acc, μ => P acc μ
  | d :: ds, acc, μ => g d δw μ fun δ2 μ2 => tt δ2 μ2 fun b μ3 => if b = true then te δ2 μ3 fun y μ4 => acc.length < sizeLine ∧ dLcD g tt te δw P ds (acc ++ [y]) μ4 else dLcD g tt te δw P ds acc μ3
def dLc (wi : TDI) (g : TDG) (tt : TDT) (te : TDE) (vs : List Nat) : TDE := fun δ μ P => wi δ μ fun ds μ1 => dLcD g tt te (wipeD δ vs) (fun acc μ2 => P (.lst acc) μ2) ds [] μ1
/-- .. the new list will change -/
def dLcM (wi : TDI) (g : TDG) (tt : TDT) (te : TDE) (vs : List Nat) : TDE := fun δ μ P => wi δ μ fun ds μ1 => dLcD g tt te (wipeD δ vs) (fun acc μ2 => ∀ p, μ2 p = none → P (.ref p) (mset μ2 p (.lst acc))) ds [] μ1
theorem ptsimp {X : Cx} {e : List Expr} {t t' : TT} (h : PTs X e t) (i : ∀ σ H Q, t' σ H Q → t σ H Q) : PTs X e t' := ⟨fun pins s σ H Q I x => h.run pins s σ H Q I (i σ H Q x)⟩
section
variable {X : Cx} {A : Amb} {wi : TDI} {gd : TDG} {tt : TDT} {te : TDE} {g : TG} {vs : List Nat}
theorem dts_nil : PTs X [] (lT X.K A dYes) := ptsimp pts_nil fun σ H Q h => by
  obtain ⟨G, F, μ, δ, P, s, e, t, q⟩ := h
  exact q _ _ _ _ t (Same.refl _) s
theorem dts_one {c : Expr} {t : TDT} (h : PT X c (lT X.K A t)) : PTs X [c] (lT X.K A t) := pts_one h
theorem lE_lc0 {K : PySem.W.Frag} (hg : TgR K A vs g gd) {σ : L2.St} {H : Hp} {Q : VK} {R : (List D → Mu → Prop) → DK → Prop}
    (h : ∃ G F μ δ P Z, Sta K A G F μ H ∧ EnvR K G σ δ ∧ (wi δ μ fun ds μ1 => dLcD gd tt te (wipeD δ vs) Z ds [] μ1) ∧ PoV K A F G P Q ∧
      ∀ acc μ2 G2 H2 p accV, Z acc μ2 → Same G G2 → Sta K A G2 (upd F p (.lst accV)) μ2 H2 → A.F0 p = none → F p = none → DtA K G2 accV acc → Q (.ref p) H2) : tLc (lI K A wi) g (lT K A tt) (lE K A te) vs σ H Q := by
  obtain ⟨G, F, μ, δ, P, Z, s, e, t, q, fin⟩ := h
  refine ⟨G, F, μ, δ, _, s, e, t, fun ds μ0 G0 H0 J t0 s0 st0 wk Dn hD => ?_⟩
  have hF : F Dn = none := st0.nf hD
  have hF0 : A.F0 Dn = none := st0.f0.free hF
  refine ⟨fun i m H => m = ds.length - i ∧ i ≤ ds.length ∧ ∃ G' μ acc accV, Same G0 G' ∧ Sta K A G' (upd F Dn (.lst accV)) μ H ∧ DtA K G' accV acc ∧ dLcD gd tt te (wipeD δ vs) Z (ds.drop i) acc μ, ⟨ds.length, rfl, Nat.zero_le _, G0, μ0, [], [], Same.refl _, st0.frame hD rfl, .nil, t0⟩, ?_⟩
  rintro i m H1 ⟨rfl, hi, G1, μ1, acc, accV, s1, st1, ra, t1⟩
  by_cases hlt : i < ds.length
  · have ei : ds[i]? = some ds[i] := List.getElem?_eq_getElem hlt
    rw [List.drop_eq_getElem_cons hlt] at t1
    refine .inr ⟨wk.go i _ G1 _ μ1 H1 ei s1 st1, fun H => ∃ G' μ acc accV, Same G0 G' ∧ Sta K A G' (upd F Dn (.lst accV)) μ H ∧ DtA K G' accV acc ∧ dLcD gd tt te (wipeD δ vs) Z (ds.drop (i + 1)) acc μ, fun H' z => ⟨ds.length - (i + 1), by omega, rfl, hlt, z⟩, fun x H2 y => ?_⟩
    obtain ⟨G2, s2, st2, d2⟩ := wk.yld i _ G1 _ μ1 H1 x H2 ei s1 st1 y
    have ew : EnvR K G2 (wipe σ vs) (wipeD δ vs) := ((e.mono (s0.trans s1)).mono s2).wipe vs
    refine hg G2 _ μ1 H2 σ _ x _ _ _ st2 ew d2 t1 fun σ2 δ2 t2 e2 w2 => ⟨w2, ?_⟩
    refine ⟨G2, _, μ1, δ2, _, st2, e2, t2, fun b μ3 G3 H3 t3 s3 st3 => ?_⟩
    cases b with
    | false =>
      rw [if_neg Bool.false_ne_true] at t3 ⊢
      exact ⟨G3, μ3, acc, accV, (s1.trans s2).trans s3, st3, (ra.mono s2).mono s3, t3⟩
    | true =>
      rw [if_pos rfl] at t3 ⊢
      refine ⟨G3, _, μ3, δ2, _, st3, e2.mono s3, t3, fun yd μ4 v4 G4 H4 t4 s4 st4 dt4 => ?_⟩
      have eF : upd F Dn (.lst accV) Dn = some (.lst accV) := upd_same
      have ra4 := ((ra.mono s2).mono s3).mono s4
      refine ⟨accV, st4.fh _ _ eF, by rw [ra.length]; exact t4.1, G4, μ4, acc ++ [yd], accV ++ [v4], ((s1.trans s2).trans s3).trans s4, ?_, ra4.append (.cons dt4 .nil), t4.2⟩
      have st5 := st4.reframe (o := .lst (accV ++ [v4])) hF0 eF rfl rfl
      rw [upd_upd] at st5
      exact st5
  · have e9 : i = ds.length := by omega
    subst e9
    rw [List.drop_length] at t1
    exact .inl ⟨wk.stop G1 _ μ1 H1 s1 st1, fin acc μ1 G1 H1 Dn accV t1 (s0.trans s1) st1 hF0 hF ra⟩
theorem lE_lc {K : PySem.W.Frag} (hg : TgR K A vs g gd) : ∀ σ H Q, lE K A (dLc wi gd tt te vs) σ H Q → tLc (lI K A wi) g (lT K A tt) (lE K A te) vs σ H Q := by
  rintro σ H Q ⟨G, F, μ, δ, P, s, e, t, q⟩
  refine lE_lc0 (R := fun _ _ => True) hg ⟨G, F, μ, δ, P, _, s, e, t, q, fun acc μ2 G2 H2 p accV z s2 st2 f0 f1 ra => ?_⟩
  have nG : G2 p = none := by
    cases eg : G2 p with
    | none => rfl
    | some x => have w := st2.gf p x eg; rw [upd_same] at w; cases w
  exact q _ _ _ _ _ z (s2.trans (same_upd nG)) (st2.unframe f0 f1) (.lst upd_same (ra.mono (same_upd nG)))
theorem Sta.unframeM {K : PySem.W.Frag} {G F : Hp} {μ : Mu} {H : Hp} {p : Addr} {xs : List V} {ds : List D} (s : Sta K A G (upd F p (.lst xs)) μ H) (hF0 : A.F0 p = none) (h0 : F p = none) (ra : DtA K G xs ds) : Sta K A G F (mset μ p (.lst ds)) H := by
  have hHp : H p = some (.lst xs) := s.fh _ _ upd_same
  have hGp : G p = none := by
    cases e : G p with
    | none => rfl
    | some x => have q := s.gf p x e; rw [upd_same] at q; cases q
  have hm : μ p = none := s.fm p _ upd_same
  refine ⟨s.g0, fun b x e => by have q := s.f0 _ _ e; rw [upd_ne (ne_of_none e hF0)] at q; exact q, s.gh, fun b x e => s.fh _ _ (by rw [upd_ne (ne_of_none e h0)]; exact e), fun b x e => ?_, fun b x e => ?_, fun b x e => ?_, fun a m e => ?_, s.tb, s.gt, fun b ps e => s.ft b ps (by rw [upd_ne (ne_of_none e h0)]; exact e)⟩
  · have q := s.gf b x e
    by_cases h : b = p
    · rw [h]; exact h0
    · rw [upd_ne h] at q; exact q
  · rw [mset_ne (ne_of_none e hGp)]; exact s.gm _ _ e
  · rw [mset_ne (ne_of_none e h0)]; exact s.fm b x (by rw [upd_ne (ne_of_none e h0)]; exact e)
  · by_cases h : a = p
    · rw [h, mset_same] at e
      cases e
      rw [h]; exact ⟨xs, hHp, ra⟩
    · rw [mset_ne h] at e; exact s.mo a m e
theorem lE_lcM {K : PySem.W.Frag} (hg : TgR K A vs g gd) : ∀ σ H Q, lE K A (dLcM wi gd tt te vs) σ H Q → tLc (lI K A wi) g (lT K A tt) (lE K A te) vs σ H Q := by
  rintro σ H Q ⟨G, F, μ, δ, P, s, e, t, q⟩
  refine lE_lc0 (R := fun _ _ => True) hg ⟨G, F, μ, δ, P, _, s, e, t, q, fun acc μ2 G2 H2 p accV z s2 st2 f0 f1 ra => ?_⟩
  exact q _ _ _ _ _ (z p (st2.fm p _ upd_same)) s2 (st2.unframeM f0 f1 ra) (.ref p)
theorem de_lc {elt tg iter : Expr} {ifs : List Expr} {scope : Scope} {own : List (Str × Nat)} {pos : Pos} (hc : X.calm = true) (hN : X.N.Nodup) (hi : PI X tg iter (lI X.K A wi)) (ok : BlkOk X.N X.env.scope scope own) (hgr : TgR X.K A (own.map (·.2)) g gd)
    (hg : ∀ (s : Shared) (H : Hp) (C : Addr) (cl : List (Str × Addr)) (fp : List Addr), PG (X.blk s H scope (compEnvC scope cl C X.env) fp) tg g) (ht : ∀ (s : Shared) (H : Hp) (C : Addr) (cl : List (Str × Addr)) (fp : List Addr), PTs (X.blk s H scope (compEnvC scope cl C X.env) fp) ifs (lT X.K A tt))
    (he : ∀ (s : Shared) (H : Hp) (C : Addr) (cl : List (Str × Addr)) (fp : List Addr), PE (X.blk s H scope (compEnvC scope cl C X.env) fp) elt (lE X.K A te)) (hs : ∀ x, foldedSetIterable iter X.env x = pure x := by intro _; rfl) :
    PE X (.ListComp elt [⟨tg, iter, ifs, 0⟩] scope pos) (lE X.K A (dLc wi gd tt te (own.map (·.2)))) := PE.imp (pe_lc hc hN hi ok hg ht he hs) (lE_lc hgr)
theorem ds_setLc {i : Nat} {y : Str} {py : Pos} {elt tg iter : Expr} {ifs : List Expr} {scope : Scope} {own : List (Str × Nat)} {pos spos : Pos} (hc : X.calm = true) (hN : X.N.Nodup) (hy : X.N[i]? = some y) (hyl : X.env.scope.names.lookup y = some .local)
    (hsw : swapsWith (.ListComp elt [⟨tg, iter, ifs, 0⟩] scope pos) (some (.Name y py)) spos.line X.env = pure true) (hi : PI X tg iter (lI X.K A wi)) (ok : BlkOk X.N X.env.scope scope own) (hgr : TgR X.K A (own.map (·.2)) g gd)
    (hg : ∀ (s : Shared) (H : Hp) (C : Addr) (cl : List (Str × Addr)) (fp : List Addr), PG (X.blk s H scope (compEnvC scope cl C X.env) fp) tg g) (ht : ∀ (s : Shared) (H : Hp) (C : Addr) (cl : List (Str × Addr)) (fp : List Addr), PTs (X.blk s H scope (compEnvC scope cl C X.env) fp) ifs (lT X.K A tt))
    (he : ∀ (s : Shared) (H : Hp) (C : Addr) (cl : List (Str × Addr)) (fp : List Addr), PE (X.blk s H scope (compEnvC scope cl C X.env) fp) elt (lE X.K A te)) (hs : ∀ x, foldedSetIterable iter X.env x = pure x := by intro _; rfl) :
    PS X (.Assign [.Name y py] (.ListComp elt [⟨tg, iter, ifs, 0⟩] scope pos) spos) (lS X.K A (dAsg (dLc wi gd tt te (own.map (·.2))) (dgN i))) :=
  simp_ (ps_setLc hc hN hy hyl hsw hi ok hg ht he hs) fun Dn σ H h => lS_asg h (lE_lc hgr) fun _ _ _ _ h => lG_name h
end

/-! ### a def's promise over data -/
abbrev DSpec := List D → Mu → DK → (Value → Mu → Prop) → Prop
/-- what is wished of an exception, by its class and the names -/
abbrev WD := Value → Nv → Mu → Prop
def LinkW (K : PySem.W.Frag) (A : Amb) (W : WX) (Wd : WD) : Prop := ∀ cls σ δ μ G F H, Wd cls δ μ → Sta K A G F μ H → EnvR K G σ δ → W cls none σ H
def spD (K : PySem.W.Frag) (T : List (Addr × Str)) (spec : DSpec) : Sp := fun vs H Q E => ∃ G F μ ds P Pe, Sta K ⟨T, G, F⟩ G F μ H ∧ DtA K G vs ds ∧ spec ds μ P Pe ∧ PoV K ⟨T, G, F⟩ F G P Q ∧ ∀ cls μ' G' H', Pe cls μ' → Sta K ⟨T, G, F⟩ G' F μ' H' → E cls none H'
section
variable {K : PySem.W.Frag} {A : Amb} {G F G' : Hp} {μ μ' : Mu} {H H' : Hp}
theorem Sta.enter (s : Sta K A G F μ H) : Sta K ⟨A.T, G, F⟩ G F μ H := ⟨Same.refl _, Same.refl _, s.gh, s.fh, s.gf, s.gm, s.fm, s.mo, s.tb, s.gt, s.ft⟩
theorem Sta.back (s : Sta K A G F μ H) (t : Sta K ⟨A.T, G, F⟩ G' F μ' H') : Sta K A G' F μ' H' := ⟨s.g0.trans t.g0, s.f0, t.gh, t.fh, t.gf, t.gm, t.fm, t.mo, t.tb, t.gt, t.ft⟩
/-- less is set aside -/
theorem Sta.lessF {F' : Hp} (s : Sta K A G F μ H) (h : Same F' F) (h0 : Same A.F0 F') : Sta K A G F' μ H := ⟨s.g0, h0, s.gh, h.trans s.fh, fun b o e => h.free (s.gf b o e), s.gm, fun b o e => s.fm b o (h _ _ e), s.mo, s.tb, s.gt, fun b ps e => s.ft b ps (h _ _ e)⟩
end
def dCallF (spec : DSpec) (Wd : WD) (tl : TDA) : TDE := fun δ μ P => tl δ μ fun ds μ1 => spec ds μ1 P fun cls μ2 => Wd cls δ μ2
section
variable {X : Cx} {A : Amb} {spec : DSpec} {Wd : WD} {W : WX} {tl : TDA} {k : Nat} {f : Addr} {fd : FuncData} {ps : List Str} {x : Str} {p pos : Pos} {e : Expr} {es : List Expr}
theorem lE_callF (lk : LinkW X.K A W Wd) : ∀ σ H Q, lE X.K A (dCallF spec Wd tl) σ H Q → tCallS (spD X.K A.T spec) (WE W) (lA X.K A tl) σ H Q := by
  rintro σ H Q ⟨G, F, μ, δ, P, s, e, t, q⟩
  refine ⟨G, F, μ, δ, _, s, e, t, fun ds μ1 vs G1 H1 t1 s1 st1 dt1 => ?_⟩
  refine ⟨G1, F, μ1, ds, P, _, st1.enter, dt1, t1, fun d μ2 v G2 H2 t2 s2 st2 dt2 => q _ _ _ _ _ t2 (s1.trans s2) (st1.back st2) dt2, fun cls μ2 G2 H2 t2 st2 => ?_⟩
  exact lk cls σ δ μ2 G2 F H2 t2 (st1.back st2) (e.mono (s1.trans st2.g0))
theorem de_call (Fn : FnOk X.prog X.w X.K X.mg X.base (L2N.CX X.prog X.w) k f fd ps (spD X.K A.T spec)) (hr : Room k X.A) (hm : X.mg x = some (.ref f)) (hk : PySem.W.keepIn X.K (.ref f) = true) (hb : Binds X.K fd ps []) (tk : L2N.Takes X W) (lk : LinkW X.K A W Wd) (ha : PA X (e :: es) (lA X.K A tl))
    (hg : Gl X x := by rfl) (hdb : (x == ("__debug__" : Str)) = false := by decide) (he : starEach (e :: es) X.env = (false, eval e X.env) :: starEach es X.env := by rfl) (hpl : (backTo pos (starEach es X.env)).any (·.1) = false := by rfl) :
    PE X (.Call (.Name x p) (e :: es) [] pos) (lE X.K A (dCallF spec Wd tl)) := PE.imp (pe_callS Fn hr hg hm hk hb (fun σ => L2N.passAt tk σ) ha hdb he hpl) (lE_callF lk)
theorem pe_callS0 {sp : Sp} {E : L2.St → XK} (Fn : FnOk X.prog X.w X.K X.mg X.base (L2N.CX X.prog X.w) k f fd ps sp) (hr : Room k X.A) (hg : Gl X x) (hm : X.mg x = some (.ref f)) (hk : PySem.W.keepIn X.K (.ref f) = true) (hb : Binds X.K fd ps []) (hx : ∀ σ, PassesAt (L2N.CX X.prog X.w) X σ (E σ))
    (hdb : (x == ("__debug__" : Str)) = false := by decide) : PE X (.Call (.Name x p) [] [] pos) (tCallS sp E tNil) := by
  refine ⟨fun pins s σ H Q I h => ?_⟩
  refine wpAny_Call_Name_kw (ld_glob I hg hm ?_ hdb)
  exact PySem.W.callWith_K0 I.kIn hk (run_fnS (us := []) Fn hr hb (hx σ) I .nil h)
theorem de_call0 (Fn : FnOk X.prog X.w X.K X.mg X.base (L2N.CX X.prog X.w) k f fd ps (spD X.K A.T spec)) (hr : Room k X.A) (hm : X.mg x = some (.ref f)) (hk : PySem.W.keepIn X.K (.ref f) = true) (hb : Binds X.K fd ps []) (tk : L2N.Takes X W) (lk : LinkW X.K A W Wd)
    (hg : Gl X x := by rfl) (hdb : (x == ("__debug__" : Str)) = false := by decide) : PE X (.Call (.Name x p) [] [] pos) (lE X.K A (dCallF spec Wd dNil)) := PE.imp (pe_callS0 Fn hr hg hm hk hb (fun σ => L2N.passAt tk σ) hdb) fun σ H Q h => by
  obtain ⟨G, F, μ, δ, P, s, e, t, q⟩ := h
  refine ⟨G, F, μ, [], P, _, s.enter, .nil, t, fun d μ2 v G2 H2 t2 s2 st2 dt2 => q _ _ _ _ _ t2 s2 (s.back st2) dt2, fun cls μ2 G2 H2 t2 st2 => ?_⟩
  exact lk cls σ δ μ2 G2 F H2 t2 (s.back st2) (e.mono st2.g0)
/-! in a block nothing is let out -/
theorem tk0 : L2N.Takes X (fun _ _ _ _ => False) := fun u s' h => by
  obtain ⟨_, _, _, _, _, _, _, _, _, _, _, _, _, _, _, _, z⟩ := h
  exact z.elim
theorem lk0 {K : PySem.W.Frag} : LinkW K A (fun _ _ _ _ => False) (fun _ _ _ => False) := fun _ _ _ _ _ _ _ h _ _ => h
/-- raise X('m') -/
def dRaise (cls : Value) (Wd : WD) : TDS := fun _ δ μ => Wd cls δ μ
theorem ds_raise {C : Addr} {m : Str} {j : Nat} {p2 pos2 : Pos} {bmB : List Value} {B newId initId : String} (hc : X.calm = true) (tk : L2N.Takes X W) (lk : LinkW X.K A W Wd) (Fx : ExcBaseFacts B newId initId bmB) (q : PySem.W.excIn X.K C bmB newId = true) (gC : X.mg x = some (.ref C))
    (kC : PySem.W.keepIn X.K (.ref C) = true) (r : Raises X (.ref C)) (hg : Gl X x := by rfl) (hdb : (x == ("__debug__" : Str)) = false := by decide) : PS X (.Raise (some (.Call (.Name x p) [.Constant (.str m) j p2] [] pos)) none pos2) (lS X.K A (dRaise (.ref C) Wd)) :=
  simp_ (L2N.ps_raise hc tk (L2N.pmk_own Fx q gC kC r hg hdb)) fun Dn σ H h => by
    obtain ⟨G, F, μ, δ, E, s, e, t, q⟩ := h
    exact lk _ _ _ _ _ _ _ t s e
end
/-- the names at a def's entry -/
def startD (N : List Str) (ds : List D) : Nv := ds.map some ++ List.replicate (N.length - ds.length) none
section
variable {P : Program} {w : World} {K : PySem.W.Frag} {mg : Str → Option Value} {base : Heap}
theorem fn_ok {x qual : Str} {st : Stmt} {f : Addr} {fd : FuncData} {N ps : List Str} {k : Nat} {T : List (Addr × Str)} {spec : DSpec} {t : WD → TDS} (Fu : Fun K x qual st f fd) (S : FnScope N ps (defScope st))
    (hbody : ∀ (cdv : Value) (A0 : Around) (outer : List Env) (s : Shared) (H : Hp) (E : XK) (G0 F0 : Hp) (Wd : WD), Room k (A0.deeper (envOfC qual (defScope st) s.heap.objs.size f cdv)) → LinkW K ⟨T, G0, F0⟩ (fun cls d _ H => E cls d H) Wd →
      PSs (cxOf (L2N.CX P w) P w K mg base N qual (defScope st) f cdv A0 outer s H E) (defBody st) (lS K ⟨T, G0, F0⟩ (t Wd)))
    (len : ∀ ds μ P Pe, spec ds μ P Pe → ds.length = ps.length)
    (sem : ∀ ds μ P Pe, spec ds μ P Pe → t (fun cls _ μ => Pe cls μ) { nx := fun _ μ => P .non μ, rt := P } (startD N ds) μ) : FnOk P w K mg base (L2N.CX P w) (k + 1) f fd ps (spD K T spec) := by
  have len' : ∀ vs H Q E, spD K T spec vs H Q E → vs.length = ps.length := fun vs H Q E h => by
    obtain ⟨G, F, μ, ds, P, Pe, s, d, h, _⟩ := h
    rw [d.length]; exact len _ _ _ _ h
  obtain ⟨oc, od, kV, doc, pm, an, cdv, ct, osl, rfl, lk, hcd⟩ := Fu.ex
  refine fn_of lk hcd S len' fun A0 outer s H vs Q E hr hsp => ?_
  obtain ⟨G, F, μ, ds, P', Pe, st, d, h, q, qe⟩ := hsp
  refine ⟨_, hbody cdv A0 outer s H E G F (fun cls _ μ => Pe cls μ) hr (fun cls σ δ μ' G' F' H' hw st' e' => qe cls μ' G' H' hw (st'.lessF (F' := F) st'.f0 (Same.refl _))), ?_⟩
  refine ⟨G, F, μ, startD N ds, _, st, ?_, sem ds μ P' Pe h, ⟨fun δ μ' σ G' H' z s' st' e' => q _ _ _ _ _ z s' st' .non, q, fun _ _ _ _ _ z => z.elim, fun _ _ _ _ _ z => z.elim⟩⟩
  unfold startD L2.start
  rw [← d.length]
  exact EnvR.of_args _ d
/-- what stands around a def's body for an exception -/
theorem tkD {N : List Str} {qual : Str} {scope : Scope} {f : Addr} {cdv : Value} {A0 : Around} {outer : List Env} {s : Shared} {H : Hp} {E : XK} : L2N.Takes (cxOf (L2N.CX P w) P w K mg base N qual scope f cdv A0 outer s H E) (fun cls d _ H => E cls d H) := L2N.takes_of rfl rfl rfl rfl
theorem hpD {N : List Str} {qual : Str} {scope : Scope} {f : Addr} {cdv : Value} {A0 : Around} {outer : List Env} {s : Shared} {H : Hp} {E : XK} : PassesOwn (model P w) (cxOf (L2N.CX P w) P w K mg base N qual scope f cdv A0 outer s H E).A (cxOf (L2N.CX P w) P w K mg base N qual scope f cdv A0 outer s H E).env (cxOf (L2N.CX P w) P w K mg base N qual scope f cdv A0 outer s H E).xe := passes_of (K := fun e s'' => L2N.CX P w outer H s E e s'') (E₁ := fun e s'' => L2N.CX P w outer H s E e s'') rfl
end

/-! ### sorted of data -/
theorem mono_eachIs {R S : Value → D → Prop} : ∀ {vs : List Value} {ds : List D}, PySem.W.EachIs R vs ds → (∀ v d, R v d → S v d) → PySem.W.EachIs S vs ds := fun h i => h.mono i
def dSorted : DCl := fun ds μ P => match ds with
  | [.lst ds] => okDA 7 ds = true ∧ PySem.W.AllAlike (ds.map py) ∧ PySem.W.Sortable (ds.map py) ∧ P (.lst (ds.mergeSort (PySem.W.dataLe false py))) μ
  | _ => False
end DL

set_option Elab.async false
set_option linter.all false
set_option maxRecDepth 100000
set_option maxHeartbeats 2000000
/-! DL5b: sorted of data; texts joined; membership. -/
namespace DL
open PySem PySem.Spec PyProof.Rows L2 HT
section
variable {X : Cx} {A : Amb}
theorem each_of {K : PySem.W.Frag} {G : Hp} : ∀ {ds : List D} {vs : List V} {us : List Value}, DtA K G vs ds → Vals vs us → PySem.W.EachIs (fun u d => ∃ v, RelV v u ∧ Dt K G v d) us ds
  | [], _, _, h, r => by cases h; cases r; exact .nil
  | d :: ds, _, _, h, r => by
    cases h with
    | cons h1 h2 =>
      cases r with
      | cons r1 r2 => exact .cons ⟨_, r1, h1⟩ (each_of h2 r2)
theorem of_each {K : PySem.W.Frag} {G : Hp} : ∀ {us : List Value} {ds : List D}, PySem.W.EachIs (fun u d => ∃ v, RelV v u ∧ Dt K G v d) us ds → ∃ vs, DtA K G vs ds ∧ Vals vs us
  | _, _, .nil => ⟨[], .nil, .nil⟩
  | _, _, .cons ⟨v, r, h⟩ t => by
    obtain ⟨vs, h2, r2⟩ := of_each t
    exact ⟨v :: vs, .cons h h2, .cons r r2⟩
theorem okDA_mem {n : Nat} : ∀ {ds : List D} {d : D}, okDA n ds = true → d ∈ ds → okD n d = true
  | e :: ds, d, h, hm => by
    rw [okDA, Bool.and_eq_true] at h
    rcases List.mem_cons.mp hm with z | z
    · rw [z]; exact h.1
    · exact okDA_mem h.2 z
theorem each_mem2 {α β : Type} {R : α → β → Prop} : ∀ {as : List α} {bs : List β}, PySem.W.EachIs R as bs → PySem.W.EachIs (fun a b => R a b ∧ b ∈ bs) as bs
  | _, _, .nil => .nil
  | _, _, .cons h t => .cons ⟨h, List.mem_cons_self⟩ ((each_mem2 t).mono fun a b h => ⟨h.1, List.mem_cons_of_mem _ h.2⟩)
theorem cd_sorted (hu : X.A.units + 64 < cLine) : CallR X (.builtin "sorted") (lC X.K A dSorted) := by
  intro pins s σ H vs us Q I r h
  obtain ⟨G, F, μ, ds, P, st, dx, t, q⟩ := h
  unfold dSorted at t
  split at t
  · rename_i ds
    obtain ⟨x, rfl, d1⟩ := dx.one
    obtain ⟨ok, hal, hk, t⟩ := t
    cases d1 with
    | @lst a xs _ h1 h2 =>
      obtain ⟨its, rv, hl, hz⟩ := I.list (SqL.of (st.gh _ _ h1))
      rw [Vals.ref1 r]
      have e := each_of h2 rv
      have er : PySem.W.EachIs (fun v b => ∃ as, Reads s.heap v (py b) as) its ds := (each_mem2 e).mono fun u d ⟨⟨v, rr, hd⟩, hm⟩ => Dp.reads I (py d) v u (dp_of st.gh 7 d v (okDA_mem ok hm) hd) rr
      refine PySem.W.sorted_data hl.isList e er hal hk (by rw [← h2.length]; exact hz) (fun d hm => ?_) fun out hlen hout => ?_
      · have q := (py_ok 7 d (okDA_mem ok hm)).2
        omega
      · obtain ⟨xs', h3, r3⟩ := of_each hout
        obtain ⟨ep, he'⟩ := PyProof.Rows.sortedAll_at s.heap its (List.toArray out)
        have hn : H (s.heap.objs.size + 1) = none := I.hok.fresh (Nat.le_succ _)
        obtain ⟨a1, a2, a3⟩ := new_lst st hn h3
        refine ⟨.ref _, upd H (s.heap.objs.size + 1) (.lst xs'), I.laid (t' := s.toks) (fun _ _ => PyProof.Rows.sortedAll_old) (Nat.le_succ _) ⟨?_, out, ep, r3, he'⟩, rfl, q _ _ _ _ _ t a1 a2 a3⟩
        rw [r3.length, hlen, ← h2.length]
        exact hz
  · exact t.elim
end
end DL

set_option Elab.async false
set_option linter.all false
set_option maxRecDepth 100000
set_option maxHeartbeats 2000000
/-! DL6: a def of the module with its promise, called; constants and defs as values; what the module's names hold. -/
namespace DL
open PySem PySem.Spec PyProof.Rows L2 HT
/-- a def of the module, its place, its promise -/
structure Def (P : Program) (w : World) (K : PySem.W.Frag) (mg : Str → Option Value) (base : Heap) (T : List (Addr × Str)) (k : Nat) (x : Str) (ps : List Str) (spec : DSpec) : Prop where
  ex : ∃ (f : Addr) (fd : FuncData), mg x = some (.ref f) ∧ PySem.W.keepIn K (.ref f) = true ∧ Binds K fd ps [] ∧ FnOk P w K mg base (L2N.CX P w) k f fd ps (spD K T spec)
/-- a def of the module as the top leaves it -/
structure Top (K : PySem.W.Frag) (mg : Str → Option Value) (x : Str) (st : Stmt) (ps : List Str) : Prop where
  ex : ∃ (f : Addr) (fd : FuncData), mg x = some (.ref f) ∧ Fun K x x st f fd ∧ Binds K fd ps []
/-- an exception class of the module -/
structure ExcT (K : PySem.W.Frag) (mg : Str → Option Value) (x : Str) (C : Addr) : Prop where
  g : mg x = some (.ref C)
  q : PySem.W.excIn K C [.type "ValueError", .type "Exception", .type "BaseException", .type "object"] "ValueError.__new__" = true
  k : PySem.W.keepIn K (.ref C) = true
  b : PySem.W.subIn K (.ref C) (.type "BaseException") = some true
  t : PySem.W.typeIn K (.ref C) = some (.type "type")
/-- the built-ins that the module leaves alone -/
structure Blt (mg : Str → Option Value) : Prop where
  isinstance : mg "isinstance" = none
  int : mg "int" = none
  bool : mg "bool" = none
  str : mg "str" = none
  tuple : mg "tuple" = none
  list : mg "list" = none
  len : mg "len" = none
  abs : mg "abs" = none
  min : mg "min" = none
  max : mg "max" = none
  all : mg "all" = none
  sorted : mg "sorted" = none
  range : mg "range" = none
  enumerate : mg "enumerate" = none
  zip : mg "zip" = none
abbrev W0 : WD := fun _ _ _ => False
section
variable {X : Cx} {A : Amb} {spec : DSpec} {Wd : WD} {W : WX} {tl : TDA} {k : Nat} {ps : List Str} {x : Str} {p pos : Pos} {e : Expr} {es : List Expr}
theorem de_callD (D : Def X.prog X.w X.K X.mg X.base A.T k x ps spec) (hr : Room k X.A) (tk : L2N.Takes X W) (lk : LinkW X.K A W Wd) (ha : PA X (e :: es) (lA X.K A tl))
    (hg : Gl X x := by rfl) (hdb : (x == ("__debug__" : Str)) = false := by decide) (he : starEach (e :: es) X.env = (false, eval e X.env) :: starEach es X.env := by rfl) (hpl : (backTo pos (starEach es X.env)).any (·.1) = false := by rfl) :
    PE X (.Call (.Name x p) (e :: es) [] pos) (lE X.K A (dCallF spec Wd tl)) := by
  obtain ⟨f, fd, hm, hk, hb, ok⟩ := D.ex
  exact de_call ok hr hm hk hb tk lk ha hg hdb he hpl
theorem de_callD0 (D : Def X.prog X.w X.K X.mg X.base A.T k x ps spec) (hr : Room k X.A) (tk : L2N.Takes X W) (lk : LinkW X.K A W Wd) (hg : Gl X x := by rfl) (hdb : (x == ("__debug__" : Str)) = false := by decide) :
    PE X (.Call (.Name x p) [] [] pos) (lE X.K A (dCallF spec Wd dNil)) := by
  obtain ⟨f, fd, hm, hk, hb, ok⟩ := D.ex
  exact de_call0 ok hr hm hk hb tk lk hg hdb
theorem de_const {i : Int} (h : ∃ t, X.mg x = some (.int i t)) (hg : Gl X x := by rfl) (hdb : (x == ("__debug__" : Str)) = false := by decide) : PE X (.Name x pos) (lE X.K A (dC (.int i))) := by
  obtain ⟨t, h⟩ := h
  exact de_glob (v := .int i) h ⟨t, rfl⟩ (fun _ => .int i) hg hdb
theorem de_fun {f : Addr} (h : X.mg x = some (.ref f)) (hg : Gl X x := by rfl) (hdb : (x == ("__debug__" : Str)) = false := by decide) : PE X (.Name x pos) (lE X.K A (dC (.ref f))) :=
  de_glob (v := .ref f) h rfl (fun _ => .ref f) hg hdb
end
section
variable {P : Program} {w : World} {K : PySem.W.Frag} {mg : Str → Option Value} {base : Heap}
/-- the def's body as a derivation, and what it computes, make the promise -/
theorem def_ok {x : Str} {st : Stmt} {N ps : List Str} {k : Nat} {T : List (Addr × Str)} {spec : DSpec} {t : WD → TDS} (tp : Top K mg x st ps) (S : FnScope N ps (defScope st))
    (hbody : ∀ (f : Addr) (cdv : Value) (A0 : Around) (outer : List Env) (s : Shared) (H : Hp) (E : XK) (G0 F0 : Hp) (Wd : WD), Room k (A0.deeper (envOfC x (defScope st) s.heap.objs.size f cdv)) → LinkW K ⟨T, G0, F0⟩ (fun cls d _ H => E cls d H) Wd →
      PSs (cxOf (L2N.CX P w) P w K mg base N x (defScope st) f cdv A0 outer s H E) (defBody st) (lS K ⟨T, G0, F0⟩ (t Wd)))
    (len : ∀ ds μ P Pe, spec ds μ P Pe → ds.length = ps.length)
    (sem : ∀ ds μ P Pe, spec ds μ P Pe → t (fun cls _ μ => Pe cls μ) { nx := fun _ μ => P .non μ, rt := P } (startD N ds) μ) : Def P w K mg base T (k + 1) x ps spec := by
  obtain ⟨f, fd, hm, Fu, hb⟩ := tp.ex
  exact ⟨f, fd, hm, Fu.kp, hb, fn_ok Fu S (hbody f) len sem⟩
end
end DL

set_option Elab.async false
set_option linter.all false
set_option maxRecDepth 100000
set_option maxHeartbeats 2000000
/-! GM1: flips, scripts, one round, as plain functions; how they stand as data. -/
namespace GF
open DL

inductive Fl where
  | top (k : Int)
  | but (k : Int)
  deriving DecidableEq
namespace Fl
def ok : Fl → Prop
  | top k => 1 ≤ k ∧ k ≤ 6
  | but k => 0 ≤ k ∧ k ≤ 6
def block (n : Int) : Fl → Int
  | top k => k
  | but k => n - k
def many : Fl → Int
  | top k => k
  | but k => k
def word : Fl → PySem.Str
  | top _ => "top"
  | but _ => "but"
end Fl
def encF (f : Fl) : D := .tup [.str f.word, .int f.many]
def encS (s : List Fl) : D := .tup (s.map encF)
def encP (p : Int × Bool) : D := .tup [.int p.1, .bl p.2]
def flip1 (n : Int) (q : Int × Bool) (f : Fl) : Int × Bool := if q.1 < f.block n then (f.block n - 1 - q.1, !q.2) else q
def onceF (s : List Fl) (n : Int) (q : Int × Bool) : Int × Bool := s.foldl (flip1 n) q
def once (s : List Fl) (n p : Int) : Int × Bool := onceF s n (p, false)
def reach (s : List Fl) : Int := 6 * s.length + 6
def mid1 (q : Bool × Int) : Fl → Bool × Int
  | .top _ => q
  | .but k => (!q.1, -k - q.2)
def midF (s : List Fl) (q : Bool × Int) : Bool × Int := s.foldl mid1 q
def mid (s : List Fl) : Bool × Int := midF s (false, 0)
def isAmid (s : List Fl) (n p : Int) : Bool := decide (reach s ≤ p) && decide (p ≤ n - 1 - reach s)

/-! ### which data are what -/
def isIntD (d : D) (lo hi : Int) : Bool := match d with
  | .int i => decide (lo ≤ i) && decide (i ≤ hi)
  | _ => false
def flOf : D → Option Fl
  | .tup [.str x, .int k] => if x = "top" then (if 1 ≤ k ∧ k ≤ 6 then some (.top k) else none) else if x = "but" then (if 0 ≤ k ∧ k ≤ 6 then some (.but k) else none) else none
  | _ => none
def isFlipD (d : D) : Bool := (flOf d).isSome
def areFlipsD (d : D) (most : Int) : Bool := match d with
  | .tup ds => decide ((ds.length : Int) ≤ most) && ds.all isFlipD
  | _ => false
theorem flOf_enc {d : D} {f : Fl} (h : flOf d = some f) : d = encF f ∧ f.ok := by
  unfold flOf at h
  split at h
  · rename_i x k
    split at h
    · rename_i hx
      split at h
      · rename_i hk
        cases h
        subst hx
        exact ⟨rfl, hk⟩
      · cases h
    · split at h
      · rename_i hx
        split at h
        · rename_i hk
          cases h
          subst hx
          exact ⟨rfl, hk⟩
        · cases h
      · cases h
  · cases h
theorem isFlip_enc {f : Fl} (h : f.ok) : isFlipD (encF f) = true := by
  cases f with
  | top k =>
    have h : 1 ≤ k ∧ k ≤ 6 := h
    show (flOf (.tup [.str "top", .int k])).isSome = true
    unfold flOf
    dsimp only
    rw [if_pos rfl, if_pos h]
    rfl
  | but k =>
    have h : 0 ≤ k ∧ k ≤ 6 := h
    show (flOf (.tup [.str "but", .int k])).isSome = true
    unfold flOf
    dsimp only
    rw [if_neg (by decide), if_pos rfl, if_pos h]
    rfl
/-- what is a script is one of ours -/
theorem script_of {d : D} {most : Int} (h : areFlipsD d most = true) : ∃ s : List Fl, d = encS s ∧ (∀ f ∈ s, f.ok) ∧ (s.length : Int) ≤ most := by
  unfold areFlipsD at h
  split at h
  · rename_i ds
    rw [Bool.and_eq_true, decide_eq_true_eq, List.all_eq_true] at h
    have : ∀ ds : List D, (∀ x ∈ ds, isFlipD x = true) → ∃ s : List Fl, ds = s.map encF ∧ ∀ f ∈ s, f.ok := by
      intro ds
      induction ds with
      | nil => intro _; exact ⟨[], rfl, by simp⟩
      | cons d ds ih =>
        intro h
        obtain ⟨s, e, o⟩ := ih fun x hx => h x (List.mem_cons_of_mem _ hx)
        have q := h d List.mem_cons_self
        unfold isFlipD at q
        obtain ⟨f, ef⟩ := Option.isSome_iff_exists.mp q
        obtain ⟨e1, o1⟩ := flOf_enc ef
        refine ⟨f :: s, by rw [List.map_cons, ← e, e1], fun g hg => ?_⟩
        rcases List.mem_cons.mp hg with z | z
        · rw [z]; exact o1
        · exact o g z
    obtain ⟨s, e, o⟩ := this ds h.2
    subst e
    exact ⟨s, rfl, o, by have := h.1; rw [List.length_map] at this; exact this⟩
  · cases h
theorem are_enc {s : List Fl} {most : Int} (o : ∀ f ∈ s, f.ok) (h : (s.length : Int) ≤ most) : areFlipsD (encS s) most = true := by
  show (decide (((s.map encF).length : Int) ≤ most) && (s.map encF).all isFlipD) = true
  rw [Bool.and_eq_true, decide_eq_true_eq, List.all_eq_true, List.length_map]
  refine ⟨h, fun x hx => ?_⟩
  obtain ⟨f, hf, rfl⟩ := List.mem_map.mp hx
  exact isFlip_enc (o f hf)
end GF

set_option Elab.async false
set_option linter.all false
set_option maxRecDepth 100000
set_option maxHeartbeats 2000000
/-! SP1: the promises of scripts.py and moving.py over data; what their programs over data compute. -/
namespace GF
open PySem PySem.Spec PyProof.Rows L2 HT DL
structure Ads where
  c : Str → Addr
  f : Str → Addr
def big (i : Int) : Prop := i.natAbs < 2 ^ 200
def sp_is_int (a : Ads) : DSpec := fun ds μ P _ => ∃ d lo hi, ds = [d, .int lo, .int hi] ∧ okD 8 d = true ∧ P (.bl (isIntD d lo hi)) μ
def sp_is_right_flip (a : Ads) : DSpec := fun ds μ P _ => ∃ d, ds = [d] ∧ okD 8 d = true ∧ P (.bl (isFlipD d)) μ
def sp_are_flips (a : Ads) : DSpec := fun ds μ P _ => ∃ d most, ds = [d, .int most] ∧ okD 8 d = true ∧ most ≤ 1000 ∧ P (.bl (areFlipsD d most)) μ
def sp_is_right_script (a : Ads) : DSpec := fun ds μ P _ => ∃ d, ds = [d] ∧ okD 8 d = true ∧ P (.bl (areFlipsD d 8)) μ
def sp_need_script (a : Ads) : DSpec := fun ds μ P Pe => ∃ d, ds = [d] ∧ okD 8 d = true ∧ if areFlipsD d 8 = true then P .non μ else Pe (.ref (a.c "InvalidScript")) μ
def sp_need_height (a : Ads) : DSpec := fun ds μ P Pe => ∃ d most, ds = [d, .int most] ∧ okD 8 d = true ∧ if isIntD d 12 most = true then P .non μ else Pe (.ref (a.c "InvalidHeight")) μ
def sp_need_rounds (a : Ads) : DSpec := fun ds μ P Pe => ∃ d, ds = [d] ∧ okD 8 d = true ∧ if isIntD d 0 (10 ^ 30) = true then P .non μ else Pe (.ref (a.c "InvalidNumber")) μ
def placeOf (n : Int) (d : D) : Int := match d with
  | .int p => if 0 ≤ p then p else n + p
  | _ => 0
def sp_need_place (a : Ads) : DSpec := fun ds μ P Pe => ∃ n d, ds = [.int n, d] ∧ okD 8 d = true ∧ if isIntD d (-n) (n - 1) = true then P (.int (placeOf n d)) μ else Pe (.ref (a.c "InvalidPlace")) μ
def sp_block_of (a : Ads) : DSpec := fun ds μ P _ => ∃ f n, ds = [encF f, .int n] ∧ P (.int (f.block n)) μ
def sp_once (a : Ads) : DSpec := fun ds μ P _ => ∃ s n p, ds = [encS s, .int n, .int p] ∧ P (encP (once s n p)) μ
def sp_reach_of (a : Ads) : DSpec := fun ds μ P _ => ∃ s, ds = [encS s] ∧ s.length ≤ 100 ∧ P (.int (reach s)) μ
def sp_middle_of (a : Ads) : DSpec := fun ds μ P _ => ∃ s, ds = [encS s] ∧ P (.tup [.bl (mid s).1, .int (mid s).2]) μ
def sp_is_amid (a : Ads) : DSpec := fun ds μ P _ => ∃ s n p, ds = [encS s, .int n, .int p] ∧ s.length ≤ 100 ∧ P (.bl (isAmid s n p)) μ
def td_is_int (a : Ads) : WD → TDS := fun Wd => (dRet (dAndV (dIsiE "int" (dVar 0)) (dAndV (dNotV (dIsiE "bool" (dVar 0))) (dChain dLe dLe (dVar 1) (dVar 0) (dVar 2)))))
def td_is_right_flip (a : Ads) : WD → TDS := fun Wd => (dSeq (dIfS (dOrT (dNotT (dB (dIsiE "tuple" (dVar 0)))) (dOrT (dB (dBin dNe (dCall dLen (dCons (dVar 0) dNil)) (dC (.int 2)))) (dNotT (dB (dIsiE "str" (dBin dIx (dVar 0) (dC (.int 0)))))))) (dRet (dC (.bl false))) dNext) (dSeq (dIfS (dB (dBin dEq (dBin dIx (dVar 0) (dC (.int 0))) (dC (.str "top")))) (dRet (dCallF (sp_is_int a) Wd (dCons (dBin dIx (dVar 0) (dC (.int 1))) (dCons (dC (.int 1)) (dCons (dC (.int 6)) dNil))))) dNext) (dRet (dAndV (dBin dEq (dBin dIx (dVar 0) (dC (.int 0))) (dC (.str "but"))) (dCallF (sp_is_int a) Wd (dCons (dBin dIx (dVar 0) (dC (.int 1))) (dCons (dC (.int 0)) (dCons (dC (.int 6)) dNil))))))))
def td_are_flips (a : Ads) : WD → TDS := fun Wd => (dRet (dAndV (dIsiE "tuple" (dVar 0)) (dAndV (dBin dLe (dCall dLen (dCons (dVar 0) dNil)) (dVar 1)) (dCall dAll (dCons (dLc (diSeq (dVar 0)) (dgN 2) dYes (dCallF (sp_is_right_flip a) W0 (dCons (dVar 2) dNil)) [2]) dNil)))))
def td_is_right_script (a : Ads) : WD → TDS := fun Wd => (dRet (dCallF (sp_are_flips a) Wd (dCons (dVar 0) (dCons (dC (.int 8)) dNil))))
def td_need_script (a : Ads) : WD → TDS := fun Wd => (dIfS (dNotT (dB (dCallF (sp_is_right_script a) Wd (dCons (dVar 0) dNil)))) (dRaise (.ref (a.c "InvalidScript")) Wd) dNext)
def td_need_height (a : Ads) : WD → TDS := fun Wd => (dIfS (dNotT (dB (dCallF (sp_is_int a) Wd (dCons (dVar 0) (dCons (dC (.int 12)) (dCons (dVar 1) dNil)))))) (dRaise (.ref (a.c "InvalidHeight")) Wd) dNext)
def td_need_rounds (a : Ads) : WD → TDS := fun Wd => (dIfS (dNotT (dB (dCallF (sp_is_int a) Wd (dCons (dVar 0) (dCons (dC (.int 0)) (dCons (dC (.int (10 ^ 30))) dNil)))))) (dRaise (.ref (a.c "InvalidNumber")) Wd) dNext)
def td_need_place (a : Ads) : WD → TDS := fun Wd => (dSeq (dIfS (dNotT (dB (dCallF (sp_is_int a) Wd (dCons (dVar 1) (dCons (dNeg (dVar 0)) (dCons (dBin dSub (dVar 0) (dC (.int 1))) dNil)))))) (dRaise (.ref (a.c "InvalidPlace")) Wd) dNext) (dRet (dIf (dB (dBin dGe (dVar 1) (dC (.int 0)))) (dVar 1) (dBin dAdd (dVar 0) (dVar 1)))))
def td_block_of (a : Ads) : WD → TDS := fun Wd => (dRet (dIf (dB (dBin dEq (dBin dIx (dVar 0) (dC (.int 0))) (dC (.str "top")))) (dBin dIx (dVar 0) (dC (.int 1))) (dBin dSub (dVar 1) (dBin dIx (dVar 0) (dC (.int 1))))))
def lb1_once (a : Ads) : WD → TDS := fun Wd => (dSeq (dAsg (dCallF (sp_block_of a) Wd (dCons (dVar 4) (dCons (dVar 1) dNil))) (dgN 5)) (dIfS (dB (dBin dLt (dVar 2) (dVar 5))) (dPar 2 3 (dCons (dBin dSub (dBin dSub (dVar 5) (dC (.int 1))) (dVar 2)) (dCons (dNotV (dVar 3)) dNil))) dNext))
def td_once (a : Ads) : WD → TDS := fun Wd => (dSeq (dAsg (dC (.bl false)) (dgN 3)) (dSeq (dFor (diSeq (dVar 0)) (dgN 4) (lb1_once a Wd)) (dRet (dTup (dCons (dVar 2) (dCons (dVar 3) dNil))))))
def td_reach_of (a : Ads) : WD → TDS := fun Wd => (dRet (dBin dAdd (dBin dMul (dC (.int 6)) (dCall dLen (dCons (dVar 0) dNil))) (dC (.int 6))))
def lb1_middle_of (a : Ads) : WD → TDS := fun Wd => (dIfS (dB (dBin dEq (dVar 3) (dC (.str "but")))) (dPar 1 2 (dCons (dNotV (dVar 1)) (dCons (dBin dSub (dNeg (dVar 4)) (dVar 2)) dNil))) dNext)
def td_middle_of (a : Ads) : WD → TDS := fun Wd => (dSeq (dAsg (dTup (dCons (dC (.bl false)) (dCons (dC (.int 0)) dNil))) (dgT 2 (dgCons (dgN 1) (dgCons (dgN 2) dgNil)))) (dSeq (dFor (diSeq (dVar 0)) (dgT 2 (dgCons (dgN 3) (dgCons (dgN 4) dgNil))) (lb1_middle_of a Wd)) (dRet (dTup (dCons (dVar 1) (dCons (dVar 2) dNil))))))
def td_is_amid (a : Ads) : WD → TDS := fun Wd => (dRet (dChain dLe dLe (dCallF (sp_reach_of a) Wd (dCons (dVar 0) dNil)) (dVar 2) (dBin dSub (dBin dSub (dVar 1) (dC (.int 1))) (dCallF (sp_reach_of a) Wd (dCons (dVar 0) dNil)))))
local macro_rules | `(tactic| walk_at "ev") => `(tactic| simp only [dSeq, dNext, dIfS, dRet, dRetN, dAsg, dDrop, dgN, dgT, dgNs, dgCons, dgNil, dPar, dPar3, dRaise, dCallF, dCall, dCons, dNil, dTup, dLst, dC, dVar, dBin, dChain, dAndV, dOrV, dNotV, dIf, dB, dAndT, dOrT, dNotT, dNeg, dIsiE,
  dAdd, dSub, dMul, dMod, dFdiv, dPow, dLt, dLe, dGt, dGe, dCmpI, dEq, dNe, dIs, dIsNot, dIx, ixD, dLen, lenD, dAbs, dMax, dMin, dInt, dTuple, dList, dFor, dForD, diSeq, itemsD, diRange1, diRange2, dLc, dYes, wipeD,
  List.getElem?_cons_zero, List.getElem?_cons_succ, List.set_cons_zero, List.set_cons_succ, List.length_cons, List.length_nil, if_true, Bool.false_eq_true, if_false, Bool.not_true, Bool.not_false])
/-! ### isinstance -/
def k_int : D → Bool
  | .bl _ => true
  | .int _ => true
  | _ => false
theorem isi_int {n : Nat} {d : D} (h : okD n d = true) : isiD "int" d = some (k_int d) := by
  cases d with
  | non => show kitB "NoneType" "int" = some false; decide +kernel
  | bl x => show kitB "bool" "int" = some true; decide +kernel
  | int x => show kitB "int" "int" = some true; decide +kernel
  | str x => show kitB "str" "int" = some false; decide +kernel
  | tup x => show kitB "tuple" "int" = some false; decide +kernel
  | lst x => show kitB "list" "int" = some false; decide +kernel
  | ils x => cases n <;> simp [okD] at h
  | ref x => cases n <;> simp [okD] at h
def k_bool : D → Bool
  | .bl _ => true
  | _ => false
theorem isi_bool {n : Nat} {d : D} (h : okD n d = true) : isiD "bool" d = some (k_bool d) := by
  cases d with
  | non => show kitB "NoneType" "bool" = some false; decide +kernel
  | bl x => show kitB "bool" "bool" = some true; decide +kernel
  | int x => show kitB "int" "bool" = some false; decide +kernel
  | str x => show kitB "str" "bool" = some false; decide +kernel
  | tup x => show kitB "tuple" "bool" = some false; decide +kernel
  | lst x => show kitB "list" "bool" = some false; decide +kernel
  | ils x => cases n <;> simp [okD] at h
  | ref x => cases n <;> simp [okD] at h
def k_tuple : D → Bool
  | .tup _ => true
  | _ => false
theorem isi_tuple {n : Nat} {d : D} (h : okD n d = true) : isiD "tuple" d = some (k_tuple d) := by
  cases d with
  | non => show kitB "NoneType" "tuple" = some false; decide +kernel
  | bl x => show kitB "bool" "tuple" = some false; decide +kernel
  | int x => show kitB "int" "tuple" = some false; decide +kernel
  | str x => show kitB "str" "tuple" = some false; decide +kernel
  | tup x => show kitB "tuple" "tuple" = some true; decide +kernel
  | lst x => show kitB "list" "tuple" = some false; decide +kernel
  | ils x => cases n <;> simp [okD] at h
  | ref x => cases n <;> simp [okD] at h
def k_str : D → Bool
  | .str _ => true
  | _ => false
theorem isi_str {n : Nat} {d : D} (h : okD n d = true) : isiD "str" d = some (k_str d) := by
  cases d with
  | non => show kitB "NoneType" "str" = some false; decide +kernel
  | bl x => show kitB "bool" "str" = some false; decide +kernel
  | int x => show kitB "int" "str" = some false; decide +kernel
  | str x => show kitB "str" "str" = some true; decide +kernel
  | tup x => show kitB "tuple" "str" = some false; decide +kernel
  | lst x => show kitB "list" "str" = some false; decide +kernel
  | ils x => cases n <;> simp [okD] at h
  | ref x => cases n <;> simp [okD] at h
/-! ### data compared -/
theorem deq_int (i j : Int) : deq (.int i) (.int j) = decide (i = j) := by
  unfold deq
  simp only [py, PyData.eqv]
  exact Bool.beq_eq_decide_eq _ _
theorem deq_bl (i j : Bool) : deq (.bl i) (.bl j) = decide (i = j) := by
  unfold deq
  simp only [py, PyData.eqv]
  exact Bool.beq_eq_decide_eq _ _
theorem deq_str (x y : Str) : deq (.str x) (.str y) = decide (x = y) := by
  unfold deq
  simp only [py, PyData.eqv]
  exact Bool.beq_eq_decide_eq _ _
theorem ok_int {n : Nat} (i : Int) : okD n (.int i) = true := by cases n <;> rfl
theorem ok_bl {n : Nat} (i : Bool) : okD n (.bl i) = true := by cases n <;> rfl
theorem ok_non {n : Nat} : okD n .non = true := by cases n <;> rfl
theorem okD_up : ∀ (n : Nat) (d : D), okD n d = true → okD (n + 1) d = true
  | _, .non, _ => ok_non
  | _, .bl b, _ => ok_bl b
  | _, .int i, _ => ok_int i
  | n, .str x, h => by cases n <;> exact h
  | 0, .tup _, h => by simp [okD] at h
  | n + 1, .tup ds, h => by
    have h : okDA n ds = true := h
    show okDA (n + 1) ds = true
    induction ds with
    | nil => rfl
    | cons d ds ih =>
      rw [okDA, Bool.and_eq_true] at h ⊢
      exact ⟨okD_up n d h.1, ih h.2 h.2⟩
  | 0, .lst _, h => by simp [okD] at h
  | n + 1, .lst ds, h => by
    have h : okDA n ds = true := h
    show okDA (n + 1) ds = true
    induction ds with
    | nil => rfl
    | cons d ds ih =>
      rw [okDA, Bool.and_eq_true] at h ⊢
      exact ⟨okD_up n d h.1, ih h.2 h.2⟩
  | n, .ils _, h => by cases n <;> simp [okD] at h
  | n, .ref _, h => by cases n <;> simp [okD] at h
end GF

set_option Elab.async false
set_option linter.all false
set_option maxRecDepth 100000
set_option maxHeartbeats 2000000
/-! SP2: what the programs over data of scripts.py compute. -/
namespace GF
open PySem PySem.Spec PyProof.Rows L2 HT DL
local macro_rules | `(tactic| walk_at "ev") => `(tactic| simp only [dSeq, dNext, dIfS, dRet, dRetN, dAsg, dDrop, dgN, dgT, dgNs, dgCons, dgNil, dPar, dPar3, dRaise, dCallF, dCall, dCons, dNil, dTup, dLst, dC, dVar, dBin, dChain, dAndV, dOrV, dNotV, dIf, dB, dAndT, dOrT, dNotT, dNeg, dIsiE,
  dAdd, dSub, dMul, dMod, dFdiv, dPow, dLt, dLe, dGt, dGe, dCmpI, dEq, dNe, dIs, dIsNot, dIx, ixD, dLen, lenD, dAbs, dMax, dMin, dInt, dTuple, dList, dFor, dForD, diSeq, itemsD, diRange1, diRange2, dLc, dYes, wipeD,
  List.getElem?_cons_zero, List.getElem?_cons_succ, List.set_cons_zero, List.set_cons_succ, List.length_cons, List.length_nil, if_true, Bool.false_eq_true, if_false, Bool.not_true, Bool.not_false, Bool.true_and, Bool.false_and, Bool.and_true, Bool.and_false,
  ok_int, ok_bl, ok_non, deq_int, deq_bl, deq_str, true_and, and_true, k_int, k_bool, k_tuple, k_str, isNon])
abbrev EE (P : DK) : DE := { nx := fun _ μ => P .non μ, rt := P }
theorem se_is_int (a : Ads) {ds μ P Pe} (h : sp_is_int a ds μ P Pe) : td_is_int a (fun cls _ μ => Pe cls μ) (EE P) (startD ["value", "low", "high"] ds) μ := by
  obtain ⟨d, lo, hi, rfl, ok, h⟩ := h
  show td_is_int a _ _ [some d, some (.int lo), some (.int hi)] μ
  unfold td_is_int
  walk_at "ev"
  rw [isi_int ok, isi_bool ok]
  cases d with
  | int i =>
    walk_at "ev"
    unfold isIntD at h
    by_cases h1 : lo ≤ i
    · simp only [h1, decide_true, Bool.true_and, if_true] at h ⊢
      exact h
    · simp only [h1, decide_false, Bool.false_and, Bool.false_eq_true, if_false] at h ⊢
      exact h
  | _ =>
    walk_at "ev"
    exact h

theorem ok_at {ds : List D} (h : okD 8 (.tup ds) = true) {x : D} (hx : x ∈ ds) : okD 8 x = true := okD_up 7 x (okDA_mem h hx)
theorem se_is_right_flip (a : Ads) {ds μ P Pe} (h : sp_is_right_flip a ds μ P Pe) : td_is_right_flip a (fun cls _ μ => Pe cls μ) (EE P) (startD ["value"] ds) μ := by
  obtain ⟨d, rfl, ok, h⟩ := h
  show td_is_right_flip a _ _ [some d] μ
  unfold td_is_right_flip
  walk_at "ev"
  rw [isi_tuple ok]
  cases d with
  | tup ds =>
    walk_at "ev"
    by_cases hl : ds.length = 2
    · obtain ⟨x, y, rfl⟩ : ∃ x y, ds = [x, y] := by
        match ds, hl with
        | [x, y], _ => exact ⟨x, y, rfl⟩
      have okx := ok_at ok (x := x) (by simp)
      have oky := ok_at ok (x := y) (by simp)
      have e2 : decide (((([x, y] : List D).length : Nat) : Int) = 2) = true := rfl
      have e0 : atI [x, y] 0 = some x := rfl
      have e1 : atI [x, y] 1 = some y := rfl
      rw [e2, e0, e1]
      walk_at "ev"
      rw [isi_str okx]
      cases x with
      | str z =>
        walk_at "ev"
        have okt : okD 8 (.str "top") = true := by decide +kernel
        have okb : okD 8 (.str "but") = true := by decide +kernel
        refine ⟨okx, okt, ?_⟩
        by_cases hz : z = "top"
        · subst hz
          simp only [decide_true, if_true]
          refine ⟨y, 1, 6, rfl, oky, ?_⟩
          have e : isFlipD (.tup [.str "top", y]) = isIntD y 1 6 := by
            cases y with
            | int k =>
              unfold isFlipD flOf isIntD
              dsimp only
              rw [if_pos rfl]
              by_cases hk : 1 ≤ k ∧ k ≤ 6
              · rw [if_pos hk]; simp [hk]
              · rw [if_neg hk]
                have : (decide (1 ≤ k) && decide (k ≤ 6)) = false := by
                  rw [← Bool.not_eq_true, Bool.and_eq_true, decide_eq_true_eq, decide_eq_true_eq]; exact hk
                rw [this]; rfl
            | _ => rfl
          rw [← e]; exact h
        · simp only [hz, decide_false, Bool.false_eq_true, if_false]
          refine ⟨okx, okb, ?_⟩
          by_cases hz2 : z = "but"
          · subst hz2
            simp only [decide_true, if_true]
            refine ⟨y, 0, 6, rfl, oky, ?_⟩
            have e : isFlipD (.tup [.str "but", y]) = isIntD y 0 6 := by
              cases y with
              | int k =>
                unfold isFlipD flOf isIntD
                dsimp only
                rw [if_neg (by decide), if_pos rfl]
                by_cases hk : 0 ≤ k ∧ k ≤ 6
                · rw [if_pos hk]; simp [hk]
                · rw [if_neg hk]
                  have : (decide (0 ≤ k) && decide (k ≤ 6)) = false := by
                    rw [← Bool.not_eq_true, Bool.and_eq_true, decide_eq_true_eq, decide_eq_true_eq]; exact hk
                  rw [this]; rfl
              | _ => rfl
            rw [← e]; exact h
          · simp only [hz2, decide_false, Bool.false_eq_true, if_false]
            have e : isFlipD (.tup [.str z, y]) = false := by
              cases y with
              | int k =>
                unfold isFlipD flOf
                dsimp only
                rw [if_neg hz, if_neg hz2]
                rfl
              | _ => rfl
            rw [← e]; exact h
      | _ =>
        walk_at "ev"
        exact h
    · have e2 : decide (((ds.length : Nat) : Int) = 2) = false := decide_eq_false (by omega)
      rw [e2]
      walk_at "ev"
      have e : isFlipD (.tup ds) = false := by
        match ds, hl with
        | [], _ => rfl
        | [x], _ => cases x <;> rfl
        | [x, y], hl => exact absurd rfl hl
        | x :: y :: z :: r, _ => cases x <;> cases y <;> rfl
      rw [← e]; exact h
  | _ =>
    walk_at "ev"
    exact h

/-- a comprehension whose element is a function of the item -/
theorem lcD_map {g : TDG} {te : TDE} {δw : Nv} {Z : List D → Mu → Prop} {μ : Mu} (f : D → D) : ∀ {ds acc : List D}, (∀ d ∈ ds, ∀ P : DK, P (f d) μ → g d δw μ fun δ2 μ2 => te δ2 μ2 P) → acc.length + ds.length ≤ sizeLine → Z (acc ++ ds.map f) μ → dLcD g dYes te δw Z ds acc μ
  | [], acc, _, _, h => by
    rw [List.map_nil, List.append_nil] at h
    exact h
  | d :: ds, acc, hg, hn, h => by
    unfold dLcD
    simp only [dYes, if_true]
    rw [List.length_cons] at hn
    refine hg d List.mem_cons_self _ ⟨by omega, lcD_map f (fun x hx => hg x (List.mem_cons_of_mem _ hx)) (by rw [List.length_append, List.length_singleton]; omega) ?_⟩
    rw [List.map_cons] at h
    rw [List.append_assoc]
    exact h
theorem small_line : (1000 : Nat) ≤ sizeLine := by rw [sizeLine_eq]; decide
theorem se_are_flips (a : Ads) {ds μ P Pe} (h : sp_are_flips a ds μ P Pe) : td_are_flips a (fun cls _ μ => Pe cls μ) (EE P) (startD ["value", "most", "flip"] ds) μ := by
  obtain ⟨d, most, rfl, ok, hm, h⟩ := h
  show td_are_flips a _ _ [some d, some (.int most), none] μ
  unfold td_are_flips
  walk_at "ev"
  rw [isi_tuple ok]
  cases d with
  | tup ds =>
    walk_at "ev"
    unfold areFlipsD at h
    by_cases hl : (ds.length : Int) ≤ most
    · simp only [hl, decide_true, Bool.true_and, if_true] at h ⊢
      have hz := small_line
      refine lcD_map (fun d => .bl (isFlipD d)) (fun x hx P hP => ?_) (by rw [List.length_nil]; omega) ?_
      · exact ⟨x, rfl, ok_at ok hx, hP⟩
      · show ∃ bs : List Bool, [] ++ ds.map (fun d => D.bl (isFlipD d)) = bs.map .bl ∧ _
        refine ⟨ds.map isFlipD, by rw [List.nil_append, List.map_map]; rfl, ?_⟩
        rw [List.all_map]
        exact h
    · simp only [hl, decide_false, Bool.false_and, Bool.false_eq_true, if_false] at h ⊢
      exact h
  | _ =>
    walk_at "ev"
    exact h
theorem se_is_right_script (a : Ads) {ds μ P Pe} (h : sp_is_right_script a ds μ P Pe) : td_is_right_script a (fun cls _ μ => Pe cls μ) (EE P) (startD ["value"] ds) μ := by
  obtain ⟨d, rfl, ok, h⟩ := h
  exact ⟨d, 8, rfl, ok, by decide, h⟩
theorem se_need_script (a : Ads) {ds μ P Pe} (h : sp_need_script a ds μ P Pe) : td_need_script a (fun cls _ μ => Pe cls μ) (EE P) (startD ["value"] ds) μ := by
  obtain ⟨d, rfl, ok, h⟩ := h
  show td_need_script a _ _ [some d] μ
  unfold td_need_script
  walk_at "ev"
  refine ⟨d, rfl, ok, ?_⟩
  cases e : areFlipsD d 8 <;> (rw [e] at h; exact h)
theorem se_need_height (a : Ads) {ds μ P Pe} (h : sp_need_height a ds μ P Pe) : td_need_height a (fun cls _ μ => Pe cls μ) (EE P) (startD ["value", "most"] ds) μ := by
  obtain ⟨d, most, rfl, ok, h⟩ := h
  show td_need_height a _ _ [some d, some (.int most)] μ
  unfold td_need_height
  walk_at "ev"
  refine ⟨d, 12, most, rfl, ok, ?_⟩
  cases e : isIntD d 12 most <;> (rw [e] at h; exact h)
theorem se_need_rounds (a : Ads) {ds μ P Pe} (h : sp_need_rounds a ds μ P Pe) : td_need_rounds a (fun cls _ μ => Pe cls μ) (EE P) (startD ["value"] ds) μ := by
  obtain ⟨d, rfl, ok, h⟩ := h
  show td_need_rounds a _ _ [some d] μ
  unfold td_need_rounds
  walk_at "ev"
  refine ⟨d, 0, 10 ^ 30, rfl, ok, ?_⟩
  cases e : isIntD d 0 (10 ^ 30) <;> (rw [e] at h; exact h)
theorem se_need_place (a : Ads) {ds μ P Pe} (h : sp_need_place a ds μ P Pe) : td_need_place a (fun cls _ μ => Pe cls μ) (EE P) (startD ["n", "value"] ds) μ := by
  obtain ⟨n, d, rfl, ok, h⟩ := h
  show td_need_place a _ _ [some (.int n), some d] μ
  unfold td_need_place
  walk_at "ev"
  refine ⟨d, -n, n - 1, rfl, ok, ?_⟩
  cases e : isIntD d (-n) (n - 1) with
  | false => rw [e] at h; exact h
  | true =>
    rw [e] at h
    cases d with
    | int p =>
      have h : P (.int (if 0 ≤ p then p else n + p)) μ := h
      by_cases hp : 0 ≤ p
      · rw [if_pos hp] at h
        simp only [hp, decide_true, if_true, Bool.not_true, Bool.false_eq_true, if_false]
        exact h
      · rw [if_neg hp] at h
        simp only [hp, decide_false, if_false, Bool.not_true, Bool.false_eq_true]
        exact h
    | _ => cases e
theorem word_top (f : Fl) : (deq (.str f.word) (.str "top")) = (match f with | .top _ => true | .but _ => false) := by
  rw [deq_str]
  cases f with
  | top k => rfl
  | but k =>
    show decide (("but" : Str) = "top") = false
    decide +kernel
theorem ok_word (f : Fl) {n : Nat} : okD n (.str f.word) = true := by
  have h : PyData.strOk f.word = true := by
    cases f with
    | top k =>
      show PyData.strOk "top" = true
      decide +kernel
    | but k =>
      show PyData.strOk "but" = true
      decide +kernel
  cases n <;> exact h
theorem se_block_of (a : Ads) {ds μ P Pe} (h : sp_block_of a ds μ P Pe) : td_block_of a (fun cls _ μ => Pe cls μ) (EE P) (startD ["flip", "n"] ds) μ := by
  obtain ⟨f, n, rfl, h⟩ := h
  show td_block_of a _ _ [some (encF f), some (.int n)] μ
  unfold td_block_of encF
  walk_at "ev"
  have e0 : atI [D.str f.word, D.int f.many] 0 = some (.str f.word) := rfl
  have e1 : atI [D.str f.word, D.int f.many] 1 = some (.int f.many) := rfl
  have okt : okD 8 (.str "top") = true := by decide +kernel
  rw [e0, e1]
  refine ⟨ok_word f, okt, ?_⟩
  rw [word_top f]
  cases f <;> exact h
theorem lb_once (a : Ads) {Wd : WD} {E : DE} {S : D} {n : Int} {μ : Mu} : ∀ (s : List Fl) (q : Int × Bool) (x4 x5 : Option D), (∀ x4 x5, E.nx [some S, some (.int n), some (.int (onceF s n q).1), some (.bl (onceF s n q).2), x4, x5] μ) →
    dForD (dgN 4) (lb1_once a Wd) E (s.map encF) [some S, some (.int n), some (.int q.1), some (.bl q.2), x4, x5] μ
  | [], q, x4, x5, h => h x4 x5
  | f :: s, q, x4, x5, h => by
    rw [List.map_cons]
    unfold dForD
    show lb1_once a Wd _ [some S, some (.int n), some (.int q.1), some (.bl q.2), some (encF f), x5] μ
    unfold lb1_once
    walk_at "ev"
    refine ⟨f, n, rfl, ?_⟩
    have ih := fun q' => lb_once a (Wd := Wd) (E := E) (S := S) (n := n) (μ := μ) s q' (some (encF f)) (some (.int (f.block n)))
    by_cases hq : q.1 < f.block n
    · simp only [hq, decide_true, if_true]
      refine ih (f.block n - 1 - q.1, !q.2) fun x4 x5 => ?_
      have e : flip1 n q f = (f.block n - 1 - q.1, !q.2) := if_pos hq
      have h := h x4 x5
      unfold onceF at h ⊢
      rw [List.foldl_cons, e] at h
      exact h
    · simp only [hq, decide_false, if_false, Bool.false_eq_true]
      refine ih q fun x4 x5 => ?_
      have e : flip1 n q f = q := if_neg hq
      have h := h x4 x5
      unfold onceF at h ⊢
      rw [List.foldl_cons, e] at h
      exact h
theorem two_line : (2 : Nat) ≤ sizeLine := by rw [sizeLine_eq]; decide
theorem three_line : (3 : Nat) ≤ sizeLine := by rw [sizeLine_eq]; decide
theorem se_once (a : Ads) {ds μ P Pe} (h : sp_once a ds μ P Pe) : td_once a (fun cls _ μ => Pe cls μ) (EE P) (startD ["script", "n", "place", "over", "flip", "block"] ds) μ := by
  obtain ⟨s, n, p, rfl, h⟩ := h
  show td_once a _ _ [some (encS s), some (.int n), some (.int p), none, none, none] μ
  unfold td_once encS
  walk_at "ev"
  refine lb_once a s (p, false) none none fun x4 x5 => ?_
  walk_at "ev"
  exact ⟨two_line, h⟩
theorem se_reach_of (a : Ads) {ds μ P Pe} (h : sp_reach_of a ds μ P Pe) : td_reach_of a (fun cls _ μ => Pe cls μ) (EE P) (startD ["script"] ds) μ := by
  obtain ⟨s, rfl, hl, h⟩ := h
  show td_reach_of a _ _ [some (encS s)] μ
  unfold td_reach_of encS
  walk_at "ev"
  rw [List.length_map]
  refine ⟨?_, h⟩
  exact (wide_mul (a := 3) (b := 7) (by decide) (by rw [Int.natAbs_natCast]; omega) (by decide) (by decide) (by decide)).ok
theorem lb_middle (a : Ads) {Wd : WD} {E : DE} {S : D} {μ : Mu} : ∀ (s : List Fl) (q : Bool × Int) (x4 x5 : Option D), (∀ x4 x5, E.nx [some S, some (.bl (midF s q).1), some (.int (midF s q).2), x4, x5] μ) →
    dForD (dgT 2 (dgCons (dgN 3) (dgCons (dgN 4) dgNil))) (lb1_middle_of a Wd) E (s.map encF) [some S, some (.bl q.1), some (.int q.2), x4, x5] μ
  | [], q, x4, x5, h => h x4 x5
  | f :: s, q, x4, x5, h => by
    rw [List.map_cons]
    unfold dForD encF
    walk_at "ev"
    unfold lb1_middle_of
    walk_at "ev"
    have okb : okD 8 (.str "but") = true := by decide +kernel
    refine ⟨ok_word f, okb, ?_⟩
    have ih := fun q' => lb_middle a (Wd := Wd) (E := E) (S := S) (μ := μ) s q' (some (.str f.word)) (some (.int f.many))
    cases f with
    | top k =>
      have e : decide ((Fl.top k).word = "but") = false := by
        show decide (("top" : Str) = "but") = false
        decide +kernel
      simp only [e, Bool.false_eq_true, if_false]
      exact ih q h
    | but k =>
      have e : decide ((Fl.but k).word = "but") = true := by
        show decide (("but" : Str) = "but") = true
        decide +kernel
      simp only [e, if_true]
      exact ih (!q.1, -k - q.2) h
theorem se_middle_of (a : Ads) {ds μ P Pe} (h : sp_middle_of a ds μ P Pe) : td_middle_of a (fun cls _ μ => Pe cls μ) (EE P) (startD ["script", "turned", "step", "word", "many"] ds) μ := by
  obtain ⟨s, rfl, h⟩ := h
  show td_middle_of a _ _ [some (encS s), none, none, none, none] μ
  unfold td_middle_of encS
  walk_at "ev"
  refine ⟨two_line, ?_⟩
  refine lb_middle a s (false, 0) none none fun x4 x5 => ?_
  walk_at "ev"
  exact ⟨two_line, h⟩
theorem se_is_amid (a : Ads) {ds μ P Pe} (h : sp_is_amid a ds μ P Pe) : td_is_amid a (fun cls _ μ => Pe cls μ) (EE P) (startD ["script", "n", "place"] ds) μ := by
  obtain ⟨s, n, p, rfl, hl, h⟩ := h
  show td_is_amid a _ _ [some (encS s), some (.int n), some (.int p)] μ
  unfold td_is_amid
  walk_at "ev"
  refine ⟨s, rfl, hl, ?_⟩
  unfold isAmid at h
  by_cases hp : reach s ≤ p
  · simp only [hp, decide_true, if_true, Bool.true_and] at h ⊢
    exact ⟨s, rfl, hl, h⟩
  · simp only [hp, decide_false, Bool.false_eq_true, if_false, Bool.false_and] at h ⊢
    exact h
end GF

set_option Elab.async false
set_option linter.all false
set_option maxRecDepth 100000
set_option maxHeartbeats 2000000
/-! GM2: rounds: iterates, going back, cycles. Plain Lean. -/
namespace GF
/-- some rounds -/
def go (s : List Fl) (n : Int) : Nat → Int × Bool → Int × Bool
  | 0, q => q
  | k + 1, q => go s n k (onceF s n q)
def inR (n p : Int) : Prop := 0 ≤ p ∧ p < n
def okS (s : List Fl) : Prop := ∀ f ∈ s, f.ok
variable {s : List Fl} {n p : Int} {q : Int × Bool}
theorem go_add (s : List Fl) (n : Int) : ∀ (j k : Nat) (q : Int × Bool), go s n (j + k) q = go s n k (go s n j q)
  | 0, k, q => by rw [Nat.zero_add]; rfl
  | j + 1, k, q => by
    rw [Nat.succ_add]
    show go s n (j + k) (onceF s n q) = _
    rw [go_add s n j k]
    rfl
theorem go_one (s : List Fl) (n : Int) (q : Int × Bool) : go s n 1 q = onceF s n q := rfl
theorem go_succ (s : List Fl) (n : Int) (k : Nat) (q : Int × Bool) : go s n (k + 1) q = onceF s n (go s n k q) := by
  rw [go_add s n k 1, go_one]
/-- the side is carried along -/
theorem flip1_side (n : Int) (f : Fl) (p : Int) (o b : Bool) : flip1 n (p, o ^^ b) f = ((flip1 n (p, b) f).1, o ^^ (flip1 n (p, b) f).2) := by
  unfold flip1
  by_cases h : p < f.block n
  · simp only [h, if_true]
    cases o <;> cases b <;> rfl
  · simp only [h, if_false]
theorem onceF_side (n : Int) (o : Bool) : ∀ (s : List Fl) (p : Int) (b : Bool), onceF s n (p, o ^^ b) = ((onceF s n (p, b)).1, o ^^ (onceF s n (p, b)).2)
  | [], p, b => rfl
  | f :: s, p, b => by
    show onceF s n (flip1 n (p, o ^^ b) f) = ((onceF s n (flip1 n (p, b) f)).1, o ^^ (onceF s n (flip1 n (p, b) f)).2)
    rw [flip1_side]
    exact onceF_side n o s _ _
theorem go_side (s : List Fl) (n : Int) (o : Bool) : ∀ (k : Nat) (p : Int) (b : Bool), go s n k (p, o ^^ b) = ((go s n k (p, b)).1, o ^^ (go s n k (p, b)).2)
  | 0, p, b => rfl
  | k + 1, p, b => by
    show go s n k (onceF s n (p, o ^^ b)) = ((go s n k (onceF s n (p, b))).1, o ^^ (go s n k (onceF s n (p, b))).2)
    rw [onceF_side]
    exact go_side s n o k _ _
theorem go_side0 (s : List Fl) (n : Int) (k : Nat) (p : Int) (o : Bool) : go s n k (p, o) = ((go s n k (p, false)).1, o ^^ (go s n k (p, false)).2) := by
  have h := go_side s n o k p false
  rw [Bool.xor_false] at h
  exact h
theorem onceF_side0 (s : List Fl) (n : Int) (p : Int) (o : Bool) : onceF s n (p, o) = ((onceF s n (p, false)).1, o ^^ (onceF s n (p, false)).2) := go_side0 s n 1 p o
/-! ### within the stack, and back -/
theorem block_in {f : Fl} (h : f.ok) (hn : 12 ≤ n) : 0 ≤ f.block n ∧ f.block n ≤ n := by
  cases f with
  | top k => have h : 1 ≤ k ∧ k ≤ 6 := h; show 0 ≤ k ∧ k ≤ n; omega
  | but k => have h : 0 ≤ k ∧ k ≤ 6 := h; show 0 ≤ n - k ∧ n - k ≤ n; omega
theorem flip1_in {f : Fl} (h : f.ok) (hn : 12 ≤ n) (hq : inR n q.1) : inR n (flip1 n q f).1 := by
  have hb := block_in h hn
  unfold flip1
  unfold inR at *
  by_cases hx : q.1 < f.block n
  · rw [if_pos hx]
    show 0 ≤ f.block n - 1 - q.1 ∧ f.block n - 1 - q.1 < n
    omega
  · rw [if_neg hx]
    exact hq
theorem flip1_back {f : Fl} (hq : 0 ≤ q.1) : flip1 n (flip1 n q f) f = q := by
  unfold flip1
  by_cases hx : q.1 < f.block n
  · simp only [hx, if_true]
    have h2 : f.block n - 1 - q.1 < f.block n := by omega
    simp only [h2, if_true, Bool.not_not]
    have h3 : f.block n - 1 - (f.block n - 1 - q.1) = q.1 := by omega
    rw [h3]
  · simp only [hx, if_false]
theorem onceF_in (hn : 12 ≤ n) : ∀ {s : List Fl} {q : Int × Bool}, okS s → inR n q.1 → inR n (onceF s n q).1
  | [], q, _, hq => hq
  | f :: s, q, hs, hq => onceF_in hn (s := s) (q := flip1 n q f) (fun g hg => hs g (List.mem_cons_of_mem _ hg)) (flip1_in (hs f List.mem_cons_self) hn hq)
theorem go_in (hn : 12 ≤ n) (hs : okS s) : ∀ (k : Nat) {q : Int × Bool}, inR n q.1 → inR n (go s n k q).1
  | 0, q, hq => hq
  | k + 1, q, hq => go_in hn hs k (onceF_in hn hs hq)
theorem onceF_app (s t : List Fl) (n : Int) (q : Int × Bool) : onceF (s ++ t) n q = onceF t n (onceF s n q) := List.foldl_append
/-- done in the opposite order, the flips take back -/
theorem once_back (hn : 12 ≤ n) : ∀ {s : List Fl} {q : Int × Bool}, okS s → inR n q.1 → onceF s.reverse n (onceF s n q) = q
  | [], q, _, _ => rfl
  | f :: s, q, hs, hq => by
    rw [List.reverse_cons, onceF_app]
    show flip1 n (onceF s.reverse n (onceF s n (flip1 n q f))) f = q
    rw [once_back hn (fun g hg => hs g (List.mem_cons_of_mem _ hg)) (flip1_in (hs f List.mem_cons_self) hn hq)]
    exact flip1_back hq.1
theorem once_inj (hn : 12 ≤ n) (hs : okS s) {q r : Int × Bool} (hq : inR n q.1) (hr : inR n r.1) (e : onceF s n q = onceF s n r) : q = r := by
  rw [← once_back hn hs hq, e, once_back hn hs hr]
/-- places alone -/
theorem once_inj1 (hn : 12 ≤ n) (hs : okS s) {x y : Int} {b c : Bool} (hx : inR n x) (hy : inR n y) (e : (onceF s n (x, b)).1 = (onceF s n (y, c)).1) : x = y := by
  rw [onceF_side0 s n x b, onceF_side0 s n y c] at e
  have e : (onceF s n (x, false)).1 = (onceF s n (y, false)).1 := e
  have e2 : onceF s n (x, (onceF s n (x, false)).2) = onceF s n (y, (onceF s n (y, false)).2) := by
    rw [onceF_side0 s n x _, onceF_side0 s n y _, e, Bool.xor_self, Bool.xor_self]
  exact congrArg Prod.fst (once_inj hn hs (q := (x, _)) (r := (y, _)) hx hy e2)
theorem go_inj1 (hn : 12 ≤ n) (hs : okS s) : ∀ (k : Nat) {x y : Int} {b c : Bool}, inR n x → inR n y → (go s n k (x, b)).1 = (go s n k (y, c)).1 → x = y
  | 0, x, y, b, c, _, _, e => e
  | k + 1, x, y, b, c, hx, hy, e => by
    have e : (go s n k (onceF s n (x, b))).1 = (go s n k (onceF s n (y, c))).1 := e
    have h := go_inj1 hn hs k (x := (onceF s n (x, b)).1) (y := (onceF s n (y, c)).1) (b := (onceF s n (x, b)).2) (c := (onceF s n (y, c)).2) (onceF_in hn hs hx) (onceF_in hn hs hy) e
    exact once_inj1 hn hs hx hy h
/-! ### pigeons -/
theorem pigeon : ∀ (n : Nat) (f : Nat → Nat), (∀ i, i ≤ n → f i < n) → ∃ i j, i < j ∧ j ≤ n ∧ f i = f j
  | 0, f, h => absurd (h 0 (Nat.le_refl 0)) (Nat.not_lt_zero _)
  | n + 1, f, h => by
    by_cases hx : ∃ i, i ≤ n ∧ f i = f (n + 1)
    · obtain ⟨i, hi, e⟩ := hx
      exact ⟨i, n + 1, by omega, Nat.le_refl _, e⟩
    · -- the value n is moved to f (n + 1)
      have hne : ∀ i, i ≤ n → f i ≠ f (n + 1) := fun i hi e => hx ⟨i, hi, e⟩
      have hlast := h (n + 1) (Nat.le_refl _)
      obtain ⟨i, j, hij, hj, e⟩ := pigeon n (fun i => if f i = n then f (n + 1) else f i) (fun i hi => by
        have h1 := h i (by omega)
        have h2 := hne i hi
        show (if f i = n then f (n + 1) else f i) < n
        split <;> omega)
      have e : (if f i = n then f (n + 1) else f i) = (if f j = n then f (n + 1) else f j) := e
      refine ⟨i, j, hij, by omega, ?_⟩
      have h1 := hne i (by omega)
      have h2 := hne j hj
      split at e <;> split at e <;> omega
/-- each place is home again behind at most n rounds -/
theorem home_some (hn : 12 ≤ n) (hs : okS s) (hp : inR n p) : ∃ L : Nat, 0 < L ∧ (L : Int) ≤ n ∧ (go s n L (p, false)).1 = p := by
  obtain ⟨N, hN⟩ : ∃ N : Nat, n = N := ⟨n.toNat, by omega⟩
  obtain ⟨i, j, hij, hj, e⟩ := pigeon N (fun k => ((go s n k (p, false)).1).toNat) (fun k _ => by
    have h := go_in hn hs k (q := (p, false)) hp
    unfold inR at h
    show ((go s n k (p, false)).1).toNat < N
    omega)
  have hi := go_in hn hs i (q := (p, false)) hp
  have hjj := go_in hn hs j (q := (p, false)) hp
  have e : (go s n i (p, false)).1.toNat = (go s n j (p, false)).1.toNat := e
  have e2 : (go s n i (p, false)).1 = (go s n j (p, false)).1 := by
    unfold inR at hi hjj
    omega
  refine ⟨j - i, by omega, by omega, ?_⟩
  have e3 : j = (j - i) + i := by omega
  rw [e3, go_add] at e2
  have h3 := go_in hn hs (j - i) (q := (p, false)) hp
  exact (go_inj1 hn hs i (x := p) (y := (go s n (j - i) (p, false)).1) (b := false) (c := (go s n (j - i) (p, false)).2) hp h3 e2).symm
/-- whole ways round -/
theorem go_rounds (s : List Fl) (n : Int) {L : Nat} {p : Int} {b : Bool} (h : go s n L (p, false) = (p, b)) : ∀ (k : Nat) (o : Bool), go s n (L * k) (p, o) = (p, o ^^ (b && decide (k % 2 = 1)))
  | 0, o => by
    have e : (decide (0 % 2 = 1)) = false := rfl
    rw [Nat.mul_zero, e, Bool.and_false, Bool.xor_false]
    rfl
  | k + 1, o => by
    rw [Nat.mul_succ, go_add, go_rounds s n h k o, go_side0, h]
    have e : decide ((k + 1) % 2 = 1) = !decide (k % 2 = 1) := by
      by_cases hk : k % 2 = 1
      · have : (k + 1) % 2 = 0 := by omega
        simp [hk, this]
      · have h2 : (k + 1) % 2 = 1 := by omega
        simp [hk, h2]
    rw [e]
    show (p, (o ^^ (b && decide (k % 2 = 1))) ^^ b) = (p, o ^^ (b && !decide (k % 2 = 1)))
    cases o <;> cases b <;> cases decide (k % 2 = 1) <;> rfl
/-- a cycle told at one place of it holds at another -/
theorem cycle_move (hn : 12 ≤ n) (hs : okS s) (hp : inR n p) {L j : Nat} {b : Bool} {p' : Int} {o : Bool} (hj : go s n j (p, false) = (p', o)) (h : go s n L (p', false) = (p', b)) : go s n L (p, false) = (p, b) := by
  have h1 : go s n (j + L) (p, false) = (p', o ^^ b) := by
    rw [go_add, hj, go_side0, h]
  have h2 : go s n (L + j) (p, false) = go s n j (go s n L (p, false)) := go_add s n L j _
  rw [Nat.add_comm, h1] at h2
  have hr := go_in hn hs L (q := (p, false)) hp
  have e1 : (go s n L (p, false)).1 = p := by
    have : (go s n j ((go s n L (p, false)).1, (go s n L (p, false)).2)).1 = (go s n j (p, false)).1 := by
      rw [hj]
      have z := congrArg Prod.fst h2.symm
      exact z
    exact go_inj1 hn hs j hr hp this
  have h3 : go s n L (p, false) = (p, (go s n L (p, false)).2) := by
    rw [← e1, e1]
    exact Prod.ext e1 rfl
  rw [h3, go_side0, hj] at h2
  have h4 : (o ^^ b) = ((go s n L (p, false)).2 ^^ o) := congrArg Prod.snd h2
  rw [h3]
  refine Prod.ext rfl ?_
  show (go s n L (p, false)).2 = b
  revert h4
  cases o <;> cases b <;> cases (go s n L (p, false)).2 <;> decide
end GF

set_option Elab.async false
set_option linter.all false
set_option maxRecDepth 100000
set_option maxHeartbeats 2000000
/-! GM3: amid a stack; rides; short cycles. Plain Lean. -/
namespace GF
variable {s : List Fl} {n p : Int}
def posM (n p : Int) (t : Bool) (c : Int) : Int := if t = true then n - 1 - p + c else p + c
theorem midF_once (n p : Int) : ∀ (s : List Fl) (t : Bool) (c q : Int), okS s → q = posM n p t c → 6 * (s.length : Int) + 6 ≤ q → q ≤ n - 1 - (6 * (s.length : Int) + 6) →
    onceF s n (q, t) = (posM n p (midF s (t, c)).1 (midF s (t, c)).2, (midF s (t, c)).1)
  | [], t, c, q, _, e, _, _ => by
    show (q, t) = (posM n p t c, t)
    rw [e]
  | f :: s, t, c, q, hs, e, h1, h2 => by
    rw [List.length_cons] at h1 h2
    have hs' : okS s := fun g hg => hs g (List.mem_cons_of_mem _ hg)
    have hf := hs f List.mem_cons_self
    cases f with
    | top k =>
      have hf : 1 ≤ k ∧ k ≤ 6 := hf
      have e1 : flip1 n (q, t) (.top k) = (q, t) := by
        unfold flip1
        rw [if_neg]
        show ¬ q < k
        omega
      show onceF s n (flip1 n (q, t) (.top k)) = _
      rw [e1]
      exact midF_once n p s t c q hs' e (by omega) (by omega)
    | but k =>
      have hf : 0 ≤ k ∧ k ≤ 6 := hf
      have e1 : flip1 n (q, t) (.but k) = (n - k - 1 - q, !t) := by
        unfold flip1
        rw [if_pos]
        · rfl
        · show q < n - k
          omega
      show onceF s n (flip1 n (q, t) (.but k)) = _
      rw [e1]
      refine midF_once n p s (!t) (-k - c) (n - k - 1 - q) hs' ?_ (by omega) (by omega)
      unfold posM at e ⊢
      cases t with
      | true =>
        simp only [if_true, Bool.not_true, Bool.false_eq_true, if_false] at e ⊢
        omega
      | false =>
        simp only [if_true, Bool.not_false, Bool.false_eq_true, if_false] at e ⊢
        omega
theorem amid_iff : isAmid s n p = true ↔ reach s ≤ p ∧ p ≤ n - 1 - reach s := by
  unfold isAmid
  rw [Bool.and_eq_true, decide_eq_true_eq, decide_eq_true_eq]
theorem amid_once (hs : okS s) (h : isAmid s n p = true) : once s n p = (posM n p (mid s).1 (mid s).2, (mid s).1) := by
  obtain ⟨h1, h2⟩ := amid_iff.mp h
  unfold reach at h1 h2
  exact midF_once n p s false 0 p hs (by unfold posM; simp) h1 h2
theorem mid_bound : ∀ (s : List Fl) (t : Bool) (c : Int), okS s → (midF s (t, c)).2.natAbs ≤ c.natAbs + 6 * s.length
  | [], t, c, _ => by show c.natAbs ≤ c.natAbs + 0; omega
  | f :: s, t, c, hs => by
    have hs' : okS s := fun g hg => hs g (List.mem_cons_of_mem _ hg)
    have hf := hs f List.mem_cons_self
    rw [List.length_cons]
    cases f with
    | top k =>
      have ih := mid_bound s t c hs'
      show (midF s (t, c)).2.natAbs ≤ _
      omega
    | but k =>
      have hf : 0 ≤ k ∧ k ≤ 6 := hf
      have ih := mid_bound s (!t) (-k - c) hs'
      show (midF s (!t, -k - c)).2.natAbs ≤ _
      omega
theorem step_bound (hs : okS s) : (mid s).2.natAbs ≤ 6 * s.length := by
  have h : (mid s).2.natAbs ≤ (0 : Int).natAbs + 6 * s.length := mid_bound s false 0 hs
  omega
/-- amid, not turned: some rounds, all amid but the last place -/
theorem go_amid (hs : okS s) (ht : (mid s).1 = false) : ∀ (k : Nat) (p : Int), (∀ j : Nat, j < k → isAmid s n (p + j * (mid s).2) = true) → go s n k (p, false) = (p + k * (mid s).2, false)
  | 0, p, _ => by
    show (p, false) = (p + ((0 : Nat) : Int) * (mid s).2, false)
    rw [Int.natCast_zero, Int.zero_mul, Int.add_zero]
  | k + 1, p, h => by
    have h0 := h 0 (Nat.succ_pos _)
    rw [Int.natCast_zero, Int.zero_mul, Int.add_zero] at h0
    have e := amid_once hs h0
    rw [ht] at e
    have e : onceF s n (p, false) = (p + (mid s).2, false) := e
    show go s n k (onceF s n (p, false)) = _
    rw [e, go_amid hs ht k (p + (mid s).2) fun j hj => ?_]
    · refine Prod.ext ?_ rfl
      show p + (mid s).2 + (k : Int) * (mid s).2 = p + ((k + 1 : Nat) : Int) * (mid s).2
      rw [Int.natCast_succ, Int.add_mul, Int.one_mul]
      omega
    · have h1 := h (j + 1) (by omega)
      rw [Int.natCast_succ, Int.add_mul, Int.one_mul] at h1
      have e2 : p + (mid s).2 + (j : Int) * (mid s).2 = p + ((j : Int) * (mid s).2 + (mid s).2) := by omega
      rw [e2]
      exact h1
def absI (i : Int) : Int := if i < 0 then -i else i
def minI (i j : Int) : Int := if j < i then j else i
def farOf (s : List Fl) (n p : Int) : Int := if (mid s).2 > 0 then n - 1 - reach s - p else p - reach s
def ride (s : List Fl) (n p most : Int) : Int × Bool × Int :=
  if (mid s).1 = true ∨ isAmid s n p = false then ((once s n p).1, (once s n p).2, 1)
  else if (mid s).2 = 0 then (p, false, most)
  else (p + minI most (farOf s n p / absI (mid s).2 + 1) * (mid s).2, false, minI most (farOf s n p / absI (mid s).2 + 1))
/-- what a ride is: some rounds at once; between them only places amid -/
structure RideOk (s : List Fl) (n p most : Int) (r : Int × Bool × Int) : Prop where
  pos : 1 ≤ r.2.2
  le : r.2.2 ≤ most
  go : go s n r.2.2.toNat (p, false) = (r.1, r.2.1)
  amid : ∀ j : Nat, 0 < j → j < r.2.2.toNat → isAmid s n (GF.go s n j (p, false)).1 = true
theorem abs_pos {i : Int} (h : i ≠ 0) : 0 < absI i := by
  unfold absI
  split <;> omega
theorem step_amid (h0 : (mid s).2 ≠ 0) (ha : isAmid s n p = true) {j : Nat} (hj : (j : Int) ≤ farOf s n p / absI (mid s).2) : isAmid s n (p + j * (mid s).2) = true := by
  have hp := abs_pos h0
  have h1 : (j : Int) * absI (mid s).2 ≤ farOf s n p := by
    have h2 := Int.mul_le_mul_of_nonneg_right hj (Int.le_of_lt hp)
    have h3 := Int.ediv_mul_le (farOf s n p) (Int.ne_of_gt hp)
    omega
  obtain ⟨a1, a2⟩ := amid_iff.mp ha
  rw [amid_iff]
  have hjj : (0 : Int) ≤ (j : Int) := Int.natCast_nonneg j
  unfold farOf absI at h1
  by_cases hx : (mid s).2 > 0
  · rw [if_pos hx, if_neg (by omega)] at h1
    have h2 : 0 ≤ (j : Int) * (mid s).2 := Int.mul_nonneg hjj (by omega)
    omega
  · rw [if_neg hx, if_pos (by omega), Int.mul_neg] at h1
    have h2 : 0 ≤ (j : Int) * -(mid s).2 := Int.mul_nonneg hjj (by omega)
    rw [Int.mul_neg] at h2
    omega
theorem far_nonneg (ha : isAmid s n p = true) : 0 ≤ farOf s n p := by
  obtain ⟨a1, a2⟩ := amid_iff.mp ha
  unfold farOf
  split <;> omega
theorem ride_ok (hs : okS s) {most : Int} (hm : 1 ≤ most) : RideOk s n p most (ride s n p most) := by
  unfold ride
  by_cases h1 : (mid s).1 = true ∨ isAmid s n p = false
  · rw [if_pos h1]
    refine ⟨Int.le_refl 1, hm, rfl, fun j h1 h2 => ?_⟩
    have h2 : j < 1 := h2
    omega
  · rw [if_neg h1]
    obtain ⟨ht, ha⟩ := not_or.mp h1
    have ht : (mid s).1 = false := by cases e : (mid s).1 with
      | true => exact absurd e ht
      | false => rfl
    have ha : isAmid s n p = true := by cases e : isAmid s n p with
      | false => exact absurd e ha
      | true => rfl
    by_cases h0 : (mid s).2 = 0
    · rw [if_pos h0]
      have hg : ∀ k : Nat, go s n k (p, false) = (p, false) := fun k => by
        rw [go_amid hs ht k p fun j _ => ?_]
        · rw [h0, Int.mul_zero, Int.add_zero]
        · rw [h0, Int.mul_zero, Int.add_zero]; exact ha
      exact ⟨hm, Int.le_refl _, hg _, fun j _ _ => by rw [hg j]; exact ha⟩
    · rw [if_neg h0]
      have hf := far_nonneg ha
      have hd : 0 ≤ farOf s n p / absI (mid s).2 := Int.ediv_nonneg hf (Int.le_of_lt (abs_pos h0))
      generalize hM : minI most (farOf s n p / absI (mid s).2 + 1) = M
      have hM1 : 1 ≤ M ∧ M ≤ most ∧ M ≤ farOf s n p / absI (mid s).2 + 1 := by
        rw [← hM]
        unfold minI
        split <;> omega
      have hk : ∀ k : Nat, (k : Int) ≤ M → go s n k (p, false) = (p + k * (mid s).2, false) := fun k hk => go_amid hs ht k p fun j hj => step_amid h0 ha (by omega)
      have eM : ((M.toNat : Nat) : Int) = M := Int.toNat_of_nonneg (by omega)
      refine ⟨hM1.1, hM1.2.1, ?_, fun j h1 h2 => ?_⟩
      · have h := hk M.toNat (by omega)
        rw [eM] at h
        exact h
      · have h2 : j < M.toNat := h2
        rw [hk j (by omega)]
        exact step_amid h0 ha (by omega)
/-- a ride out of the middle leads out of it, if it may be as long as the stack is high -/
theorem ride_out (hs : okS s) (hn : 12 ≤ n) (hp : inR n p) (ha : isAmid s n p = true) (hc : (mid s).1 = true → isAmid s n (posM n p true (mid s).2) = false) (h0 : (mid s).1 = false → (mid s).2 ≠ 0) : isAmid s n (ride s n p n).1 = false := by
  unfold ride
  by_cases h1 : (mid s).1 = true ∨ isAmid s n p = false
  · rw [if_pos h1]
    have ht : (mid s).1 = true := h1.elim id fun z => by rw [ha] at z; cases z
    show isAmid s n (once s n p).1 = false
    rw [amid_once hs ha, ht]
    exact hc ht
  · rw [if_neg h1]
    obtain ⟨ht, _⟩ := not_or.mp h1
    have ht : (mid s).1 = false := by cases e : (mid s).1 with
      | true => exact absurd e ht
      | false => rfl
    have h0 := h0 ht
    rw [if_neg h0]
    show isAmid s n (p + minI n (farOf s n p / absI (mid s).2 + 1) * (mid s).2) = false
    have hf := far_nonneg ha
    have hap := abs_pos h0
    obtain ⟨a1, a2⟩ := amid_iff.mp ha
    have hr : 0 ≤ reach s := by unfold reach; omega
    have hd : 0 ≤ farOf s n p / absI (mid s).2 := Int.ediv_nonneg hf (Int.le_of_lt hap)
    have hle : farOf s n p / absI (mid s).2 ≤ farOf s n p := Int.ediv_le_self _ hf
    have hfn : farOf s n p < n := by
      unfold inR at hp
      unfold farOf
      split <;> omega
    have eM : minI n (farOf s n p / absI (mid s).2 + 1) = farOf s n p / absI (mid s).2 + 1 := by
      unfold minI
      split <;> omega
    rw [eM]
    have hlt := Int.lt_ediv_add_one_mul_self (farOf s n p) hap
    generalize hQ : farOf s n p / absI (mid s).2 + 1 = Q at *
    cases e : isAmid s n (p + Q * (mid s).2) with
    | false => rfl
    | true =>
      exfalso
      obtain ⟨b1, b2⟩ := amid_iff.mp e
      unfold farOf absI at hlt
      by_cases hx : (mid s).2 > 0
      · rw [if_pos hx, if_neg (by omega)] at hlt
        omega
      · rw [if_neg hx, if_pos (by omega), Int.mul_neg] at hlt
        omega
/-! ### short cycles -/
def shortC (s : List Fl) (n p : Int) : Option (Int × Bool) :=
  if isAmid s n p = false then none
  else if (mid s).1 = false then (if (mid s).2 = 0 then some (1, false) else none)
  else if n - 1 - p + (mid s).2 = p then some (1, true)
  else if isAmid s n (n - 1 - p + (mid s).2) = true then some (2, false) else none
theorem short_ok (hs : okS s) {L : Int} {b : Bool} (h : shortC s n p = some (L, b)) : 0 < L ∧ L ≤ 2 ∧ go s n L.toNat (p, false) = (p, b) := by
  unfold shortC at h
  by_cases ha : isAmid s n p = false
  · rw [if_pos ha] at h; cases h
  · rw [if_neg ha] at h
    have ha : isAmid s n p = true := by cases e : isAmid s n p with
      | false => exact absurd e ha
      | true => rfl
    have e := amid_once hs ha
    have e : onceF s n (p, false) = (posM n p (mid s).1 (mid s).2, (mid s).1) := e
    cases ht : (mid s).1 with
    | false =>
      rw [if_pos ht] at h
      by_cases h0 : (mid s).2 = 0
      · rw [if_pos h0] at h
        cases h
        refine ⟨by decide, by decide, ?_⟩
        show onceF s n (p, false) = (p, false)
        rw [e, ht, h0]
        unfold posM
        simp
      · rw [if_neg h0] at h; cases h
    | true =>
      rw [if_neg (by rw [ht]; decide)] at h
      rw [ht] at e
      have e : onceF s n (p, false) = (n - 1 - p + (mid s).2, true) := e
      by_cases h1 : n - 1 - p + (mid s).2 = p
      · rw [if_pos h1] at h
        cases h
        refine ⟨by decide, by decide, ?_⟩
        show onceF s n (p, false) = (p, true)
        rw [e, h1]
      · rw [if_neg h1] at h
        by_cases h2 : isAmid s n (n - 1 - p + (mid s).2) = true
        · rw [if_pos h2] at h
          cases h
          refine ⟨by decide, by decide, ?_⟩
          show onceF s n (onceF s n (p, false)) = (p, false)
          rw [e, onceF_side0]
          have e2 : onceF s n (n - 1 - p + (mid s).2, false) = _ := amid_once hs h2
          rw [e2, ht]
          refine Prod.ext ?_ rfl
          show n - 1 - (n - 1 - p + (mid s).2) + (mid s).2 = p
          omega
        · rw [if_neg h2] at h; cases h
/-- amid, and no short cycle: the next ride leads out -/
theorem none_out (hs : okS s) (hn : 12 ≤ n) (hp : inR n p) (h : shortC s n p = none) (ha : isAmid s n p = true) : isAmid s n (ride s n p n).1 = false := by
  unfold shortC at h
  rw [if_neg (by rw [ha]; decide)] at h
  refine ride_out hs hn hp ha (fun ht => ?_) fun ht => ?_
  · rw [if_neg (by rw [ht]; decide)] at h
    split at h
    · cases h
    · split at h
      · cases h
      · rename_i h2
        show isAmid s n (n - 1 - p + (mid s).2) = false
        cases e : isAmid s n (n - 1 - p + (mid s).2) with
        | true => exact absurd e h2
        | false => rfl
  · rw [if_pos ht] at h
    split at h
    · cases h
    · assumption
end GF

set_option Elab.async false
set_option linter.all false
set_option maxRecDepth 100000
set_option maxHeartbeats 2000000
/-! SP3: rides, cycles, after: promises over data and what the programs compute. -/
namespace GF
open PySem PySem.Spec PyProof.Rows L2 HT DL
theorem onceP0 (x y : D) : atI [x, y] 0 = some x := rfl
theorem onceP1 (x y : D) : atI [x, y] 1 = some y := rfl
theorem onceP2 (x y z : D) : atI [x, y, z] 0 = some x := rfl
local macro_rules | `(tactic| walk_at "ev") => `(tactic| simp only [dSeq, dNext, dIfS, dRet, dRetN, dAsg, dDrop, dgN, dgT, dgNs, dgCons, dgNil, dPar, dPar3, dRaise, dCallF, dCall, dCons, dNil, dTup, dLst, dC, dVar, dBin, dChain, dAndV, dOrV, dNotV, dIf, dB, dAndT, dOrT, dNotT, dNeg, dIsiE,
  dAdd, dSub, dMul, dMod, dFdiv, dPow, dLt, dLe, dGt, dGe, dCmpI, dEq, dNe, dIs, dIsNot, dIx, ixD, dLen, lenD, dAbs, dMax, dMin, dInt, dTuple, dList, dFor, dForD, diSeq, itemsD, diRange1, diRange2, dLc, dYes, wipeD,
  List.getElem?_cons_zero, List.getElem?_cons_succ, List.set_cons_zero, List.set_cons_succ, List.length_cons, List.length_nil, if_true, Bool.false_eq_true, if_false, Bool.not_true, Bool.not_false, Bool.true_and, Bool.false_and, Bool.and_true, Bool.and_false,
  ok_int, ok_bl, ok_non, deq_int, deq_bl, deq_str, true_and, and_true, k_int, k_bool, k_tuple, k_str, isNon, encP, onceP0, onceP1, onceP2])
/-- what rides and cycles are asked for -/
structure StOk (s : List Fl) (n p : Int) : Prop where
  ok : okS s
  len : s.length ≤ 100
  n12 : 12 ≤ n
  nb : big n
  pin : inR n p
theorem StOk.at {s : List Fl} {n p p' : Int} (h : StOk s n p) (hp : inR n p') : StOk s n p' := ⟨h.ok, h.len, h.n12, h.nb, hp⟩
def sp_ride (a : Ads) : DSpec := fun ds μ P _ => ∃ s n p most, ds = [encS s, .int n, .int p, .int most] ∧ StOk s n p ∧ 1 ≤ most ∧ big most ∧ P (.tup [.int (ride s n p most).1, .bl (ride s n p most).2.1, .int (ride s n p most).2.2]) μ
def sp_rides (a : Ads) : DSpec := fun ds μ P _ => ∃ s n p r, ds = [encS s, .int n, .int p, .int r] ∧ StOk s n p ∧ 0 ≤ r ∧ big r ∧ P (encP (go s n r.toNat (p, false))) μ
def encO : Option (Int × Bool) → D
  | none => .non
  | some q => encP q
def sp_short_cycle (a : Ads) : DSpec := fun ds μ P _ => ∃ s n p, ds = [encS s, .int n, .int p] ∧ StOk s n p ∧ P (encO (shortC s n p)) μ
def sp_cycle_of (a : Ads) : DSpec := fun ds μ P _ => ∃ s n p, ds = [encS s, .int n, .int p] ∧ StOk s n p ∧ ∀ L b, 0 < L → big L → go s n L.toNat (p, false) = (p, b) → P (encP (L, b)) μ
def sp_after_rounds (a : Ads) : DSpec := fun ds μ P _ => ∃ s n p r, ds = [encS s, .int n, .int p, .int r] ∧ StOk s n p ∧ 0 ≤ r ∧ big r ∧ P (encP (go s n r.toNat (p, false))) μ
def td_ride (a : Ads) : WD → TDS := fun Wd => (dSeq (dAsg (dCallF (sp_middle_of a) Wd (dCons (dVar 0) dNil)) (dgT 2 (dgCons (dgN 4) (dgCons (dgN 5) dgNil)))) (dSeq (dIfS (dOrT (dB (dVar 4)) (dNotT (dB (dCallF (sp_is_amid a) Wd (dCons (dVar 0) (dCons (dVar 1) (dCons (dVar 2) dNil))))))) (dSeq (dAsg (dCallF (sp_once a) Wd (dCons (dVar 0) (dCons (dVar 1) (dCons (dVar 2) dNil)))) (dgN 6)) (dRet (dTup (dCons (dBin dIx (dVar 6) (dC (.int 0))) (dCons (dBin dIx (dVar 6) (dC (.int 1))) (dCons (dC (.int 1)) dNil)))))) dNext) (dSeq (dIfS (dB (dBin dEq (dVar 5) (dC (.int 0)))) (dRet (dTup (dCons (dVar 2) (dCons (dC (.bl false)) (dCons (dVar 3) dNil))))) dNext) (dSeq (dAsg (dIf (dB (dBin dGt (dVar 5) (dC (.int 0)))) (dBin dSub (dBin dSub (dBin dSub (dVar 1) (dC (.int 1))) (dCallF (sp_reach_of a) Wd (dCons (dVar 0) dNil))) (dVar 2)) (dBin dSub (dVar 2) (dCallF (sp_reach_of a) Wd (dCons (dVar 0) dNil)))) (dgN 7)) (dSeq (dAsg (dCall dMin (dCons (dVar 3) (dCons (dBin dAdd (dBin dFdiv (dVar 7) (dCall dAbs (dCons (dVar 5) dNil))) (dC (.int 1))) dNil))) (dgN 8)) (dRet (dTup (dCons (dBin dAdd (dVar 2) (dBin dMul (dVar 8) (dVar 5))) (dCons (dC (.bl false)) (dCons (dVar 8) dNil))))))))))
def lc1_rides (a : Ads) : WD → TDT := fun Wd => (dB (dBin dGt (dVar 3) (dC (.int 0))))
def lb1_rides (a : Ads) : WD → TDS := fun Wd => (dSeq (dAsg (dCallF (sp_ride a) Wd (dCons (dVar 0) (dCons (dVar 1) (dCons (dVar 2) (dCons (dVar 3) dNil))))) (dgT 3 (dgCons (dgN 2) (dgCons (dgN 5) (dgCons (dgN 6) dgNil))))) (dPar 4 3 (dCons (dBin dNe (dVar 4) (dVar 5)) (dCons (dBin dSub (dVar 3) (dVar 6)) dNil))))
def td_rides (a : Ads) : WD → TDS := fun Wd => (dSeq (dAsg (dC (.bl false)) (dgN 4)) (dSeq (dWhile (lc1_rides a Wd) (lb1_rides a Wd)) (dRet (dTup (dCons (dVar 2) (dCons (dVar 4) dNil))))))
def td_short_cycle (a : Ads) : WD → TDS := fun Wd => (dSeq (dAsg (dCallF (sp_middle_of a) Wd (dCons (dVar 0) dNil)) (dgT 2 (dgCons (dgN 3) (dgCons (dgN 4) dgNil)))) (dSeq (dIfS (dNotT (dB (dCallF (sp_is_amid a) Wd (dCons (dVar 0) (dCons (dVar 1) (dCons (dVar 2) dNil)))))) (dRet (dC .non)) dNext) (dSeq (dIfS (dNotT (dB (dVar 3))) (dRet (dIf (dB (dBin dEq (dVar 4) (dC (.int 0)))) (dTup (dCons (dC (.int 1)) (dCons (dC (.bl false)) dNil))) (dC .non))) dNext) (dSeq (dAsg (dBin dAdd (dBin dSub (dBin dSub (dVar 1) (dC (.int 1))) (dVar 2)) (dVar 4)) (dgN 5)) (dSeq (dIfS (dB (dBin dEq (dVar 5) (dVar 2))) (dRet (dTup (dCons (dC (.int 1)) (dCons (dC (.bl true)) dNil)))) dNext) (dRet (dIf (dB (dCallF (sp_is_amid a) Wd (dCons (dVar 0) (dCons (dVar 1) (dCons (dVar 5) dNil))))) (dTup (dCons (dC (.int 2)) (dCons (dC (.bl false)) dNil))) (dC .non))))))))
def lc1_cycle_of (a : Ads) : WD → TDT := fun Wd => (dB (dCallF (sp_is_amid a) Wd (dCons (dVar 0) (dCons (dVar 1) (dCons (dVar 2) dNil)))))
def lb1_cycle_of (a : Ads) : WD → TDS := fun Wd => (dAsg (dBin dIx (dCallF (sp_ride a) Wd (dCons (dVar 0) (dCons (dVar 1) (dCons (dVar 2) (dCons (dVar 1) dNil))))) (dC (.int 0))) (dgN 2))
def lc2_cycle_of (a : Ads) : WD → TDT := fun Wd => (dB (dBin dNe (dVar 4) (dVar 2)))
def lb2_cycle_of (a : Ads) : WD → TDS := fun Wd => (dSeq (dAsg (dCallF (sp_ride a) Wd (dCons (dVar 0) (dCons (dVar 1) (dCons (dVar 4) (dCons (dVar 1) dNil))))) (dgT 3 (dgCons (dgN 4) (dgCons (dgN 7) (dgCons (dgN 8) dgNil))))) (dPar 5 6 (dCons (dBin dNe (dVar 5) (dVar 7)) (dCons (dBin dAdd (dVar 6) (dVar 8)) dNil))))
def td_cycle_of (a : Ads) : WD → TDS := fun Wd => (dSeq (dAsg (dCallF (sp_short_cycle a) Wd (dCons (dVar 0) (dCons (dVar 1) (dCons (dVar 2) dNil)))) (dgN 3)) (dSeq (dIfS (dB (dBin dIsNot (dVar 3) (dC .non))) (dRet (dVar 3)) dNext) (dSeq (dWhile (lc1_cycle_of a Wd) (lb1_cycle_of a Wd)) (dSeq (dAsg (dCallF (sp_ride a) Wd (dCons (dVar 0) (dCons (dVar 1) (dCons (dVar 2) (dCons (dVar 1) dNil))))) (dgT 3 (dgCons (dgN 4) (dgCons (dgN 5) (dgCons (dgN 6) dgNil))))) (dSeq (dWhile (lc2_cycle_of a Wd) (lb2_cycle_of a Wd)) (dRet (dTup (dCons (dVar 6) (dCons (dVar 5) dNil)))))))))
def td_after_rounds (a : Ads) : WD → TDS := fun Wd => (dSeq (dAsg (dCallF (sp_cycle_of a) Wd (dCons (dVar 0) (dCons (dVar 1) (dCons (dVar 2) dNil)))) (dgT 2 (dgCons (dgN 4) (dgCons (dgN 5) dgNil)))) (dSeq (dAsg (dCallF (sp_rides a) Wd (dCons (dVar 0) (dCons (dVar 1) (dCons (dVar 2) (dCons (dBin dMod (dVar 3) (dVar 4)) dNil))))) (dgT 2 (dgCons (dgN 6) (dgCons (dgN 7) dgNil)))) (dRet (dTup (dCons (dVar 6) (dCons (dBin dNe (dVar 7) (dAndV (dVar 5) (dBin dEq (dBin dMod (dBin dFdiv (dVar 3) (dVar 4)) (dC (.int 2))) (dC (.int 1))))) dNil))))))
theorem big_wide {i : Int} (h : big i) : i.natAbs < 2 ^ 200 := h
theorem step_wide {s : List Fl} (hs : okS s) (hl : s.length ≤ 100) : (mid s).2.natAbs < 2 ^ 10 := by
  have h := step_bound hs
  omega
theorem abs_wide {i : Int} {k : Nat} (h : i.natAbs < k) : (absI i).natAbs < k := by
  unfold absI
  split <;> omega
theorem se_ride (a : Ads) {ds μ P Pe} (h : sp_ride a ds μ P Pe) : td_ride a (fun cls _ μ => Pe cls μ) (EE P) (startD ["script", "n", "place", "most", "turned", "step", "found", "far", "many"] ds) μ := by
  obtain ⟨s, n, p, most, rfl, H, hm, hb, h⟩ := h
  show td_ride a _ _ [some (encS s), some (.int n), some (.int p), some (.int most), none, none, none, none, none] μ
  unfold td_ride
  walk_at "ev"
  refine ⟨s, rfl, ?_⟩
  unfold ride at h
  walk_at "ev"
  cases ht : (mid s).1 with
  | true =>
    simp only [if_true]
    refine ⟨s, n, p, rfl, ?_⟩
    walk_at "ev"
    rw [if_pos (.inl ht)] at h
    exact ⟨three_line, h⟩
  | false =>
    walk_at "ev"
    refine ⟨s, n, p, rfl, H.len, ?_⟩
    cases ha : isAmid s n p with
    | false =>
      walk_at "ev"
      refine ⟨s, n, p, rfl, ?_⟩
      walk_at "ev"
      rw [if_pos (.inr ha)] at h
      exact ⟨three_line, h⟩
    | true =>
      walk_at "ev"
      rw [if_neg (by rw [ht, ha]; decide)] at h
      by_cases h0 : (mid s).2 = 0
      · rw [if_pos h0] at h
        simp only [h0, decide_true, if_true]
        exact ⟨three_line, h⟩
      · rw [if_neg h0] at h
        simp only [h0, decide_false, Bool.false_eq_true, if_false]
        have hw := step_wide H.ok H.len
        have rest : ∀ (far : Int), far = farOf s n p → CDivW far (absI (mid s).2) ∧ IntMulOk (minI most (far / absI (mid s).2 + 1)) (mid s).2 ∧ 3 ≤ sizeLine ∧ P (.tup [.int (p + minI most (far / absI (mid s).2 + 1) * (mid s).2), .bl false, .int (minI most (far / absI (mid s).2 + 1))]) μ := by
          rintro far rfl
          refine ⟨wide_div (abs_pos h0) (abs_wide hw) (by decide) (by decide), ?_, three_line, h⟩
          have hr := ride_ok (n := n) (p := p) H.ok hm
          unfold ride at hr
          rw [if_neg (by rw [ht, ha]; decide), if_neg h0] at hr
          refine (wide_mul (a := 200) (b := 10) ?_ hw (by decide) (by decide) (by decide)).ok
          exact wide_le (by have h1 : 1 ≤ minI most (farOf s n p / absI (mid s).2 + 1) := hr.pos; omega) hr.le hb
        by_cases hx : 0 < (mid s).2
        · simp only [hx, decide_true, if_true]
          refine ⟨s, rfl, H.len, ?_⟩
          exact rest _ (by unfold farOf; rw [if_pos hx])
        · simp only [hx, decide_false, Bool.false_eq_true, if_false]
          refine ⟨s, rfl, H.len, ?_⟩
          exact rest _ (by unfold farOf; rw [if_neg hx])
theorem big_le {i j : Int} (hi : 0 ≤ i) (h : i ≤ j) (b : big j) : big i := by unfold big at *; omega
theorem while_succ {c : TDT} {tb : TDS} {E : DE} {n : Nat} {δ : Nv} {μ : Mu} (h : c δ μ fun b μ1 => if b = true then tb { nx := dWhileN c tb E n, rt := E.rt, bk := E.nx, ct := dWhileN c tb E n } δ μ1 else E.nx δ μ1) : dWhileN c tb E (n + 1) δ μ := h
theorem rides_loop (a : Ads) {s : List Fl} {n : Int} {Wd : WD} {E : DE} {μ : Mu} : ∀ (m : Nat) (p r : Int) (t : Bool) (x5 x6 : Option D), r.toNat ≤ m → 0 ≤ r → big r → StOk s n p →
    (∀ x3 x5 x6, E.nx [some (encS s), some (.int n), some (.int (go s n r.toNat (p, t)).1), x3, some (.bl (go s n r.toNat (p, t)).2), x5, x6] μ) →
    dWhileN (lc1_rides a Wd) (lb1_rides a Wd) E (m + 1) [some (encS s), some (.int n), some (.int p), some (.int r), some (.bl t), x5, x6] μ := by
  intro m
  induction m with
  | zero =>
    intro p r t x5 x6 hm hr hb H hE
    have e : r = 0 := by omega
    subst e
    exact hE _ _ _
  | succ m ih =>
    intro p r t x5 x6 hm hr hb H hE
    refine while_succ ?_
    show dB (dBin dGt (dVar 3) (dC (.int 0))) _ _ _
    walk_at "ev"
    by_cases h0 : 0 < r
    · simp only [h0, decide_true, if_true]
      show (dSeq (dAsg (dCallF (sp_ride a) Wd (dCons (dVar 0) (dCons (dVar 1) (dCons (dVar 2) (dCons (dVar 3) dNil))))) (dgT 3 (dgCons (dgN 2) (dgCons (dgN 5) (dgCons (dgN 6) dgNil))))) (dPar 4 3 (dCons (dBin dNe (dVar 4) (dVar 5)) (dCons (dBin dSub (dVar 3) (dVar 6)) dNil)))) _ _ _
      walk_at "ev"
      have ho := ride_ok (n := n) (p := p) H.ok (most := r) (by omega)
      refine ⟨s, n, p, r, rfl, H, by omega, hb, ?_⟩
      generalize hR : ride s n p r = R at *
      obtain ⟨p1, b1, k1⟩ := R
      have h1 : 1 ≤ k1 := ho.pos
      have h2 : k1 ≤ r := ho.le
      have h3 : go s n k1.toNat (p, false) = (p1, b1) := ho.go
      walk_at "ev"
      have hin : inR n p1 := by
        have h := go_in H.n12 H.ok k1.toNat (q := (p, false)) H.pin
        rw [h3] at h
        exact h
      have e : go s n r.toNat (p, t) = go s n (r - k1).toNat (p1, (t ^^ b1)) := by
        have e1 : r.toNat = k1.toNat + (r - k1).toNat := by omega
        rw [e1, go_add, go_side0 s n k1.toNat p t, h3]
      have eb : (!decide (t = b1)) = (t ^^ b1) := by cases t <;> cases b1 <;> rfl
      rw [eb]
      refine ih p1 (r - k1) (t ^^ b1) _ _ (by omega) (by omega) (big_le (by omega) (by omega) hb) (H.at hin) ?_
      rw [← e]
      exact hE
    · have e : r = 0 := by omega
      subst e
      exact hE _ _ _
theorem se_rides (a : Ads) {ds μ P Pe} (h : sp_rides a ds μ P Pe) : td_rides a (fun cls _ μ => Pe cls μ) (EE P) (startD ["script", "n", "place", "rounds", "over", "side", "many"] ds) μ := by
  obtain ⟨s, n, p, r, rfl, H, hr, hb, h⟩ := h
  show td_rides a _ _ [some (encS s), some (.int n), some (.int p), some (.int r), none, none, none] μ
  unfold td_rides
  walk_at "ev"
  refine ⟨r.toNat + 1, rides_loop a r.toNat p r false none none (Nat.le_refl _) hr hb H fun x3 x5 x6 => ?_⟩
  walk_at "ev"
  exact ⟨two_line, h⟩
theorem se_short_cycle (a : Ads) {ds μ P Pe} (h : sp_short_cycle a ds μ P Pe) : td_short_cycle a (fun cls _ μ => Pe cls μ) (EE P) (startD ["script", "n", "place", "turned", "step", "there"] ds) μ := by
  obtain ⟨s, n, p, rfl, H, h⟩ := h
  show td_short_cycle a _ _ [some (encS s), some (.int n), some (.int p), none, none, none] μ
  unfold td_short_cycle
  walk_at "ev"
  refine ⟨s, rfl, ?_⟩
  walk_at "ev"
  refine ⟨s, n, p, rfl, H.len, ?_⟩
  walk_at "ev"
  unfold shortC at h
  cases ha : isAmid s n p with
  | false =>
    rw [if_pos ha] at h
    walk_at "ev"
    exact h
  | true =>
    rw [if_neg (by rw [ha]; decide)] at h
    walk_at "ev"
    cases ht : (mid s).1 with
    | false =>
      rw [if_pos ht] at h
      walk_at "ev"
      by_cases h0 : (mid s).2 = 0
      · rw [if_pos h0] at h
        simp only [h0, decide_true, if_true]
        exact ⟨two_line, h⟩
      · rw [if_neg h0] at h
        simp only [h0, decide_false, Bool.false_eq_true, if_false]
        exact h
    | true =>
      rw [if_neg (by rw [ht]; decide)] at h
      walk_at "ev"
      by_cases h1 : n - 1 - p + (mid s).2 = p
      · rw [if_pos h1] at h
        simp only [h1, decide_true, if_true]
        exact ⟨two_line, h⟩
      · rw [if_neg h1] at h
        simp only [h1, decide_false, Bool.false_eq_true, if_false]
        refine ⟨s, n, _, rfl, H.len, ?_⟩
        cases h2 : isAmid s n (n - 1 - p + (mid s).2) with
        | true =>
          rw [if_pos h2] at h
          walk_at "ev"
          exact ⟨two_line, h⟩
        | false =>
          rw [if_neg (by rw [h2]; decide)] at h
          walk_at "ev"
          exact h
theorem home_loop (a : Ads) {s : List Fl} {n p : Int} {L : Nat} {Wd : WD} {E : DE} {μ : Mu} (H : StOk s n p) (ha : isAmid s n p = false) (hL : (L : Int) ≤ n) (hh : (go s n L (p, false)).1 = p) {x3 : Option D} :
    (∀ (m : Nat) b x4 x7 x8, 0 < m → (m : Int) ≤ n → go s n m (p, false) = (p, b) → E.nx [some (encS s), some (.int n), some (.int p), x3, x4, some (.bl b), some (.int m), x7, x8] μ) →
    ∀ (K k m : Nat) (q : Int) (b : Bool) (x7 x8 : Option D), k ≤ K → 0 < m → m + k = L → go s n m (p, false) = (q, b) →
    dWhileN (lc2_cycle_of a Wd) (lb2_cycle_of a Wd) E (K + 1) [some (encS s), some (.int n), some (.int p), x3, some (.int q), some (.bl b), some (.int m), x7, x8] μ := by
  intro hE K
  induction K with
  | zero =>
    intro k m q b x7 x8 hK hm hk hg
    refine while_succ ?_
    show dB (dBin dNe (dVar 4) (dVar 2)) _ _ _
    walk_at "ev"
    have hq : q = p := by
      have e : m = L := by omega
      rw [e] at hg
      rw [hg] at hh
      exact hh
    subst hq
    simp only [decide_true, Bool.not_true, Bool.false_eq_true, if_false]
    exact hE m b _ _ _ hm (by omega) hg
  | succ K ih =>
    intro k m q b x7 x8 hK hm hk hg
    refine while_succ ?_
    show dB (dBin dNe (dVar 4) (dVar 2)) _ _ _
    walk_at "ev"
    by_cases h0 : q = p
    · subst h0
      simp only [decide_true, Bool.not_true, Bool.false_eq_true, if_false]
      exact hE m b _ _ _ hm (by omega) hg
    · simp only [h0, decide_false, Bool.not_false, if_true]
      show (dSeq (dAsg (dCallF (sp_ride a) Wd (dCons (dVar 0) (dCons (dVar 1) (dCons (dVar 4) (dCons (dVar 1) dNil))))) (dgT 3 (dgCons (dgN 4) (dgCons (dgN 7) (dgCons (dgN 8) dgNil))))) (dPar 5 6 (dCons (dBin dNe (dVar 5) (dVar 7)) (dCons (dBin dAdd (dVar 6) (dVar 8)) dNil)))) _ _ _
      walk_at "ev"
      have hin : inR n q := by
        have h := go_in H.n12 H.ok m (q := (p, false)) H.pin
        rw [hg] at h
        exact h
      have hkk : k ≠ 0 := by
        rintro rfl
        rw [Nat.add_zero] at hk
        subst hk
        rw [hg] at hh
        exact h0 hh
      have hn := H.n12
      have ho := ride_ok (n := n) (p := q) H.ok (most := n) (by omega)
      refine ⟨s, n, q, n, rfl, H.at hin, by omega, H.nb, ?_⟩
      generalize hR : ride s n q n = R at *
      obtain ⟨p1, b1, k1⟩ := R
      have h1 : 1 ≤ k1 := ho.pos
      have h3 : go s n k1.toNat (q, false) = (p1, b1) := ho.go
      have h4 : ∀ j : Nat, 0 < j → j < k1.toNat → isAmid s n (GF.go s n j (q, false)).1 = true := ho.amid
      have hle : k1.toNat ≤ k := by
        apply Decidable.byContradiction
        intro hlt
        have h5 := h4 k (by omega) (by omega)
        have e : go s n L (p, false) = ((go s n k (q, false)).1, b ^^ (go s n k (q, false)).2) := by
          rw [← hk, go_add, hg, go_side0]
        rw [e] at hh
        have hh : (go s n k (q, false)).1 = p := hh
        rw [hh, ha] at h5
        cases h5
      walk_at "ev"
      have eb : (!decide (b = b1)) = (b ^^ b1) := by cases b <;> cases b1 <;> rfl
      rw [eb]
      have hg2 : go s n (m + k1.toNat) (p, false) = (p1, b ^^ b1) := by
        rw [go_add, hg, go_side0, h3]
      have e6 : ((m : Nat) : Int) + k1 = ((m + k1.toNat : Nat) : Int) := by omega
      rw [e6]
      exact ih (k - k1.toNat) (m + k1.toNat) p1 (b ^^ b1) _ _ (by omega) (by omega) (by omega) hg2
theorem cycle_rest (a : Ads) {s : List Fl} {n p : Int} {P : DK} {Pe : Value → Mu → Prop} {μ : Mu} {x3 : Option D} (H : StOk s n p) (ha : isAmid s n p = false) (h : ∀ L b, 0 < L → big L → go s n L.toNat (p, false) = (p, b) → P (encP (L, b)) μ) :
    dSeq (dAsg (dCallF (sp_ride a) (fun cls _ μ => Pe cls μ) (dCons (dVar 0) (dCons (dVar 1) (dCons (dVar 2) (dCons (dVar 1) dNil))))) (dgT 3 (dgCons (dgN 4) (dgCons (dgN 5) (dgCons (dgN 6) dgNil)))))
      (dSeq (dWhile (lc2_cycle_of a fun cls _ μ => Pe cls μ) (lb2_cycle_of a fun cls _ μ => Pe cls μ)) (dRet (dTup (dCons (dVar 6) (dCons (dVar 5) dNil))))) (EE P) [some (encS s), some (.int n), some (.int p), x3, none, none, none, none, none] μ := by
  walk_at "ev"
  have hn := H.n12
  refine ⟨s, n, p, n, rfl, H, by omega, H.nb, ?_⟩
  have ho := ride_ok (n := n) (p := p) H.ok (most := n) (by omega)
  have e : ride s n p n = ((once s n p).1, (once s n p).2, 1) := by
    unfold ride
    rw [if_pos (.inr ha)]
  rw [e]
  walk_at "ev"
  obtain ⟨L, hL, hLn, hh⟩ := home_some H.n12 H.ok H.pin
  refine ⟨L - 1 + 1, home_loop a H ha hLn hh ?_ (L - 1) (L - 1) 1 _ _ _ _ (Nat.le_refl _) (by omega) (by omega) rfl⟩
  intro m b x4 x7 x8 h0 hmn hg
  walk_at "ev"
  refine ⟨two_line, h _ _ (Int.ofNat_lt.mpr h0) (big_le (Int.natCast_nonneg m) hmn H.nb) ?_⟩
  rw [Int.toNat_natCast]
  exact hg
theorem se_cycle_of (a : Ads) {ds μ P Pe} (h : sp_cycle_of a ds μ P Pe) : td_cycle_of a (fun cls _ μ => Pe cls μ) (EE P) (startD ["script", "n", "place", "short", "here", "over", "length", "side", "many"] ds) μ := by
  obtain ⟨s, n, p, rfl, H, h⟩ := h
  show td_cycle_of a _ _ [some (encS s), some (.int n), some (.int p), none, none, none, none, none, none] μ
  unfold td_cycle_of
  refine ⟨s, n, p, rfl, H, ?_⟩
  cases hs : shortC s n p with
  | some r =>
    obtain ⟨L, b⟩ := r
    obtain ⟨h1, h2, h3⟩ := short_ok H.ok hs
    walk_at "ev"
    simp only [encO, encP]
    walk_at "ev"
    exact h L b h1 (by unfold big; omega) h3
  | none =>
    simp only [encO]
    have tl : ∀ {N : Nat} {q : Int}, StOk s n q → isAmid s n q = false → (∀ L b, 0 < L → big L → go s n L.toNat (q, false) = (q, b) → P (encP (L, b)) μ) → dWhileN (lc1_cycle_of a fun cls _ μ => Pe cls μ) (lb1_cycle_of a fun cls _ μ => Pe cls μ)
        { nx := dSeq (dAsg (dCallF (sp_ride a) (fun cls _ μ => Pe cls μ) (dCons (dVar 0) (dCons (dVar 1) (dCons (dVar 2) (dCons (dVar 1) dNil))))) (dgT 3 (dgCons (dgN 4) (dgCons (dgN 5) (dgCons (dgN 6) dgNil)))))           (dSeq (dWhile (lc2_cycle_of a fun cls _ μ => Pe cls μ) (lb2_cycle_of a fun cls _ μ => Pe cls μ)) (dRet (dTup (dCons (dVar 6) (dCons (dVar 5) dNil))))) (EE P), rt := P } (N + 1) [some (encS s), some (.int n), some (.int q), some .non, none, none, none, none, none] μ := by
      intro N q Hq hq hh
      refine while_succ ?_
      show dB (dCallF (sp_is_amid a) _ (dCons (dVar 0) (dCons (dVar 1) (dCons (dVar 2) dNil)))) _ _ _
      walk_at "ev"
      refine ⟨s, n, q, rfl, H.len, ?_⟩
      rw [hq]
      walk_at "ev"
      exact cycle_rest a Hq hq hh
    cases ha : isAmid s n p with
    | false =>
      walk_at "ev"
      exact ⟨1, tl H ha h⟩
    | true =>
      walk_at "ev"
      refine ⟨2, while_succ ?_⟩
      show dB (dCallF (sp_is_amid a) _ (dCons (dVar 0) (dCons (dVar 1) (dCons (dVar 2) dNil)))) _ _ _
      walk_at "ev"
      refine ⟨s, n, p, rfl, H.len, ?_⟩
      rw [ha]
      walk_at "ev"
      show dAsg (dBin dIx (dCallF (sp_ride a) _ (dCons (dVar 0) (dCons (dVar 1) (dCons (dVar 2) (dCons (dVar 1) dNil))))) (dC (.int 0))) (dgN 2) _ _ _
      walk_at "ev"
      have hn := H.n12
      refine ⟨s, n, p, n, rfl, H, by omega, H.nb, ?_⟩
      have ho := ride_ok (n := n) (p := p) H.ok (most := n) (by omega)
      have hout := none_out H.ok H.n12 H.pin hs ha
      generalize hR : ride s n p n = R at *
      obtain ⟨p1, b1, k1⟩ := R
      have h1 : 1 ≤ k1 := ho.pos
      have h3 : go s n k1.toNat (p, false) = (p1, b1) := ho.go
      have hin : inR n p1 := by
        have h := go_in H.n12 H.ok k1.toNat (q := (p, false)) H.pin
        rw [h3] at h
        exact h
      walk_at "ev"
      refine tl (H.at hin) hout fun L b hL hb hg => h L b hL hb ?_
      exact cycle_move H.n12 H.ok H.pin h3 hg
theorem big_div {i j : Int} (hi : 0 ≤ i) (hj : 0 < j) (b : big i) : big (i / j) := big_le (Int.ediv_nonneg hi (Int.le_of_lt hj)) (Int.ediv_le_self _ hi) b
theorem se_after_rounds (a : Ads) {ds μ P Pe} (h : sp_after_rounds a ds μ P Pe) : td_after_rounds a (fun cls _ μ => Pe cls μ) (EE P) (startD ["script", "n", "place", "rounds", "length", "side", "there", "over"] ds) μ := by
  obtain ⟨s, n, p, r, rfl, H, hr, hb, h⟩ := h
  show td_after_rounds a _ _ [some (encS s), some (.int n), some (.int p), some (.int r), none, none, none, none] μ
  unfold td_after_rounds
  walk_at "ev"
  refine ⟨s, n, p, rfl, H, fun L b hL hLb hg => ?_⟩
  walk_at "ev"
  have hd : CDivW r L := wide_div (b := 200) hL hLb (by decide) (by decide)
  have hm0 : 0 ≤ r % L := Int.emod_nonneg _ (Int.ne_of_gt hL)
  have hml : r % L < L := Int.emod_lt_of_pos _ hL
  refine ⟨hL, s, n, p, _, rfl, H, hm0, big_le hm0 (Int.le_of_lt hml) hLb, ?_⟩
  walk_at "ev"
  have hq0 : 0 ≤ r / L := Int.ediv_nonneg hr (Int.le_of_lt hL)
  have e : go s n r.toNat (p, false) = ((go s n (r % L).toNat (p, false)).1, (go s n (r % L).toNat (p, false)).2 ^^ (b && decide (r / L % 2 = 1))) := by
    have e1 : r.toNat = L.toNat * (r / L).toNat + (r % L).toNat := by
      have e2 := Int.mul_ediv_add_emod r L
      have e3 : ((L.toNat * (r / L).toNat + (r % L).toNat : Nat) : Int) = r := by
        rw [Int.natCast_add, Int.natCast_mul, Int.toNat_of_nonneg (Int.le_of_lt hL), Int.toNat_of_nonneg hq0, Int.toNat_of_nonneg hm0]
        exact e2
      omega
    rw [e1, go_add, go_rounds s n hg, go_side0, Bool.false_xor, Bool.xor_comm]
    have e4 : decide ((r / L).toNat % 2 = 1) = decide (r / L % 2 = 1) := by
      by_cases hx : r / L % 2 = 1
      · rw [decide_eq_true hx, decide_eq_true (by omega)]
      · rw [decide_eq_false hx, decide_eq_false (by omega)]
    rw [e4]
  rw [e] at h
  have eb : ∀ x y : Bool, (!decide (x = y)) = (x ^^ y) := by decide
  rw [eb, eb]
  cases b with
  | true => exact ⟨hd, by decide, two_line, h⟩
  | false => exact ⟨two_line, h⟩
end GF

set_option Elab.async false
set_option linter.all false
set_option maxRecDepth 100000
set_option maxHeartbeats 2000000
/-! GM4: how all pancakes lie behind one round. -/
namespace GF
open PySem PySem.Spec PyProof.Rows L2 HT DL
variable {s : List Fl} {n p : Int} {q : Int × Bool}
def turnQ (q : Int × Bool) : Int × Bool := (q.1, !q.2)
def flipL (n : Int) (L : List (Int × Bool)) (f : Fl) : List (Int × Bool) := ((L.take (f.block n).toNat).map turnQ).reverse ++ L.drop (f.block n).toNat
def lyF (s : List Fl) (n : Int) (L : List (Int × Bool)) : List (Int × Bool) := s.foldl (flipL n) L
def ly0 (n : Int) : List (Int × Bool) := (List.range n.toNat).map fun (i : Nat) => ((i : Int), false)
def ly (s : List Fl) (n : Int) : List (Int × Bool) := lyF s n (ly0 n)
theorem flipL_len {L : List (Int × Bool)} {f : Fl} : (flipL n L f).length = L.length := by
  unfold flipL
  rw [List.length_append, List.length_reverse, List.length_map, List.length_take, List.length_drop]
  omega
theorem lyF_len : ∀ (s : List Fl) (L : List (Int × Bool)), (lyF s n L).length = L.length
  | [], _ => rfl
  | f :: s, L => by
    show (lyF s n (flipL n L f)).length = _
    rw [lyF_len s, flipL_len]
theorem ly_len : (ly s n).length = n.toNat := by
  unfold ly ly0
  rw [lyF_len, List.length_map, List.length_range]
theorem flipL_at {L : List (Int × Bool)} {f : Fl} {x : Int} (hf : f.ok) (hn : 12 ≤ n) (hq : inR n q.1) (hl : L.length = n.toNat) (h : L[q.1.toNat]? = some (x, q.2)) : (flipL n L f)[(flip1 n q f).1.toNat]? = some (x, (flip1 n q f).2) := by
  obtain ⟨b0, b1⟩ := block_in hf hn
  unfold inR at hq
  unfold flipL flip1
  by_cases hb : q.1 < f.block n
  · rw [if_pos hb]
    have hlen : (((L.take (f.block n).toNat).map turnQ).reverse).length = (f.block n).toNat := by
      rw [List.length_reverse, List.length_map, List.length_take]; omega
    have hi : (f.block n - 1 - q.1).toNat < (f.block n).toNat := by omega
    show (_ ++ _)[(f.block n - 1 - q.1).toNat]? = some (x, !q.2)
    rw [List.getElem?_append_left (by rw [hlen]; exact hi), List.getElem?_reverse (by rw [List.length_map, List.length_take]; omega), List.length_map, List.length_take]
    have e : min (f.block n).toNat L.length - 1 - (f.block n - 1 - q.1).toNat = q.1.toNat := by omega
    rw [e, List.getElem?_map, List.getElem?_take_of_lt (by omega), h]
    rfl
  · rw [if_neg hb]
    rw [List.getElem?_append_right (by rw [List.length_reverse, List.length_map, List.length_take]; omega), List.length_reverse, List.length_map, List.length_take, List.getElem?_drop]
    have e : (f.block n).toNat + (q.1.toNat - min (f.block n).toNat L.length) = q.1.toNat := by omega
    rw [e, h]
theorem lyF_at (hn : 12 ≤ n) : ∀ (s : List Fl) (L : List (Int × Bool)) (q : Int × Bool) (x : Int), okS s → inR n q.1 → L.length = n.toNat → L[q.1.toNat]? = some (x, q.2) → (lyF s n L)[(onceF s n q).1.toNat]? = some (x, (onceF s n q).2)
  | [], _, _, _, _, _, _, h => h
  | f :: s, L, q, x, hs, hq, hl, h => by
    have hf := hs f List.mem_cons_self
    exact lyF_at hn s (flipL n L f) (flip1 n q f) x (fun g hg => hs g (List.mem_cons_of_mem _ hg)) (flip1_in hf hn hq) (flipL_len.trans hl) (flipL_at hf hn hq hl h)
theorem ly_at (hn : 12 ≤ n) (hs : okS s) (hp : inR n p) : (ly s n)[(once s n p).1.toNat]? = some (p, (once s n p).2) := by
  refine lyF_at hn s (ly0 n) (p, false) p hs hp (by unfold ly0; rw [List.length_map, List.length_range]) ?_
  unfold ly0 inR at *
  show (List.map _ (List.range n.toNat))[p.toNat]? = _
  rw [List.getElem?_map, List.getElem?_range (by omega)]
  show some (((p.toNat : Nat) : Int), false) = some (p, false)
  rw [Int.toNat_of_nonneg hp.1]
/-- numbers that rise, as many as there are -/
theorem rising : ∀ (l : List Int) (lo : Int), l.Pairwise (· < ·) → (∀ x ∈ l, lo ≤ x ∧ x < lo + l.length) → ∀ (i : Nat) (x : Int), l[i]? = some x → x = lo + i
  | [], _, _, _, i, x, h => by simp at h
  | [y], lo, _, hb, i, x, h => by
    have hy := hb y List.mem_cons_self
    have e : (([y] : List Int).length : Int) = 1 := rfl
    rw [e] at hy
    cases i with
    | zero =>
      have h : some y = some x := h
      cases h
      omega
    | succ i => simp at h
  | y :: z :: l, lo, hp, hb, i, x, h => by
    have hy := hb y List.mem_cons_self
    obtain ⟨h1, h2⟩ := List.pairwise_cons.mp hp
    have e : (((y :: z :: l : List Int)).length : Int) = ((z :: l).length : Int) + 1 := by rw [List.length_cons]; omega
    have ih := rising (z :: l) (lo + 1) h2 fun w hw => by
      have a := hb w (List.mem_cons_of_mem _ hw)
      have b := h1 w hw
      rw [e] at a
      omega
    cases i with
    | zero =>
      have h : some y = some x := h
      cases h
      have hz := ih 0 z rfl
      have b := h1 z List.mem_cons_self
      omega
    | succ i =>
      have h : (z :: l)[i]? = some x := h
      have := ih i x h
      omega
def byPlace (s : List Fl) (n : Int) : List Nat := (List.range n.toNat).mergeSort fun p q => decide ((once s n p).1 ≤ (once s n q).1)
/-- the numbers, sorted by where they come to: as they lie -/
theorem byPlace_ok (hn : 12 ≤ n) (hs : okS s) : (byPlace s n).Perm (List.range n.toNat) ∧ (∀ i p : Nat, (byPlace s n)[i]? = some p → (once s n p).1 = i) ∧ (byPlace s n).map (fun (p : Nat) => ((p : Int), (once s n p).2)) = ly s n := by
  unfold byPlace
  generalize hM : ((List.range n.toNat).mergeSort fun (p q : Nat) => decide ((once s n p).1 ≤ (once s n q).1)) = M
  have hperm : M.Perm (List.range n.toNat) := by rw [← hM]; exact List.mergeSort_perm _ _
  have hlen : M.length = n.toNat := by rw [hperm.length_eq, List.length_range]
  have hin : ∀ p ∈ M, inR n (p : Int) := fun p hp => by
    have h := List.mem_range.mp (hperm.mem_iff.mp hp)
    unfold inR
    omega
  have hnd : M.Nodup := hperm.nodup_iff.mpr List.nodup_range
  have hso : M.Pairwise fun (p q : Nat) => decide ((once s n p).1 ≤ (once s n q).1) = true := by
    rw [← hM]
    exact List.pairwise_mergeSort (fun a b c h1 h2 => by rw [decide_eq_true_eq] at *; omega) (fun a b => by rw [Bool.or_eq_true, decide_eq_true_eq, decide_eq_true_eq]; omega) _
  have hst : (M.map fun (p : Nat) => (once s n p).1).Pairwise (· < ·) := by
    rw [List.pairwise_map]
    refine (List.Pairwise.and_mem.mp (List.Pairwise.and hso hnd)).imp ?_
    rintro a b ⟨h1, h3, h2⟩
    obtain ⟨h2, h4⟩ := h2
    rw [decide_eq_true_eq] at h2
    have h5 : (once s n (a : Int)).1 ≠ (once s n (b : Int)).1 := fun e => h4 (by
      have := once_inj1 hn hs (hin a h1) (hin b h3) (b := false) (c := false) e
      omega)
    omega
  have hri := rising _ 0 hst fun x hx => by
    obtain ⟨p, hp, rfl⟩ := List.mem_map.mp hx
    have h := onceF_in hn hs (q := ((p : Int), false)) (hin p hp)
    have h : inR n (once s n p).1 := h
    unfold inR at h
    rw [List.length_map, hlen]
    omega
  have hat : ∀ i p : Nat, M[i]? = some p → (once s n p).1 = i := fun i p e => by
    have h1 := hri i (once s n p).1 (by rw [List.getElem?_map, e]; rfl)
    omega
  refine ⟨hperm, hat, List.ext_getElem? fun i => ?_⟩
  rw [List.getElem?_map]
  cases e : M[i]? with
  | none =>
    have h := List.getElem?_eq_none_iff.mp e
    rw [List.getElem?_eq_none (by rw [ly_len]; omega)]
    rfl
  | some p =>
    have h2 := ly_at hn hs (hin p (List.mem_of_getElem? e))
    rw [hat i p e, Int.toNat_natCast] at h2
    rw [h2]
    rfl
theorem order_eq (hn : 12 ≤ n) (hs : okS s) : ((List.range n.toNat).mergeSort fun p q => decide ((once s n p).1 ≤ (once s n q).1)).map (fun (p : Nat) => ((p : Int), (once s n p).2)) = ly s n := (byPlace_ok hn hs).2.2
end GF

set_option Elab.async false
set_option linter.all false
set_option maxRecDepth 100000
set_option maxHeartbeats 2000000
/-! SP4: after and order: promises over data and what the programs compute. -/
namespace GF
open PySem PySem.Spec PyProof.Rows L2 HT DL
local macro_rules | `(tactic| walk_at "ev") => `(tactic| simp only [dSeq, dNext, dIfS, dRet, dRetN, dAsg, dDrop, dgN, dgT, dgNs, dgCons, dgNil, dPar, dPar3, dRaise, dCallF, dCall, dCons, dNil, dTup, dLst, dC, dVar, dBin, dChain, dAndV, dOrV, dNotV, dIf, dB, dAndT, dOrT, dNotT, dNeg, dIsiE,
  dAdd, dSub, dMul, dMod, dFdiv, dPow, dLt, dLe, dGt, dGe, dCmpI, dEq, dNe, dIs, dIsNot, dIx, ixD, dLen, lenD, dAbs, dMax, dMin, dInt, dTuple, dList, dFor, dForD, diSeq, itemsD, diRange1, diRange2, dLc, dYes, wipeD,
  List.getElem?_cons_zero, List.getElem?_cons_succ, List.set_cons_zero, List.set_cons_succ, List.length_cons, List.length_nil, if_true, Bool.false_eq_true, if_false, Bool.not_true, Bool.not_false, Bool.true_and, Bool.false_and, Bool.and_true, Bool.and_false,
  ok_int, ok_bl, ok_non, deq_int, deq_bl, deq_str, true_and, and_true, k_int, k_bool, k_tuple, k_str, isNon, encP, onceP0, onceP1, onceP2])
def sp_after (a : Ads) : DSpec := fun ds μ P Pe => ∃ d dn dp dr, ds = [d, dn, dp, dr] ∧ okD 8 d = true ∧ okD 8 dn = true ∧ okD 8 dp = true ∧ okD 8 dr = true ∧
  ((areFlipsD d 8 = false ∧ Pe (.ref (a.c "InvalidScript")) μ) ∨ ∃ s, d = encS s ∧ okS s ∧ s.length ≤ 8 ∧
    ((isIntD dn 12 (10 ^ 30) = false ∧ Pe (.ref (a.c "InvalidHeight")) μ) ∨ ∃ n, dn = .int n ∧ 12 ≤ n ∧ n ≤ 10 ^ 30 ∧
      ((isIntD dp (-n) (n - 1) = false ∧ Pe (.ref (a.c "InvalidPlace")) μ) ∨ ∃ p, dp = .int p ∧ -n ≤ p ∧ p ≤ n - 1 ∧
        ((isIntD dr 0 (10 ^ 30) = false ∧ Pe (.ref (a.c "InvalidNumber")) μ) ∨ ∃ r, dr = .int r ∧ 0 ≤ r ∧ r ≤ 10 ^ 30 ∧ P (encP (go s n r.toNat (placeOf n (.int p), false))) μ))))
def sp_order (a : Ads) : DSpec := fun ds μ P Pe => ∃ d dn, ds = [d, dn] ∧ okD 8 d = true ∧ okD 8 dn = true ∧
  ((areFlipsD d 8 = false ∧ Pe (.ref (a.c "InvalidScript")) μ) ∨ ∃ s, d = encS s ∧ okS s ∧ s.length ≤ 8 ∧
    ((isIntD dn 12 60 = false ∧ Pe (.ref (a.c "InvalidHeight")) μ) ∨ ∃ n, dn = .int n ∧ 12 ≤ n ∧ n ≤ 60 ∧ P (.tup ((ly s n).map encP)) μ))
def td_after (a : Ads) : WD → TDS := fun Wd => (dSeq (dDrop (dCallF (sp_need_script a) Wd (dCons (dVar 0) dNil))) (dSeq (dDrop (dCallF (sp_need_height a) Wd (dCons (dVar 1) (dCons (dC (.int (10 ^ 30))) dNil)))) (dSeq (dAsg (dCallF (sp_need_place a) Wd (dCons (dVar 1) (dCons (dVar 2) dNil))) (dgN 4)) (dSeq (dDrop (dCallF (sp_need_rounds a) Wd (dCons (dVar 3) dNil))) (dRet (dCallF (sp_after_rounds a) Wd (dCons (dVar 0) (dCons (dVar 1) (dCons (dVar 4) (dCons (dVar 3) dNil))))))))))
def td_order (a : Ads) : WD → TDS := fun Wd => (dSeq (dDrop (dCallF (sp_need_script a) Wd (dCons (dVar 0) dNil))) (dSeq (dDrop (dCallF (sp_need_height a) Wd (dCons (dVar 1) (dCons (dC (.int 60)) dNil)))) (dSeq (dAsg (dCall dSorted (dCons (dLc (diRange1 (dCons (dVar 1) dNil)) (dgN 3) dYes (dBin dAdd (dCallF (sp_once a) W0 (dCons (dVar 0) (dCons (dVar 1) (dCons (dVar 3) dNil)))) (dTup (dCons (dVar 3) dNil))) [3]) dNil)) (dgN 2)) (dRet (dCall dTuple (dCons (dLc (diSeq (dVar 2)) (dgT 3 (dgNs [4, 5, 6])) dYes (dTup (dCons (dVar 6) (dCons (dVar 5) dNil))) [4, 5, 6]) dNil))))))
theorem isInt_yes {i lo hi : Int} (h1 : lo ≤ i) (h2 : i ≤ hi) : isIntD (.int i) lo hi = true := by
  unfold isIntD
  simp only [h1, h2, decide_true, Bool.and_self]
theorem big30 {i : Int} (h1 : 0 ≤ i) (h2 : i ≤ 10 ^ 30) : big i := by
  unfold big
  have : (10 : Int) ^ 30 < 2 ^ 200 := by decide
  have e : (2 : Int) ^ 200 = ((2 ^ 200 : Nat) : Int) := by decide
  omega
theorem place_in {n p : Int} (h1 : -n ≤ p) (h2 : p ≤ n - 1) : inR n (placeOf n (.int p)) := by
  unfold inR placeOf
  dsimp only
  split <;> omega
theorem okS_small {s : List Fl} (h : s.length ≤ 8) : s.length ≤ 100 := by omega
theorem se_after (a : Ads) {ds μ P Pe} (h : sp_after a ds μ P Pe) : td_after a (fun cls _ μ => Pe cls μ) (EE P) (startD ["script", "n", "place", "rounds", "at"] ds) μ := by
  obtain ⟨d, dn, dp, dr, rfl, o1, o2, o3, o4, h⟩ := h
  show td_after a _ _ [some d, some dn, some dp, some dr, none] μ
  unfold td_after
  walk_at "ev"
  refine ⟨d, rfl, o1, ?_⟩
  rcases h with ⟨e, h⟩ | ⟨s, rfl, hs, hl, h⟩
  · rw [if_neg (by rw [e]; decide)]
    exact h
  rw [if_pos (are_enc hs (by omega))]
  refine ⟨dn, 10 ^ 30, rfl, o2, ?_⟩
  rcases h with ⟨e, h⟩ | ⟨n, rfl, hn1, hn2, h⟩
  · rw [if_neg (by rw [e]; decide)]
    exact h
  rw [if_pos (isInt_yes hn1 hn2)]
  refine ⟨n, dp, rfl, o3, ?_⟩
  rcases h with ⟨e, h⟩ | ⟨p, rfl, hp1, hp2, h⟩
  · rw [if_neg (by rw [e]; decide)]
    exact h
  rw [if_pos (isInt_yes hp1 hp2)]
  walk_at "ev"
  refine ⟨dr, rfl, o4, ?_⟩
  rcases h with ⟨e, h⟩ | ⟨r, rfl, hr1, hr2, h⟩
  · rw [if_neg (by rw [e]; decide)]
    exact h
  rw [if_pos (isInt_yes hr1 hr2)]
  exact ⟨s, n, _, r, rfl, ⟨hs, okS_small hl, hn1, big30 (by omega) hn2, place_in hp1 hp2⟩, hr1, big30 hr1 hr2, h⟩
/-- what `order` sorts -/
def triD (s : List Fl) (n : Int) (p : Nat) : D := .tup [.int (once s n p).1, .bl (once s n p).2, .int p]
theorem le_self (x : D) : PySem.W.dataLe false py x x = true := by
  rw [PySem.W.dataLe_eq]
  show (!PySem.W.dataLt (py x) (py x)) = true
  have e : PySem.W.dataLt (py x) (py x) = false := lex_irrefl _
  rw [e]
  rfl
theorem le_tri {s : List Fl} {n : Int} {p q : Nat} (h : (once s n p).1 = (once s n q).1 → p = q) : PySem.W.dataLe false py (triD s n p) (triD s n q) = decide ((once s n p).1 ≤ (once s n q).1) := by
  by_cases e : (once s n p).1 = (once s n q).1
  · have e2 := h e
    subst e2
    rw [le_self, decide_eq_true (Int.le_refl _)]
  · rw [PySem.W.dataLe_eq]
    show (!PySem.W.dataLt (.tuple (.int (once s n q).1 :: _)) (.tuple (.int (once s n p).1 :: _))) = _
    rw [PySem.W.dataLt_tuple, PySem.W.dataLt_cons (by simp [PySem.W.alike]), PySem.W.dataLt_int]
    have e3 : PyData.eqv (.int (once s n q).1) (.int (once s n p).1) = false := by
      simp only [PyData.eqv, beq_eq_false_iff_ne]
      exact fun x => e x.symm
    rw [e3, if_neg Bool.false_ne_true, PySem.W.not_lt_int]
theorem sorted_tri {s : List Fl} {n : Int} (hn : 12 ≤ n) (hs : okS s) : ((List.range n.toNat).map (triD s n)).mergeSort (PySem.W.dataLe false py) = ((List.range n.toNat).mergeSort fun p q => decide ((once s n p).1 ≤ (once s n q).1)).map (triD s n) := by
  refine (List.map_mergeSort fun p hp q hq => ?_).symm
  refine (le_tri fun e => ?_).symm
  have h1 := List.mem_range.mp hp
  have h2 := List.mem_range.mp hq
  have h := once_inj1 hn hs (x := (p : Int)) (y := (q : Int)) (b := false) (c := false) (by unfold inR; omega) (by unfold inR; omega) e
  omega
theorem tri_ok {s : List Fl} {n : Int} {ps : List Nat} : okDA 7 (ps.map (triD s n)) = true := by
  induction ps with
  | nil => rfl
  | cons p ps ih =>
    show (okD 7 (triD s n p) && okDA 7 (ps.map (triD s n))) = true
    rw [ih, Bool.and_true]
    rfl
/-- a comprehension over items that stand for things -/
theorem lcD_of {α : Type} {g : TDG} {te : TDE} {δw : Nv} {Z : List D → Mu → Prop} {μ : Mu} (en f : α → D) : ∀ {l : List α} {acc : List D}, (∀ d ∈ l, ∀ P : DK, P (f d) μ → g (en d) δw μ fun δ2 μ2 => te δ2 μ2 P) → acc.length + l.length ≤ sizeLine → Z (acc ++ l.map f) μ → dLcD g dYes te δw Z (l.map en) acc μ
  | [], acc, _, _, h => by
    rw [List.map_nil, List.append_nil] at h
    exact h
  | d :: ds, acc, hg, hn, h => by
    rw [List.map_cons]
    unfold dLcD
    simp only [dYes, if_true]
    rw [List.length_cons] at hn
    refine hg d List.mem_cons_self _ ⟨by omega, lcD_of en f (fun x hx => hg x (List.mem_cons_of_mem _ hx)) (by rw [List.length_append, List.length_singleton]; omega) ?_⟩
    rw [List.map_cons] at h
    rw [List.append_assoc]
    exact h
theorem map_ev {α β γ : Type} (f : β → γ) (g : α → β) (l : List α) : (l.map g).map f = l.map fun x => f (g x) := List.map_map
theorem se_order (a : Ads) {ds μ P Pe} (h : sp_order a ds μ P Pe) : td_order a (fun cls _ μ => Pe cls μ) (EE P) (startD ["script", "n", "found", "place", "there", "over", "number"] ds) μ := by
  obtain ⟨d, dn, rfl, o1, o2, h⟩ := h
  show td_order a _ _ [some d, some dn, none, none, none, none, none] μ
  unfold td_order
  walk_at "ev"
  refine ⟨d, rfl, o1, ?_⟩
  rcases h with ⟨e, h⟩ | ⟨s, rfl, hs, hl, h⟩
  · rw [if_neg (by rw [e]; decide)]
    exact h
  rw [if_pos (are_enc hs (by omega))]
  refine ⟨dn, 60, rfl, o2, ?_⟩
  rcases h with ⟨e, h⟩ | ⟨n, rfl, hn1, hn2, h⟩
  · rw [if_neg (by rw [e]; decide)]
    exact h
  rw [if_pos (isInt_yes hn1 hn2)]
  have hz := small_line
  refine ⟨by omega, ?_⟩
  have er : ∀ k : Nat, rangeD 0 k = (List.range k).map fun (i : Nat) => D.int i := fun k => by
    unfold rangeD
    refine List.map_congr_left fun i _ => ?_
    rw [Int.zero_add]
  rw [er]
  refine lcD_of _ (triD s n) (fun p hp Q hQ => ?_) (by rw [List.length_nil, List.length_range]; omega) ?_
  · walk_at "ev"
    refine ⟨s, n, p, rfl, ?_⟩
    walk_at "ev"
    exact ⟨by omega, three_line, hQ⟩
  · rw [List.nil_append]
    refine ⟨tri_ok, ?_, ?_, ?_⟩
    · rw [List.map_map]
      exact PySem.W.AllAlike.of fun p q => rfl
    · rw [List.map_map]
      exact PySem.W.Sortable.tuples fun p => ⟨_, _, rfl⟩
    · rw [sorted_tri hn1 hs]
      show dLcD _ _ _ _ _ (List.map (triD s n) _) [] μ
      refine lcD_of (triD s n) (fun p => encP ((p : Int), (once s n p).2)) (fun p hp Q hQ => ?_) ?_ ?_
      · unfold triD
        walk_at "ev"
        exact ⟨two_line, hQ⟩
      · rw [List.length_nil, List.length_mergeSort, List.length_range]; omega
      · rw [List.nil_append]
        have e := order_eq hn1 hs
        have e2 : List.map (fun (p : Nat) => encP ((p : Int), (once s n p).2)) ((List.range n.toNat).mergeSort fun p q => decide ((once s n p).1 ≤ (once s n q).1)) = (ly s n).map encP := by
          rw [← e, List.map_map]
          rfl
        rw [e2]
        exact h
end GF

set_option Elab.async false
set_option linter.all false
set_option maxRecDepth 100000
set_option maxHeartbeats 2000000
/-! SP5: the law's own small functions. -/
namespace GF
open PySem PySem.Spec PyProof.Rows L2 HT DL
local macro_rules | `(tactic| walk_at "ev") => `(tactic| simp only [dSeq, dNext, dIfS, dRet, dRetN, dAsg, dDrop, dgN, dgT, dgNs, dgCons, dgNil, dgSub, dPar, dPar3, dRaise, dCallF, dCall, dCons, dNil, dTup, dLst, dLstM, dC, dVar, dBin, dChain, dAndV, dOrV, dNotV, dIf, dB, dAndT, dOrT, dNotT, dNeg, dIsiE,
  dAdd, dSub, dMul, dMulM, dMod, dFdiv, dPow, dLt, dLe, dGt, dGe, dCmpI, dEq, dNe, dIs, dIsNot, dIx, ixD, dLen, lenD, dAbs, dMax, dMin, dInt, dTuple, dList, dFor, dForD, diSeq, diEnum, itemsD, diRange1, diRange2, dLc, dYes, wipeD, dRev, dSlice, dNo, dPart, dCut,
  List.getElem?_cons_zero, List.getElem?_cons_succ, List.set_cons_zero, List.set_cons_succ, List.length_cons, List.length_nil, if_true, Bool.false_eq_true, if_false, Bool.not_true, Bool.not_false, Bool.true_and, Bool.false_and, Bool.and_true, Bool.and_false,
  ok_int, ok_bl, ok_non, deq_int, deq_bl, deq_str, true_and, and_true, k_int, k_bool, k_tuple, k_str, isNon, encP, onceP0, onceP1, onceP2])
/-- a drawing row: two whole numbers -/
def SrcOk (x y : Int) : Prop := 0 ≤ x ∧ 0 ≤ y ∧ y.natAbs < 2 ^ 200
def Src (μ : Mu) (p : Addr) : Prop := ∃ x y, μ p = some (.lst [.int x, .int y]) ∧ SrcOk x y
def SrcTo (μ : Mu) (p : Addr) (μ' : Mu) : Prop := ∃ x y, SrcOk x y ∧ μ' = mset μ p (.lst [.int x, .int y])
theorem SrcTo.src {μ μ' : Mu} {p : Addr} (h : SrcTo μ p μ') : Src μ' p := by
  obtain ⟨x, y, o, rfl⟩ := h
  exact ⟨x, y, mset_same, o⟩
theorem SrcTo.trans {μ μ' μ'' : Mu} {p : Addr} (h : SrcTo μ p μ') (h2 : SrcTo μ' p μ'') : SrcTo μ p μ'' := by
  obtain ⟨x, y, o, rfl⟩ := h
  obtain ⟨x', y', o', rfl⟩ := h2
  exact ⟨x', y', o', mset_mset⟩
theorem SrcTo.ne {μ μ' : Mu} {p q : Addr} (h : SrcTo μ p μ') (hq : q ≠ p) : μ' q = μ q := by
  obtain ⟨x, y, o, rfl⟩ := h
  exact mset_ne hq
theorem Src.refl {μ : Mu} {p : Addr} (h : Src μ p) : SrcTo μ p μ := by
  obtain ⟨x, y, e, o⟩ := h
  refine ⟨x, y, o, ?_⟩
  funext b
  unfold mset
  split
  · rename_i e2
    rw [e2, e]
  · rfl
def sp_law_source (a : Ads) : DSpec := fun ds μ P _ => ∃ L k, ds = [.ils L, .int k] ∧ 0 ≤ k ∧ k < 64 ∧ L.length ≤ 63 ∧ ∀ p x y, μ p = none → SrcOk x y → P (.ref p) (mset μ p (.lst [.int x, .int y]))
def sp_law_pick (a : Ads) : DSpec := fun ds μ P _ => ∃ p m, ds = [.ref p, .int m] ∧ Src μ p ∧ 0 < m ∧ big m ∧ ∀ r μ', 0 ≤ r → r < m → SrcTo μ p μ' → P (.int r) μ'
def sp_law_chosen (a : Ads) : DSpec := fun ds μ P _ => ∃ p xs, ds = [.ref p, .lst xs] ∧ Src μ p ∧ xs ≠ [] ∧ xs.length ≤ 100 ∧ ∀ d μ', d ∈ xs → SrcTo μ p μ' → P d μ'
def sp_law_flip (a : Ads) : DSpec := fun ds μ P _ => ∃ p, ds = [.ref p] ∧ Src μ p ∧ ∀ f μ', f.ok → SrcTo μ p μ' → P (encF f) μ'
def sp_law_script (a : Ads) : DSpec := fun ds μ P _ => ∃ p m, ds = [.ref p, .int m] ∧ Src μ p ∧ 0 ≤ m ∧ m ≤ 100 ∧ ∀ s μ', okS s → (s.length : Int) ≤ m → SrcTo μ p μ' → P (encS s) μ'
def sp_law_flipped (a : Ads) : DSpec := fun ds μ P _ => ∃ (L : List (Int × Bool)) (f : Fl), ds = [.lst (L.map encP), encF f] ∧ f.ok ∧ 12 ≤ L.length ∧ L.length ≤ 100 ∧ P (.lst ((flipL L.length L f).map encP)) μ
def sp_law_lying (a : Ads) : DSpec := fun ds μ P _ => ∃ s n, ds = [encS s, .int n] ∧ okS s ∧ 12 ≤ n ∧ n ≤ 60 ∧ P (.lst ((ly s n).map encP)) μ
def goesD (s : List Fl) (n : Int) : List D := (List.range n.toNat).map fun (p : Nat) => encP (once s n p)
def sp_law_goes (a : Ads) : DSpec := fun ds μ P _ => ∃ s n, ds = [encS s, .int n] ∧ okS s ∧ 12 ≤ n ∧ n ≤ 60 ∧ ∀ p, μ p = none → P (.ref p) (mset μ p (.lst (goesD s n)))
def sp_law_step (a : Ads) : DSpec := fun ds μ P _ => ∃ s n p, ds = [encS s, .int n, .int p] ∧ P (encP (once s n p)) μ
def td_law_source (a : Ads) : WD → TDS := fun Wd => (dSeq (dAsg (dC (.int 0)) (dgN 2)) (dSeq (dIfS (dB (dBin dGt (dCall dLen (dCons (dVar 0) dNil)) (dVar 1))) (dAsg (dCall dInt (dCons (dBin dIx (dVar 0) (dVar 1)) dNil)) (dgN 2)) dNext) (dSeq (dAsg (dBin dMod (dBin dAdd (dBin dAdd (dBin dMul (dVar 2) (dC (.int 16807))) (dBin dMul (dC (.int 60919)) (dVar 1))) (dC (.int 31))) (dC (.int 2147481173))) (dgN 3)) (dSeq (dAsg (dBin dAdd (dBin dAdd (dBin dMod (dBin dMul (dVar 3) (dVar 3)) (dC (.int 2147481151))) (dBin dMul (dC (.int 2)) (dVar 1))) (dC (.int 5))) (dgN 3)) (dRet (dLstM (dCons (dIf (dB (dBin dGe (dVar 2) (dBin dPow (dC (.int 10)) (dC (.int 18))))) (dVar 2) (dC (.int 0))) (dCons (dVar 3) dNil))))))))
def td_law_pick (a : Ads) : WD → TDS := fun Wd => (dSeq (dIfS (dB (dBin dGt (dBin dIx (dVar 0) (dC (.int 0))) (dC (.int 0)))) (dSeq (dAsg (dBin dMod (dCall dInt (dCons (dBin dIx (dVar 0) (dC (.int 0))) dNil)) (dVar 1)) (dgN 2)) (dSeq (dAsg (dBin dFdiv (dCall dInt (dCons (dBin dIx (dVar 0) (dC (.int 0))) dNil)) (dVar 1)) (dgSub (dVar 0) (dC (.int 0)))) (dRet (dVar 2)))) dNext) (dSeq (dAsg (dBin dMod (dCall dInt (dCons (dBin dAdd (dBin dMul (dBin dIx (dVar 0) (dC (.int 1))) (dC (.int 44497))) (dC (.int 9973))) dNil)) (dC (.int 2147483647))) (dgSub (dVar 0) (dC (.int 1)))) (dRet (dBin dMod (dBin dFdiv (dBin dMod (dCall dInt (dCons (dBin dMul (dBin dIx (dVar 0) (dC (.int 1))) (dBin dIx (dVar 0) (dC (.int 1)))) dNil)) (dC (.int 2147483399))) (dC (.int 11))) (dVar 1)))))
def td_law_chosen (a : Ads) : WD → TDS := fun Wd => (dRet (dBin dIx (dVar 1) (dCallF (sp_law_pick a) Wd (dCons (dVar 0) (dCons (dCall dLen (dCons (dVar 1) dNil)) dNil)))))
def td_law_flip (a : Ads) : WD → TDS := fun Wd => (dSeq (dAsg (dCallF (sp_law_pick a) Wd (dCons (dVar 0) (dCons (dC (.int 13)) dNil))) (dgN 1)) (dRet (dIf (dB (dBin dLt (dVar 1) (dC (.int 7)))) (dTup (dCons (dC (.str "but")) (dCons (dVar 1) dNil))) (dTup (dCons (dC (.str "top")) (dCons (dBin dSub (dVar 1) (dC (.int 6))) dNil))))))
def td_law_script (a : Ads) : WD → TDS := fun Wd => (dRet (dCall dTuple (dCons (dLc (diRange1 (dCons (dCallF (sp_law_pick a) Wd (dCons (dVar 0) (dCons (dBin dAdd (dVar 1) (dC (.int 1))) dNil))) dNil)) (dgN 2) dYes (dCallF (sp_law_flip a) W0 (dCons (dVar 0) dNil)) [2]) dNil)))
def td_law_flipped (a : Ads) : WD → TDS := fun Wd => (dSeq (dAsg (dIf (dB (dBin dEq (dBin dIx (dVar 1) (dC (.int 0))) (dC (.str "top")))) (dBin dIx (dVar 1) (dC (.int 1))) (dBin dSub (dCall dLen (dCons (dVar 0) dNil)) (dBin dIx (dVar 1) (dC (.int 1))))) (dgN 2)) (dRet (dBin dAdd (dRev (dLc (diSeq (dSlice (dVar 0) dNo (dPart (dVar 2)))) (dgT 2 (dgNs [3, 4])) dYes (dTup (dCons (dVar 3) (dCons (dNotV (dVar 4)) dNil))) [3, 4])) (dSlice (dVar 0) (dPart (dVar 2)) dNo))))
def lb1_law_lying (a : Ads) : WD → TDS := fun Wd => (dAsg (dCallF (sp_law_flipped a) Wd (dCons (dVar 2) (dCons (dVar 3) dNil))) (dgN 2))
def td_law_lying (a : Ads) : WD → TDS := fun Wd => (dSeq (dAsg (dLc (diRange1 (dCons (dVar 1) dNil)) (dgN 4) dYes (dTup (dCons (dVar 4) (dCons (dC (.bl false)) dNil))) [4]) (dgN 2)) (dSeq (dFor (diSeq (dVar 0)) (dgN 3) (lb1_law_lying a Wd)) (dRet (dVar 2))))
def lb1_law_goes (a : Ads) : WD → TDS := fun Wd => (dAsg (dTup (dCons (dVar 3) (dCons (dBin dIx (dVar 4) (dC (.int 1))) dNil))) (dgSub (dVar 2) (dBin dIx (dVar 4) (dC (.int 0)))))
def td_law_goes (a : Ads) : WD → TDS := fun Wd => (dSeq (dAsg (dBin dMulM (dLst (dCons (dC .non) dNil)) (dVar 1)) (dgN 2)) (dSeq (dFor (diEnum (dCallF (sp_law_lying a) Wd (dCons (dVar 0) (dCons (dVar 1) dNil)))) (dgT 2 (dgCons (dgN 3) (dgCons (dgN 4) dgNil))) (lb1_law_goes a Wd)) (dRet (dVar 2))))
def lb1_law_step (a : Ads) : WD → TDS := fun Wd => (dSeq (dAsg (dIf (dB (dBin dEq (dVar 4) (dC (.str "top")))) (dVar 5) (dBin dSub (dVar 1) (dVar 5))) (dgN 6)) (dIfS (dB (dBin dLt (dVar 2) (dVar 6))) (dPar 2 3 (dCons (dBin dSub (dBin dSub (dVar 6) (dC (.int 1))) (dVar 2)) (dCons (dNotV (dVar 3)) dNil))) dNext))
def td_law_step (a : Ads) : WD → TDS := fun Wd => (dSeq (dAsg (dC (.bl false)) (dgN 3)) (dSeq (dFor (diSeq (dVar 0)) (dgT 2 (dgCons (dgN 4) (dgCons (dgN 5) dgNil))) (lb1_law_step a Wd)) (dRet (dTup (dCons (dVar 2) (dCons (dVar 3) dNil))))))
theorem atI_get {α : Type} {xs : List α} {k : Int} (h0 : 0 ≤ k) (h1 : k < xs.length) : ∃ x, atI xs k = some x ∧ xs[k.toNat]? = some x := by
  have hi : k.toNat < xs.length := by omega
  refine ⟨xs[k.toNat], ?_, List.getElem?_eq_getElem hi⟩
  unfold atI ixN
  rw [if_pos h0, if_pos h1]
  exact List.getElem?_eq_getElem hi
theorem ix20 : ixN 2 0 = some 0 := rfl
theorem ix21 : ixN 2 1 = some 1 := rfl
theorem len2 {α : Type} (x y : α) : [x, y].length = 2 := rfl
theorem mul_right {i j : Int} (h : -(2 ^ 64) < j ∧ j < 2 ^ 64) : IntMulOk i j := .of_right (intBits_le_64 h.1 h.2)
theorem mul_left {i j : Int} (h : -(2 ^ 64) < i ∧ i < 2 ^ 64) : IntMulOk i j := .of_left (intBits_le_64 h.1 h.2)
theorem pow_ok : CPow 10 18 := ⟨by decide, by decide, by decide⟩
theorem wide_small {i j : Int} (h : 0 < j) (hb : big j) : CDivW i j := wide_div (b := 200) h hb (by decide) (by decide)
theorem se_law_source (a : Ads) {ds μ P Pe} (h : sp_law_source a ds μ P Pe) : td_law_source a (fun cls _ μ => Pe cls μ) (EE P) (startD ["_law_script_here", "_law_k", "_law_number", "_law_start"] ds) μ := by
  obtain ⟨L, k, rfl, hk, hk2, hL, h⟩ := h
  show td_law_source a _ _ [some (.ils L), some (.int k), none, none] μ
  have rest : ∀ (num : Int), IntMulOk num 16807 ∧ IntMulOk 60919 k ∧ (0 : Int) < 2147481173 ∧
              IntMulOk ((num * 16807 + 60919 * k + 31) % 2147481173) ((num * 16807 + 60919 * k + 31) % 2147481173) ∧
                (0 : Int) < 2147481151 ∧ IntMulOk 2 k ∧ CPow 10 18 ∧
                      if decide (10 ^ Int.toNat 18 ≤ num) = true then
                        0 + 1 + 1 ≤ sizeLine ∧ ∀ (p : Addr), μ p = none → P (D.ref p) (mset μ p (MO.lst [D.int num, D.int ((num * 16807 + 60919 * k + 31) % 2147481173 * ((num * 16807 + 60919 * k + 31) % 2147481173) % 2147481151 + 2 * k + 5)]))
                      else
                        0 + 1 + 1 ≤ sizeLine ∧ ∀ (p : Addr), μ p = none → P (D.ref p) (mset μ p (MO.lst [D.int 0, D.int ((num * 16807 + 60919 * k + 31) % 2147481173 * ((num * 16807 + 60919 * k + 31) % 2147481173) % 2147481151 + 2 * k + 5)])) := by
    intro num
    generalize hX : (num * 16807 + 60919 * k + 31) % 2147481173 = x
    have x0 : 0 ≤ x := by rw [← hX]; exact Int.emod_nonneg _ (by decide)
    have x1 : x < 2147481173 := by rw [← hX]; exact Int.emod_lt_of_pos _ (by decide)
    generalize hY : x * x % 2147481151 = y
    have y0 : 0 ≤ y := by rw [← hY]; exact Int.emod_nonneg _ (by decide)
    have y1 : y < 2147481151 := by rw [← hY]; exact Int.emod_lt_of_pos _ (by decide)
    refine ⟨mul_right (by decide), mul_left (by decide), by decide, mul_left (by omega), by decide, mul_left (by decide), pow_ok, ?_⟩
    by_cases hc : (10 : Int) ^ Int.toNat 18 ≤ num
    · have hn : 0 ≤ num := by
        have : (0 : Int) ≤ 10 ^ Int.toNat 18 := by decide
        omega
      simp only [hc, decide_true, if_true]
      exact ⟨two_line, fun p hp => h p _ _ hp ⟨hn, by omega, by omega⟩⟩
    · simp only [hc, decide_false, Bool.false_eq_true, if_false]
      exact ⟨two_line, fun p hp => h p _ _ hp ⟨by decide, by omega, by omega⟩⟩
  unfold td_law_source
  walk_at "ev"
  by_cases hc : k < (L.length : Int)
  · obtain ⟨x, hx, _⟩ := atI_get hk hc
    rw [hx]
    simp only [hc, decide_true, if_true, Option.map_some]
    exact rest x
  · simp only [hc, decide_false, Bool.false_eq_true, if_false]
    exact rest 0
theorem se_law_pick (a : Ads) {ds μ P Pe} (h : sp_law_pick a ds μ P Pe) : td_law_pick a (fun cls _ μ => Pe cls μ) (EE P) (startD ["_law_source_here", "_law_many", "_law_found"] ds) μ := by
  obtain ⟨p, m, rfl, ⟨x, y, hp, o1, o2, o3⟩, hm, hb, h⟩ := h
  show td_law_pick a _ _ [some (.ref p), some (.int m), none] μ
  unfold td_law_pick
  walk_at "ev"
  rw [hp]
  simp only [onceP0, onceP1, len2, ix20, ix21, mset_same, List.set_cons_zero, List.set_cons_succ]
  by_cases hc : 0 < x
  · simp only [hc, decide_true, if_true]
    exact ⟨hm, wide_small hm hb, h _ _ (Int.emod_nonneg _ (Int.ne_of_gt hm)) (Int.emod_lt_of_pos _ hm) ⟨_, _, ⟨Int.ediv_nonneg o1 (Int.le_of_lt hm), o2, o3⟩, rfl⟩⟩
  · simp only [hc, decide_false, Bool.false_eq_true, if_false]
    generalize hY : (y * 44497 + 9973) % 2147483647 = z
    have y0 : 0 ≤ z := by rw [← hY]; exact Int.emod_nonneg _ (by decide)
    have y1 : z < 2147483647 := by rw [← hY]; exact Int.emod_lt_of_pos _ (by decide)
    refine ⟨mul_right (by decide), by decide, mul_left (by omega), by decide, wide_small (by decide) (by unfold big; decide), hm, h _ _ (Int.emod_nonneg _ (Int.ne_of_gt hm)) (Int.emod_lt_of_pos _ hm) ⟨_, _, ⟨o1, y0, by omega⟩, rfl⟩⟩
theorem se_law_chosen (a : Ads) {ds μ P Pe} (h : sp_law_chosen a ds μ P Pe) : td_law_chosen a (fun cls _ μ => Pe cls μ) (EE P) (startD ["_law_source_here", "_law_things"] ds) μ := by
  obtain ⟨p, xs, rfl, hs, hx, hl, h⟩ := h
  show td_law_chosen a _ _ [some (.ref p), some (.lst xs)] μ
  unfold td_law_chosen
  walk_at "ev"
  have h0 : 0 < xs.length := List.length_pos_iff.mpr hx
  refine ⟨p, _, rfl, hs, by omega, by unfold big; omega, fun r μ' r0 r1 st => ?_⟩
  obtain ⟨x, e, e2⟩ := atI_get r0 r1
  walk_at "ev"
  rw [e]
  exact h x μ' (List.mem_of_getElem? e2) st
theorem se_law_flip (a : Ads) {ds μ P Pe} (h : sp_law_flip a ds μ P Pe) : td_law_flip a (fun cls _ μ => Pe cls μ) (EE P) (startD ["_law_source_here", "_law_way"] ds) μ := by
  obtain ⟨p, rfl, hs, h⟩ := h
  show td_law_flip a _ _ [some (.ref p), none] μ
  unfold td_law_flip
  walk_at "ev"
  refine ⟨p, 13, rfl, hs, by decide, by unfold big; decide, fun r μ' r0 r1 st => ?_⟩
  walk_at "ev"
  by_cases hc : r < 7
  · simp only [hc, decide_true, if_true]
    exact ⟨two_line, h (.but r) μ' ⟨r0, by omega⟩ st⟩
  · simp only [hc, decide_false, Bool.false_eq_true, if_false]
    exact ⟨two_line, h (.top (r - 6)) μ' ⟨by omega, by omega⟩ st⟩
theorem lc_script (a : Ads) {Wd : WD} {p : Addr} {m : Option D} {Z : List D → Mu → Prop} : ∀ (k lo : Nat) (s : List Fl) (μ : Mu), okS s → s.length + k ≤ 1000 → Src μ p → (∀ s' μ', okS s' → s'.length = s.length + k → SrcTo μ p μ' → Z (s'.map encF) μ') →
    dLcD (dgN 2) dYes (dCallF (sp_law_flip a) Wd (dCons (dVar 0) dNil)) [some (.ref p), m, none] Z ((List.range' lo k).map fun (i : Nat) => D.int (0 + (i : Int))) (s.map encF) μ
  | 0, lo, s, μ, hs, _, hsrc, h => h s μ hs rfl hsrc.refl
  | k + 1, lo, s, μ, hs, hz, hsrc, h => by
    show dLcD _ _ _ _ Z (_ :: (List.range' (lo + 1) k).map _) _ μ
    unfold dLcD
    walk_at "ev"
    refine ⟨p, rfl, hsrc, fun f μ' hf st => ⟨?_, ?_⟩⟩
    · have := small_line
      rw [List.length_map]; omega
    · have e : s.map encF ++ [encF f] = (s ++ [f]).map encF := by rw [List.map_append]; rfl
      rw [e]
      refine lc_script a k (lo + 1) (s ++ [f]) μ' (fun g hg => ?_) (by rw [List.length_append, List.length_singleton]; omega) st.src fun s' μ'' h1 h2 h3 => h s' μ'' h1 (by rw [h2, List.length_append, List.length_singleton]; omega) (st.trans h3)
      rcases List.mem_append.mp hg with z | z
      · exact hs g z
      · rw [List.mem_singleton.mp z]; exact hf
theorem se_law_script (a : Ads) {ds μ P Pe} (h : sp_law_script a ds μ P Pe) : td_law_script a (fun cls _ μ => Pe cls μ) (EE P) (startD ["_law_source_here", "_law_most_so", "_law_turn"] ds) μ := by
  obtain ⟨p, m, rfl, hs, m0, m1, h⟩ := h
  show td_law_script a _ _ [some (.ref p), some (.int m), none] μ
  unfold td_law_script
  walk_at "ev"
  refine ⟨p, m + 1, rfl, hs, by omega, by unfold big; omega, fun r μ' r0 r1 st => ?_⟩
  walk_at "ev"
  refine ⟨by omega, ?_⟩
  have e : rangeD 0 r.toNat = (List.range' 0 r.toNat).map fun (i : Nat) => D.int (0 + (i : Int)) := by unfold rangeD; rw [List.range_eq_range']
  rw [e]
  refine lc_script a r.toNat 0 [] μ' (fun _ hg => by cases hg) (by rw [List.length_nil]; omega) st.src fun s μ'' h1 h2 h3 => ?_
  refine h s μ'' h1 ?_ (st.trans h3)
  rw [h2, List.length_nil]
  omega
theorem blk_ev (a : Ads) {f : Fl} {δ : Nv} {μ : Mu} {K : DK} {L : List (Int × Bool)} (h0 : δ[0]? = some (some (.lst (L.map encP)))) (h1 : δ[1]? = some (some (encF f))) (h : K (.int (f.block L.length)) μ) :
    (dIf (dB (dBin dEq (dBin dIx (dVar 1) (dC (.int 0))) (dC (.str "top")))) (dBin dIx (dVar 1) (dC (.int 1))) (dBin dSub (dCall dLen (dCons (dVar 0) dNil)) (dBin dIx (dVar 1) (dC (.int 1))))) δ μ K := by
  have o1 : okD 8 (.str "top") = true := by decide +kernel
  have o2 : okD 8 (.str "but") = true := by decide +kernel
  cases f with
  | top k =>
    simp only [dIf, dB, dBin, dVar, h0, h1, encF, Fl.word, Fl.many]
    walk_at "ev"
    exact ⟨o1, o1, h⟩
  | but k =>
    simp only [dIf, dB, dBin, dVar, h0, h1, encF, Fl.word, Fl.many]
    walk_at "ev"
    refine ⟨o2, o1, ?_⟩
    have e : decide (("but" : Str) = "top") = false := by decide
    rw [e]
    simp only [dCall, dCons, dNil, dVar, h0, Bool.false_eq_true, if_false]
    rw [List.length_map]
    exact h
theorem cut_to {ds : List D} {b : Int} (h0 : 0 ≤ b) (h1 : b ≤ ds.length) : DL.cutD ds none (some b) = ds.take b.toNat := by
  unfold DL.cutD
  have e : sIx ds.length ds.length (some b) = min b.toNat ds.length := if_neg (by omega)
  rw [e, sIx_none, List.drop_zero]
  congr 1
  omega
theorem cut_from {ds : List D} {b : Int} (h0 : 0 ≤ b) (h1 : b ≤ ds.length) : DL.cutD ds (some b) none = ds.drop b.toNat := by
  unfold DL.cutD
  have e : sIx ds.length 0 (some b) = min b.toNat ds.length := if_neg (by omega)
  have e2 : min b.toNat ds.length = b.toNat := by omega
  rw [e, sIx_none, e2, List.take_of_length_le]
  rw [List.length_drop]
  exact Nat.le_refl _
theorem se_law_flipped (a : Ads) {ds μ P Pe} (h : sp_law_flipped a ds μ P Pe) : td_law_flipped a (fun cls _ μ => Pe cls μ) (EE P) (startD ["_law_lying_here", "_law_flip_here", "_law_block", "_law_number", "_law_over"] ds) μ := by
  obtain ⟨L, f, rfl, hf, h12, hl, h⟩ := h
  show td_law_flipped a _ _ [some (.lst (L.map encP)), some (encF f), none, none, none] μ
  unfold td_law_flipped
  simp only [dSeq, dAsg]
  refine blk_ev a (L := L) (f := f) ?_ ?_ ?_
  · rfl
  · rfl
  show (dBin dAdd (dRev (dLc (diSeq (dSlice (dVar 0) dNo (dPart (dVar 2)))) (dgT 2 (dgNs [3, 4])) dYes (dTup (dCons (dVar 3) (dCons (dNotV (dVar 4)) dNil))) [3, 4])) (dSlice (dVar 0) (dPart (dVar 2)) dNo)) [some (.lst (L.map encP)), some (encF f), some (.int (f.block L.length)), none, none] μ P
  obtain ⟨b0, b1⟩ := block_in hf (n := L.length) (by omega)
  generalize hB : f.block L.length = b at *
  have hz := small_line
  walk_at "ev"
  rw [cut_to b0 (by rw [List.length_map]; exact b1), ← List.map_take]
  refine lcD_of encP (fun q => encP (turnQ q)) (fun q hq Q hQ => ?_) (by rw [List.length_nil, List.length_take]; omega) ?_
  · walk_at "ev"
    exact ⟨two_line, hQ⟩
  · rw [List.nil_append]
    simp only [dVar, List.getElem?_cons_zero, List.getElem?_cons_succ, cut_from b0 (show b ≤ ((L.map encP).length : Int) by rw [List.length_map]; exact b1)]
    have e : (List.map (fun q => encP (turnQ q)) (List.take b.toNat L)).reverse ++ List.drop b.toNat (List.map encP L) = (flipL L.length L f).map encP := by
      unfold flipL
      rw [hB, List.map_append, List.map_reverse, List.map_drop, List.map_map]
      rfl
    rw [e]
    refine ⟨?_, h⟩
    rw [List.length_reverse, List.length_map, List.length_take, List.length_drop, List.length_map]
    omega
theorem lb_lying (a : Ads) {Wd : WD} {E : DE} {S : D} {n : Int} {μ : Mu} (hn : 12 ≤ n) (hn2 : n ≤ 60) : ∀ (s : List Fl) (L : List (Int × Bool)) (x3 x4 : Option D), okS s → (L.length : Int) = n → (∀ x3, E.nx [some S, some (.int n), some (.lst ((lyF s n L).map encP)), x3, x4] μ) →
    dForD (dgN 3) (lb1_law_lying a Wd) E (s.map encF) [some S, some (.int n), some (.lst (L.map encP)), x3, x4] μ
  | [], L, x3, x4, _, _, h => h x3
  | f :: s, L, x3, x4, hs, hl, h => by
    rw [List.map_cons]
    unfold dForD
    show lb1_law_lying a Wd _ [some S, some (.int n), some (.lst (L.map encP)), some (encF f), x4] μ
    unfold lb1_law_lying
    walk_at "ev"
    refine ⟨L, f, rfl, hs f List.mem_cons_self, by omega, by omega, ?_⟩
    walk_at "ev"
    rw [hl]
    exact lb_lying a hn hn2 s (flipL n L f) (some (encF f)) x4 (fun g hg => hs g (List.mem_cons_of_mem _ hg)) (by rw [flipL_len]; exact hl) h
theorem se_law_lying (a : Ads) {ds μ P Pe} (h : sp_law_lying a ds μ P Pe) : td_law_lying a (fun cls _ μ => Pe cls μ) (EE P) (startD ["_law_script_so", "_law_n", "_law_lying_here", "_law_flip_here", "_law_number"] ds) μ := by
  obtain ⟨s, n, rfl, hs, hn, hn2, h⟩ := h
  show td_law_lying a _ _ [some (encS s), some (.int n), none, none, none] μ
  unfold td_law_lying encS
  walk_at "ev"
  refine ⟨by omega, ?_⟩
  have hz := small_line
  unfold rangeD
  refine lcD_of _ (fun (i : Nat) => encP ((i : Int), false)) (fun q hq Q hQ => ?_) (by rw [List.length_nil, List.length_range]; omega) ?_
  · walk_at "ev"
    rw [Int.zero_add]
    exact ⟨two_line, hQ⟩
  · rw [List.nil_append]
    have e : List.map (fun (i : Nat) => encP ((i : Int), false)) (List.range n.toNat) = (ly0 n).map encP := by
      unfold ly0
      rw [List.map_map]
      rfl
    rw [e]
    refine lb_lying a hn hn2 s (ly0 n) none none hs (by unfold ly0; rw [List.length_map, List.length_range]; omega) fun x3 => ?_
    walk_at "ev"
    exact h
theorem lb_step (a : Ads) {Wd : WD} {E : DE} {S : D} {n : Int} {μ : Mu} : ∀ (s : List Fl) (q : Int × Bool) (x4 x5 x6 : Option D), (∀ x4 x5 x6, E.nx [some S, some (.int n), some (.int (onceF s n q).1), some (.bl (onceF s n q).2), x4, x5, x6] μ) →
    dForD (dgT 2 (dgCons (dgN 4) (dgCons (dgN 5) dgNil))) (lb1_law_step a Wd) E (s.map encF) [some S, some (.int n), some (.int q.1), some (.bl q.2), x4, x5, x6] μ
  | [], q, x4, x5, x6, h => h x4 x5 x6
  | f :: s, q, x4, x5, x6, h => by
    rw [List.map_cons]
    unfold dForD
    walk_at "ev"
    simp only [encF]
    walk_at "ev"
    unfold lb1_law_step
    walk_at "ev"
    have ih := fun q' x6 => lb_step a (Wd := Wd) (E := E) (S := S) (n := n) (μ := μ) s q' (some (.str f.word)) (some (.int f.many)) x6
    have o1 : okD 8 (.str "top") = true := by decide +kernel
    have o2 : okD 8 (.str "but") = true := by decide +kernel
    have key : ∀ b, b = f.block n → (if decide (q.1 < b) = true then dForD (dgT 2 (dgCons (dgN 4) (dgCons (dgN 5) dgNil))) (lb1_law_step a Wd) E (s.map encF) [some S, some (.int n), some (.int (b - 1 - q.1)), some (.bl !q.2), some (.str f.word), some (.int f.many), some (.int b)] μ
        else dForD (dgT 2 (dgCons (dgN 4) (dgCons (dgN 5) dgNil))) (lb1_law_step a Wd) E (s.map encF) [some S, some (.int n), some (.int q.1), some (.bl q.2), some (.str f.word), some (.int f.many), some (.int b)] μ) := by
      rintro b rfl
      by_cases hq : q.1 < f.block n
      · simp only [hq, decide_true, if_true]
        refine ih (f.block n - 1 - q.1, !q.2) _ fun x4 x5 x6 => ?_
        have e : flip1 n q f = (f.block n - 1 - q.1, !q.2) := if_pos hq
        have h := h x4 x5 x6
        unfold onceF at h ⊢
        rw [List.foldl_cons, e] at h
        exact h
      · simp only [hq, decide_false, if_false, Bool.false_eq_true]
        refine ih q _ fun x4 x5 x6 => ?_
        have e : flip1 n q f = q := if_neg hq
        have h := h x4 x5 x6
        unfold onceF at h ⊢
        rw [List.foldl_cons, e] at h
        exact h
    cases f with
    | top k =>
      refine ⟨o1, o1, ?_⟩
      exact key k rfl
    | but k =>
      refine ⟨o2, o1, ?_⟩
      exact key (n - k) rfl
theorem se_law_step (a : Ads) {ds μ P Pe} (h : sp_law_step a ds μ P Pe) : td_law_step a (fun cls _ μ => Pe cls μ) (EE P) (startD ["_law_script_so", "_law_n", "_law_place_so", "_law_over", "_law_word_so", "_law_many", "_law_block"] ds) μ := by
  obtain ⟨s, n, p, rfl, h⟩ := h
  show td_law_step a _ _ [some (encS s), some (.int n), some (.int p), none, none, none, none] μ
  unfold td_law_step encS
  walk_at "ev"
  refine lb_step a s (p, false) none none none fun x4 x5 x6 => ?_
  walk_at "ev"
  exact ⟨two_line, h⟩
end GF

set_option Elab.async false
set_option linter.all false
set_option maxRecDepth 100000
set_option maxHeartbeats 2000000
/-! SP6: goes and run: the law's own ways. -/
namespace GF
open PySem PySem.Spec PyProof.Rows L2 HT DL
local macro_rules | `(tactic| walk_at "ev") => `(tactic| simp only [dSeq, dNext, dIfS, dRet, dRetN, dAsg, dDrop, dgN, dgT, dgNs, dgCons, dgNil, dgSub, dPar, dPar3, dRaise, dCallF, dCall, dCons, dNil, dTup, dLst, dLstM, dC, dVar, dBin, dChain, dAndV, dOrV, dNotV, dIf, dB, dAndT, dOrT, dNotT, dNeg, dIsiE,
  dAdd, dSub, dMul, dMulM, dMod, dFdiv, dPow, dLt, dLe, dGt, dGe, dCmpI, dEq, dNe, dIs, dIsNot, dIx, ixD, dLen, lenD, dAbs, dMax, dMin, dInt, dTuple, dList, dFor, dForD, diSeq, diEnum, itemsD, diRange1, diRange2, dLc, dYes, wipeD, dRev, dSlice, dNo, dPart, dCut,
  List.getElem?_cons_zero, List.getElem?_cons_succ, List.set_cons_zero, List.set_cons_succ, List.length_cons, List.length_nil, if_true, Bool.false_eq_true, if_false, Bool.not_true, Bool.not_false, Bool.true_and, Bool.false_and, Bool.and_true, Bool.and_false,
  ok_int, ok_bl, ok_non, deq_int, deq_bl, deq_str, true_and, and_true, k_int, k_bool, k_tuple, k_str, isNon, encP, onceP0, onceP1, onceP2])
def sp_law_run (a : Ads) : DSpec := fun ds μ P _ => ∃ s n p r, ds = [encS s, .int n, .int p, .int r] ∧ okS s ∧ s.length ≤ 8 ∧ 12 ≤ n ∧ inR n p ∧ big n ∧ 0 ≤ r ∧ big r ∧ P (encP (go s n r.toNat (p, false))) μ
def lc1_law_run (a : Ads) : WD → TDT := fun Wd => (dB (dBin dGt (dVar 5) (dC (.int 0))))
def lb1_law_run (a : Ads) : WD → TDS := fun Wd => (dSeq (dAsg (dCallF (sp_law_step a) Wd (dCons (dVar 0) (dCons (dVar 1) (dCons (dVar 2) dNil)))) (dgT 2 (dgCons (dgN 7) (dgCons (dgN 8) dgNil)))) (dSeq (dPar 9 10 (dCons (dBin dSub (dVar 7) (dVar 2)) (dCons (dC (.int 0)) dNil))) (dSeq (dIfS (dB (dBin dEq (dVar 9) (dC (.int 0)))) (dRet (dTup (dCons (dVar 2) (dCons (dBin dNe (dVar 4) (dAndV (dVar 8) (dBin dEq (dBin dMod (dVar 5) (dC (.int 2))) (dC (.int 1))))) dNil)))) dNext) (dSeq (dIfS (dAndT (dNotT (dB (dVar 8))) (dAndT (dB (dChain dLe dLt (dC (.int 60)) (dVar 2) (dBin dSub (dVar 1) (dC (.int 60))))) (dB (dBin dEq (dCallF (sp_law_step a) Wd (dCons (dVar 0) (dCons (dVar 1) (dCons (dVar 7) dNil)))) (dTup (dCons (dBin dAdd (dVar 7) (dVar 9)) (dCons (dC (.bl false)) dNil))))))) (dAsg (dBin dFdiv (dIf (dB (dBin dGt (dVar 9) (dC (.int 0)))) (dBin dSub (dBin dSub (dVar 1) (dC (.int 61))) (dVar 2)) (dBin dSub (dVar 2) (dC (.int 60)))) (dCall dAbs (dCons (dVar 9) dNil))) (dgN 10)) dNext) (dSeq (dIfS (dAndT (dB (dBin dEq (dVar 10) (dC (.int 0)))) (dB (dBin dIs (dVar 6) (dC .non)))) (dAsg (dTup (dCons (dVar 2) (dCons (dVar 4) (dCons (dVar 5) dNil)))) (dgN 6)) (dIfS (dAndT (dB (dBin dEq (dVar 10) (dC (.int 0)))) (dB (dBin dEq (dBin dIx (dVar 6) (dC (.int 0))) (dVar 2)))) (dSeq (dAsg (dBin dSub (dBin dIx (dVar 6) (dC (.int 2))) (dVar 5)) (dgN 11)) (dSeq (dAsg (dBin dNe (dVar 4) (dAndV (dBin dNe (dVar 4) (dBin dIx (dVar 6) (dC (.int 1)))) (dBin dEq (dBin dMod (dBin dFdiv (dVar 5) (dVar 11)) (dC (.int 2))) (dC (.int 1))))) (dgN 4)) (dPar 5 6 (dCons (dBin dMod (dVar 5) (dVar 11)) (dCons (dTup (dCons (dNeg (dC (.int 1))) (dCons (dC (.bl false)) (dCons (dC (.int 0)) dNil)))) dNil))))) dNext)) (dIfS (dB (dBin dGt (dVar 5) (dC (.int 0)))) (dSeq (dAsg (dCall dMin (dCons (dCall dMax (dCons (dC (.int 1)) (dCons (dVar 10) dNil))) (dCons (dVar 5) dNil))) (dgN 12)) (dPar3 2 4 5 (dCons (dBin dAdd (dVar 2) (dBin dMul (dVar 12) (dVar 9))) (dCons (dBin dNe (dVar 4) (dAndV (dVar 8) (dBin dEq (dBin dMod (dVar 12) (dC (.int 2))) (dC (.int 1))))) (dCons (dBin dSub (dVar 5) (dVar 12)) dNil))))) dNext))))))
def td_law_run (a : Ads) : WD → TDS := fun Wd => (dSeq (dPar3 4 5 6 (dCons (dC (.bl false)) (dCons (dVar 3) (dCons (dC .non) dNil)))) (dSeq (dWhile (lc1_law_run a Wd) (lb1_law_run a Wd)) (dRet (dTup (dCons (dVar 2) (dCons (dVar 4) dNil))))))
def setAll (s : List Fl) (n : Int) (G : List D) (M : List Nat) : List D := M.foldl (fun G p => G.set p (encP (once s n p))) G
theorem setAll_len {s : List Fl} {n : Int} : ∀ (M : List Nat) (G : List D), (setAll s n G M).length = G.length
  | [], _ => rfl
  | p :: M, G => by
    show (setAll s n (G.set p _) M).length = _
    rw [setAll_len M, List.length_set]
theorem setAll_get {s : List Fl} {n : Int} {q : Nat} : ∀ (M : List Nat) (G : List D), q < G.length → (setAll s n G M)[q]? = if q ∈ M then some (encP (once s n q)) else G[q]?
  | [], G, _ => by
    rw [if_neg List.not_mem_nil]
    rfl
  | p :: M, G, hq => by
    show (setAll s n (G.set p _) M)[q]? = _
    rw [setAll_get M _ (by rw [List.length_set]; exact hq)]
    by_cases h : q ∈ M
    · rw [if_pos h, if_pos (List.mem_cons_of_mem _ h)]
    · rw [if_neg h]
      by_cases e : q = p
      · subst e
        rw [if_pos List.mem_cons_self, List.getElem?_set_self hq]
      · rw [if_neg (by rw [List.mem_cons]; exact fun z => z.elim e h), List.getElem?_set_ne (fun z => e z.symm)]
theorem setAll_goes {s : List Fl} {n : Int} {G : List D} (hn : 12 ≤ n) (hs : okS s) (hG : G.length = n.toNat) : setAll s n G (byPlace s n) = goesD s n := by
  obtain ⟨hp, _, _⟩ := byPlace_ok hn hs
  refine List.ext_getElem? fun q => ?_
  unfold goesD
  by_cases hq : q < n.toNat
  · rw [setAll_get _ _ (by omega), if_pos (hp.mem_iff.mpr (List.mem_range.mpr hq)), List.getElem?_map, List.getElem?_range hq]
    rfl
  · rw [List.getElem?_eq_none (by rw [setAll_len]; omega), List.getElem?_eq_none (by rw [List.length_map, List.length_range]; omega)]
def rowG (s : List Fl) (n : Int) (p : Nat) : D := .tup [.int (once s n p).1, encP ((p : Int), (once s n p).2)]
theorem enum_get {ds : List D} {i : Nat} : (enumD ds)[i]? = ds[i]?.map (pairD i) := by
  unfold enumD
  rw [List.getElem?_map, List.getElem?_zipIdx]
  cases ds[i]? with
  | none => rfl
  | some d =>
    show some (pairD (0 + i) d) = _
    rw [Nat.zero_add]
    rfl
theorem enum_ly {s : List Fl} {n : Int} (hn : 12 ≤ n) (hs : okS s) : enumD ((ly s n).map encP) = (byPlace s n).map (rowG s n) := by
  obtain ⟨_, hat, he⟩ := byPlace_ok hn hs
  refine List.ext_getElem? fun i => ?_
  rw [enum_get, ← he, List.getElem?_map, List.getElem?_map, List.getElem?_map]
  cases e : (byPlace s n)[i]? with
  | none => rfl
  | some p =>
    show some (pairD i (encP _)) = some (rowG s n p)
    unfold rowG DL.pairD
    rw [hat i p e]
theorem ixN_nat {n j : Nat} (h : j < n) : ixN n (j : Int) = some j := by
  unfold ixN
  rw [if_pos (by omega), if_pos (by omega), Int.toNat_natCast]
theorem lb_goes (a : Ads) {Wd : WD} {E : DE} {S : D} {s : List Fl} {n : Int} {μ : Mu} {p : Addr} {N : D} : ∀ (M : List Nat) (G : List D) (x3 x4 : Option D), (∀ q ∈ M, q < G.length) → (∀ x3 x4, E.nx [some S, some N, some (.ref p), x3, x4] (mset μ p (.lst (setAll s n G M)))) →
    dForD (dgT 2 (dgCons (dgN 3) (dgCons (dgN 4) dgNil))) (lb1_law_goes a Wd) E (M.map (rowG s n)) [some S, some N, some (.ref p), x3, x4] (mset μ p (.lst G))
  | [], G, x3, x4, _, h => h x3 x4
  | q :: M, G, x3, x4, hM, h => by
    rw [List.map_cons]
    unfold dForD
    simp only [rowG]
    walk_at "ev"
    unfold lb1_law_goes
    walk_at "ev"
    simp only [mset_same, ixN_nat (hM q List.mem_cons_self), mset_mset]
    refine ⟨two_line, ?_⟩
    exact lb_goes a (Wd := Wd) M (G.set q (encP (once s n q))) _ _ (fun r hr => by rw [List.length_set]; exact hM r (List.mem_cons_of_mem _ hr)) h
theorem se_law_goes (a : Ads) {ds μ P Pe} (h : sp_law_goes a ds μ P Pe) : td_law_goes a (fun cls _ μ => Pe cls μ) (EE P) (startD ["_law_script_so", "_law_n", "_law_found", "_law_place_so", "_law_row_so"] ds) μ := by
  obtain ⟨s, n, rfl, hs, hn, hn2, h⟩ := h
  show td_law_goes a _ _ [some (encS s), some (.int n), none, none, none] μ
  unfold td_law_goes
  walk_at "ev"
  have hz := small_line
  have e1 : (List.replicate n.toNat [D.non]).flatten.length = n.toNat := by simp
  refine ⟨by omega, ⟨by omega, by omega, by omega⟩, fun p hp => ?_⟩
  refine ⟨s, n, rfl, hs, hn, hn2, ?_⟩
  walk_at "ev"
  rw [enum_ly hn hs]
  refine lb_goes a (byPlace s n) _ none none (fun q hq => ?_) fun x3 x4 => ?_
  · rw [e1]
    exact List.mem_range.mp ((byPlace_ok hn hs).1.mem_iff.mp hq)
  · walk_at "ev"
    rw [setAll_goes hn hs e1]
    exact h p hp
/-! ### run -/
theorem ite_of {c : Prop} {i : Decidable c} {A B : Prop} (h1 : c → A) (h2 : ¬ c → B) : @ite Prop c i A B := by
  split
  · exact h1 ‹_›
  · exact h2 ‹_›
theorem deq_P (i j : Int) (b c : Bool) : deq (.tup [.int i, .bl b]) (.tup [.int j, .bl c]) = (decide (i = j) && decide (b = c)) := by
  rw [← deq_int, ← deq_bl]
  unfold deq
  simp only [py, pyA, PyData.eqv, PyData.eqvAll, Bool.and_true]
theorem ok_P (i : Int) (b : Bool) : okD 8 (.tup [.int i, .bl b]) = true := rfl
theorem tri1 (x y z : D) : atI [x, y, z] 1 = some y := rfl
theorem tri2 (x y z : D) : atI [x, y, z] 2 = some z := rfl
/-- a leap of some rounds -/
def Leap (s : List Fl) (n p : Int) (b : Bool) (step far : Int) : Prop := 0 ≤ far ∧ (∀ k o, 1 ≤ k → (k ≤ far ∨ k = 1) → go s n k.toNat (p, o) = (p + k * step, o ^^ (b && decide (k % 2 = 1))))
theorem leap0 {s : List Fl} {n p t : Int} {b : Bool} (h : once s n p = (t, b)) : Leap s n p b (t - p) 0 := by
  refine ⟨Int.le_refl 0, fun k o h1 h2 => ?_⟩
  have e : k = 1 := by omega
  subst e
  show onceF s n (p, o) = _
  rw [onceF_side0]
  have h : onceF s n (p, false) = (t, b) := h
  rw [h]
  refine Prod.ext ?_ ?_
  · show t = p + 1 * (t - p)
    omega
  · show (o ^^ b) = (o ^^ (b && true))
    rw [Bool.and_true]
theorem leap_far {s : List Fl} {n p t : Int} (hs : okS s) (hl : s.length ≤ 8) (h : once s n p = (t, false)) (h0 : t - p ≠ 0) (h1 : 60 ≤ p) (h2 : p < n - 60) : Leap s n p false (t - p) ((if 0 < t - p then n - 61 - p else p - 60) / absI (t - p)) := by
  have ha : isAmid s n p = true := by
    rw [amid_iff]
    unfold reach
    omega
  have ho := amid_once hs ha
  rw [h] at ho
  have ht : (mid s).1 = false := (congrArg Prod.snd ho).symm
  rw [ht] at ho
  have hst : t - p = (mid s).2 := by
    have e : t = p + (mid s).2 := congrArg Prod.fst ho
    omega
  have hap := abs_pos h0
  generalize hF : (if 0 < t - p then n - 61 - p else p - 60) = F
  have hF0 : 0 ≤ F := by rw [← hF]; split <;> omega
  refine ⟨Int.ediv_nonneg hF0 (Int.le_of_lt hap), fun k o k1 k2 => ?_⟩
  rw [go_side0, go_amid hs ht k.toNat p fun j hj => ?_]
  · rw [← hst, Int.toNat_of_nonneg (by omega)]
    rfl
  · rw [← hst]
    have hj2 : (j : Int) ≤ F / absI (t - p) := by
      rcases k2 with k2 | k2
      · omega
      · have := Int.ediv_nonneg hF0 (Int.le_of_lt hap)
        omega
    have e1 : (j : Int) * absI (t - p) ≤ F := by
      have a := Int.mul_le_mul_of_nonneg_right hj2 (Int.le_of_lt hap)
      have b := Int.ediv_mul_le F (Int.ne_of_gt hap)
      omega
    rw [amid_iff]
    have hjj : (0 : Int) ≤ (j : Int) := Int.natCast_nonneg j
    unfold reach
    unfold absI at e1
    by_cases hx : 0 < t - p
    · rw [if_pos hx] at hF
      rw [if_neg (by omega)] at e1
      have a := Int.mul_nonneg hjj (show 0 ≤ t - p by omega)
      omega
    · rw [if_neg hx] at hF
      rw [if_pos (by omega), Int.mul_neg] at e1
      have a := Int.mul_nonneg hjj (show 0 ≤ -(t - p) by omega)
      rw [Int.mul_neg] at a
      omega
/-- what an anchor says -/
def Anc (s : List Fl) (n p : Int) (o : Bool) (l : Int) (d : D) : Prop := d = .non ∨ ∃ ap ao al, d = .tup [.int ap, .bl ao, .int al] ∧ (ap < 0 ∨ (l < al ∧ big al ∧ inR n ap ∧ go s n (al - l).toNat (ap, ao) = (p, o)))
section
variable {a : Ads} {Wd : WD} {E : DE} {s : List Fl} {n p t l : Int} {o b : Bool} {R anc : D} {x3 x11 x12 : Option D} {μ : Mu}
theorem st_far (hs : okS s) (hl : s.length ≤ 8) (hp : inR n p) (hnb : big n) (h1 : once s n p = (t, b)) (h0 : t - p ≠ 0)
    (h : ∀ far, Leap s n p b (t - p) far → E.nx [some (encS s), some (.int n), some (.int p), some R, some (.bl o), some (.int l), some anc, some (.int t), some (.bl b), some (.int (t - p)), some (.int far), x11, x12] μ) :
    (dIfS (dAndT (dNotT (dB (dVar 8))) (dAndT (dB (dChain dLe dLt (dC (.int 60)) (dVar 2) (dBin dSub (dVar 1) (dC (.int 60))))) (dB (dBin dEq (dCallF (sp_law_step a) Wd (dCons (dVar 0) (dCons (dVar 1) (dCons (dVar 7) dNil)))) (dTup (dCons (dBin dAdd (dVar 7) (dVar 9)) (dCons (dC (.bl false)) dNil))))))) (dAsg (dBin dFdiv (dIf (dB (dBin dGt (dVar 9) (dC (.int 0)))) (dBin dSub (dBin dSub (dVar 1) (dC (.int 61))) (dVar 2)) (dBin dSub (dVar 2) (dC (.int 60)))) (dCall dAbs (dCons (dVar 9) dNil))) (dgN 10)) dNext)
      E [some (encS s), some (.int n), some (.int p), some R, some (.bl o), some (.int l), some anc, some (.int t), some (.bl b), some (.int (t - p)), some (.int 0), x11, x12] μ := by
  have h00 := h 0 (leap0 h1)
  walk_at "ev"
  cases b with
  | true =>
    walk_at "ev"
    exact h00
  | false =>
    walk_at "ev"
    by_cases c1 : 60 ≤ p
    · simp only [c1, decide_true, if_true]
      by_cases c2 : p < n - 60
      · simp only [c2, decide_true, if_true]
        refine ⟨s, n, t, rfl, ?_⟩
        walk_at "ev"
        refine ⟨two_line, ok_P _ _, ok_P _ _, ?_⟩
        refine ite_of (fun hc => ?_) fun hc => h00
        · 
          have hw : CDivW (if 0 < t - p then n - 61 - p else p - 60) (absI (t - p)) := by
            have ht := onceF_in (s := s) (q := (p, false)) (by unfold inR at hp; omega) hs hp
            have h1 : onceF s n (p, false) = (t, false) := h1
            rw [h1] at ht
            have ht : 0 ≤ t ∧ t < n := ht
            unfold inR at hp
            unfold big at hnb
            refine wide_div (b := 200) (abs_pos h0) (abs_wide ?_) (by decide) (by decide)
            omega
          have hf := h _ (leap_far hs hl h1 h0 c1 c2)
          by_cases c3 : 0 < t - p
          · rw [if_pos c3] at hf hw
            simp only [c3, decide_true, if_true]
            exact ⟨hw, hf⟩
          · rw [if_neg c3] at hf hw
            simp only [c3, decide_false, Bool.false_eq_true, if_false]
            exact ⟨hw, hf⟩
      · simp only [c2, decide_false, Bool.false_eq_true, if_false]
        exact h00
    · simp only [c1, decide_false, Bool.false_eq_true, if_false]
      exact h00
theorem go_cycle {s : List Fl} {n p l L : Int} {o ao : Bool} (hL : 0 < L) (hl : 0 ≤ l) (h : go s n L.toNat (p, ao) = (p, o)) : go s n l.toNat (p, o) = go s n (l % L).toNat (p, o ^^ ((ao ^^ o) && decide (l / L % 2 = 1))) := by
  have hm0 : 0 ≤ l % L := Int.emod_nonneg _ (Int.ne_of_gt hL)
  have hq0 : 0 ≤ l / L := Int.ediv_nonneg hl (Int.le_of_lt hL)
  have h1 : go s n L.toNat (p, false) = (p, ao ^^ o) := by
    rw [go_side0] at h
    have e1 := congrArg Prod.fst h
    have e2 := congrArg Prod.snd h
    refine Prod.ext e1 ?_
    have e2 : (ao ^^ (go s n L.toNat (p, false)).2) = o := e2
    show (go s n L.toNat (p, false)).2 = _
    rw [← e2]
    cases ao <;> simp
  have e1 : l.toNat = L.toNat * (l / L).toNat + (l % L).toNat := by
    have e2 := Int.mul_ediv_add_emod l L
    have e3 : ((L.toNat * (l / L).toNat + (l % L).toNat : Nat) : Int) = l := by
      rw [Int.natCast_add, Int.natCast_mul, Int.toNat_of_nonneg (Int.le_of_lt hL), Int.toNat_of_nonneg hq0, Int.toNat_of_nonneg hm0]
      exact e2
    omega
  rw [e1, go_add, go_rounds s n h1]
  have e4 : decide ((l / L).toNat % 2 = 1) = decide (l / L % 2 = 1) := by
    by_cases hx : l / L % 2 = 1
    · rw [decide_eq_true hx, decide_eq_true (by omega)]
    · rw [decide_eq_false hx, decide_eq_false (by omega)]
  rw [e4]
/-- an anchor, this round not yet taken -/
def AncM (s : List Fl) (n p : Int) (o : Bool) (l : Int) (d : D) : Prop := d = .non ∨ ∃ ap ao al, d = .tup [.int ap, .bl ao, .int al] ∧ (ap < 0 ∨ (l ≤ al ∧ big al ∧ inR n ap ∧ go s n (al - l).toNat (ap, ao) = (p, o)))
theorem Anc.m {d : D} (h : Anc s n p o l d) : AncM s n p o l d := h.imp id fun ⟨ap, ao, al, e, h⟩ => ⟨ap, ao, al, e, h.imp id fun ⟨a, b, c⟩ => ⟨Int.le_of_lt a, b, c⟩⟩
theorem xor_dec (x y : Bool) : (!decide (x = y)) = (x ^^ y) := by cases x <;> cases y <;> rfl
theorem st_anc {far : Int} (hp : inR n p) (hl : 0 < l) (hlb : big l) (ha : Anc s n p o l anc)
    (h : ∀ o' l' anc' x11, 0 ≤ l' → l' ≤ l → go s n l.toNat (p, o) = go s n l'.toNat (p, o') → AncM s n p o' l' anc' → (l' = 0 → Anc s n p o' l' anc') → E.nx [some (encS s), some (.int n), some (.int p), some R, some (.bl o'), some (.int l'), some anc', some (.int t), some (.bl b), some (.int (t - p)), some (.int far), x11, x12] μ) :
    (dIfS (dAndT (dB (dBin dEq (dVar 10) (dC (.int 0)))) (dB (dBin dIs (dVar 6) (dC .non)))) (dAsg (dTup (dCons (dVar 2) (dCons (dVar 4) (dCons (dVar 5) dNil)))) (dgN 6)) (dIfS (dAndT (dB (dBin dEq (dVar 10) (dC (.int 0)))) (dB (dBin dEq (dBin dIx (dVar 6) (dC (.int 0))) (dVar 2)))) (dSeq (dAsg (dBin dSub (dBin dIx (dVar 6) (dC (.int 2))) (dVar 5)) (dgN 11)) (dSeq (dAsg (dBin dNe (dVar 4) (dAndV (dBin dNe (dVar 4) (dBin dIx (dVar 6) (dC (.int 1)))) (dBin dEq (dBin dMod (dBin dFdiv (dVar 5) (dVar 11)) (dC (.int 2))) (dC (.int 1))))) (dgN 4)) (dPar 5 6 (dCons (dBin dMod (dVar 5) (dVar 11)) (dCons (dTup (dCons (dNeg (dC (.int 1))) (dCons (dC (.bl false)) (dCons (dC (.int 0)) dNil)))) dNil))))) dNext))
      E [some (encS s), some (.int n), some (.int p), some R, some (.bl o), some (.int l), some anc, some (.int t), some (.bl b), some (.int (t - p)), some (.int far), x11, x12] μ := by
  have hsame := h o l anc x11 (by omega) (Int.le_refl _) rfl ha.m (fun z => ha)
  walk_at "ev"
  by_cases hf : far = 0
  · subst hf
    simp only [decide_true, if_true]
    rcases ha with rfl | ⟨ap, ao, al, rfl, ha⟩
    · simp only [isNon]
      walk_at "ev"
      refine ⟨three_line, ?_⟩
      refine h o l _ x11 (by omega) (Int.le_refl _) rfl (.inr ⟨p, o, l, rfl, .inr ⟨Int.le_refl _, hlb, hp, ?_⟩⟩) fun z => by omega
      rw [Int.sub_self]
      rfl
    · walk_at "ev"
      by_cases hpp : ap = p
      · subst hpp
        have hp0 : 0 ≤ ap := hp.1
        rcases ha with ha | ⟨a1, a2, a3, a4⟩
        · omega
        simp only [decide_true, if_true]
        simp only [tri1, tri2]
        walk_at "ev"
        have hL : 0 < al - l := by omega
        have hw : CDivW l (al - l) := wide_small hL (big_le (by omega) (by omega) a2)
        have hc := go_cycle (l := l) hL (by omega) a4
        have h0 : 0 ≤ l % (al - l) := Int.emod_nonneg _ (Int.ne_of_gt hL)
        have h1 : l % (al - l) ≤ l := by
          by_cases hx : l < al - l
          · rw [Int.emod_eq_of_lt (by omega) hx]
            exact Int.le_refl _
          · have := Int.emod_lt_of_pos l hL
            omega
        have fin := fun o' (e : go s n l.toNat (ap, o) = go s n (l % (al - l)).toNat (ap, o')) => h o' (l % (al - l)) (.tup [.int (-1), .bl false, .int 0]) (some (.int (al - l))) h0 h1 e (.inr ⟨_, _, _, rfl, .inl (by decide)⟩) (fun _ => .inr ⟨_, _, _, rfl, .inl (by decide)⟩)
        simp only [xor_dec] at fin ⊢
        refine ite_of (fun hc2 => ⟨hw, by decide, hL, three_line, fin _ ?_⟩) fun hc2 => ⟨hL, three_line, fin _ ?_⟩
        · have e : (ao ^^ o) = true := by rw [Bool.xor_comm]; exact hc2
          rw [hc, e, Bool.true_and]
        · have e : (ao ^^ o) = false := by rw [Bool.xor_comm]; exact Bool.not_eq_true _ ▸ hc2
          rw [hc, e, Bool.false_and]
      · simp only [hpp, decide_false, Bool.false_eq_true, if_false]
        exact hsame
  · simp only [hf, decide_false, Bool.false_eq_true, if_false]
    exact hsame
theorem st_move {far : Int} (hs : okS s) (hn : 12 ≤ n) (hp : inR n p) (hl : 0 ≤ l) (hlb : big l) (hm : AncM s n p o l anc) (ha : l = 0 → Anc s n p o l anc) (hnb : big n) (lp : Leap s n p b (t - p) far) (h1 : once s n p = (t, b))
    (h : ∀ p' o' l' x12, 0 ≤ l' → l' ≤ l → (0 < l → l' < l) → inR n p' → go s n l.toNat (p, o) = go s n l'.toNat (p', o') → Anc s n p' o' l' anc → E.nx [some (encS s), some (.int n), some (.int p'), some R, some (.bl o'), some (.int l'), some anc, some (.int t), some (.bl b), some (.int (t - p)), some (.int far), x11, x12] μ) :
    (dIfS (dB (dBin dGt (dVar 5) (dC (.int 0)))) (dSeq (dAsg (dCall dMin (dCons (dCall dMax (dCons (dC (.int 1)) (dCons (dVar 10) dNil))) (dCons (dVar 5) dNil))) (dgN 12)) (dPar3 2 4 5 (dCons (dBin dAdd (dVar 2) (dBin dMul (dVar 12) (dVar 9))) (dCons (dBin dNe (dVar 4) (dAndV (dVar 8) (dBin dEq (dBin dMod (dVar 12) (dC (.int 2))) (dC (.int 1))))) (dCons (dBin dSub (dVar 5) (dVar 12)) dNil))))) dNext)
      E [some (encS s), some (.int n), some (.int p), some R, some (.bl o), some (.int l), some anc, some (.int t), some (.bl b), some (.int (t - p)), some (.int far), x11, x12] μ := by
  walk_at "ev"
  by_cases h0 : 0 < l
  · simp only [h0, decide_true, if_true]
    generalize hk : (if l < (if 1 < far then far else 1) then l else if 1 < far then far else 1) = k
    have lp0 := lp.1
    have hk1 : 1 ≤ k ∧ k ≤ l ∧ (k ≤ far ∨ k = 1) := by
      rw [← hk]
      split <;> split <;> omega
    have hg := lp.2 k o hk1.1 hk1.2.2
    have hin : inR n (p + k * (t - p)) := by
      have := go_in hn hs k.toNat (q := (p, o)) hp
      rw [hg] at this
      exact this
    have ht : inR n t := by
      have h2 := onceF_in (s := s) (q := (p, false)) hn hs hp
      have h1 : onceF s n (p, false) = (t, b) := h1
      rw [h1] at h2
      exact h2
    have hmul : IntMulOk k (t - p) := by
      refine (wide_mul (a := 200) (b := 200) (big_le (by omega) hk1.2.1 hlb) ?_ (by decide) (by decide) (by decide)).ok
      unfold inR at ht hp
      unfold big at hnb
      omega
    have e : go s n l.toNat (p, o) = go s n (l - k).toNat (p + k * (t - p), o ^^ (b && decide (k % 2 = 1))) := by
      have e1 : l.toNat = k.toNat + (l - k).toNat := by omega
      rw [e1, go_add, hg]
    have hAnc : Anc s n (p + k * (t - p)) (o ^^ (b && decide (k % 2 = 1))) (l - k) anc := by
      rcases hm with z | ⟨ap, ao, al, e2, z | ⟨z1, z2, z3, z4⟩⟩
      · exact .inl z
      · exact .inr ⟨ap, ao, al, e2, .inl z⟩
      · refine .inr ⟨ap, ao, al, e2, .inr ⟨by omega, z2, z3, ?_⟩⟩
        have e3 : (al - (l - k)).toNat = (al - l).toNat + k.toNat := by omega
        rw [e3, go_add, z4, hg]
    have fin := fun o' (eo : o' = (o ^^ (b && decide (k % 2 = 1)))) => h (p + k * (t - p)) o' (l - k) (some (.int k)) (by omega) (by omega) (fun _ => by omega) hin (by rw [eo]; exact e) (by rw [eo]; exact hAnc)
    simp only [xor_dec]
    cases b with
    | true =>
      simp only [if_true]
      refine ⟨hmul, by decide, fin _ ?_⟩
      rw [Bool.true_and]
    | false =>
      simp only [Bool.false_eq_true, if_false]
      refine ⟨hmul, fin _ ?_⟩
      rw [Bool.false_and]
  · simp only [h0, decide_false, Bool.false_eq_true, if_false]
    have e : l = 0 := by omega
    exact h p o l x12 hl (Int.le_refl _) (fun z => by omega) hp rfl (ha e)
end
def runA (a : Ads) (Wd : WD) : TDS := (dIfS (dAndT (dNotT (dB (dVar 8))) (dAndT (dB (dChain dLe dLt (dC (.int 60)) (dVar 2) (dBin dSub (dVar 1) (dC (.int 60))))) (dB (dBin dEq (dCallF (sp_law_step a) Wd (dCons (dVar 0) (dCons (dVar 1) (dCons (dVar 7) dNil)))) (dTup (dCons (dBin dAdd (dVar 7) (dVar 9)) (dCons (dC (.bl false)) dNil))))))) (dAsg (dBin dFdiv (dIf (dB (dBin dGt (dVar 9) (dC (.int 0)))) (dBin dSub (dBin dSub (dVar 1) (dC (.int 61))) (dVar 2)) (dBin dSub (dVar 2) (dC (.int 60)))) (dCall dAbs (dCons (dVar 9) dNil))) (dgN 10)) dNext)
def runB : TDS := (dIfS (dAndT (dB (dBin dEq (dVar 10) (dC (.int 0)))) (dB (dBin dIs (dVar 6) (dC .non)))) (dAsg (dTup (dCons (dVar 2) (dCons (dVar 4) (dCons (dVar 5) dNil)))) (dgN 6)) (dIfS (dAndT (dB (dBin dEq (dVar 10) (dC (.int 0)))) (dB (dBin dEq (dBin dIx (dVar 6) (dC (.int 0))) (dVar 2)))) (dSeq (dAsg (dBin dSub (dBin dIx (dVar 6) (dC (.int 2))) (dVar 5)) (dgN 11)) (dSeq (dAsg (dBin dNe (dVar 4) (dAndV (dBin dNe (dVar 4) (dBin dIx (dVar 6) (dC (.int 1)))) (dBin dEq (dBin dMod (dBin dFdiv (dVar 5) (dVar 11)) (dC (.int 2))) (dC (.int 1))))) (dgN 4)) (dPar 5 6 (dCons (dBin dMod (dVar 5) (dVar 11)) (dCons (dTup (dCons (dNeg (dC (.int 1))) (dCons (dC (.bl false)) (dCons (dC (.int 0)) dNil)))) dNil))))) dNext))
def runC : TDS := (dIfS (dB (dBin dGt (dVar 5) (dC (.int 0)))) (dSeq (dAsg (dCall dMin (dCons (dCall dMax (dCons (dC (.int 1)) (dCons (dVar 10) dNil))) (dCons (dVar 5) dNil))) (dgN 12)) (dPar3 2 4 5 (dCons (dBin dAdd (dVar 2) (dBin dMul (dVar 12) (dVar 9))) (dCons (dBin dNe (dVar 4) (dAndV (dVar 8) (dBin dEq (dBin dMod (dVar 12) (dC (.int 2))) (dC (.int 1))))) (dCons (dBin dSub (dVar 5) (dVar 12)) dNil))))) dNext)
theorem run_body (a : Ads) (Wd : WD) : lb1_law_run a Wd = dSeq (dAsg (dCallF (sp_law_step a) Wd (dCons (dVar 0) (dCons (dVar 1) (dCons (dVar 2) dNil)))) (dgT 2 (dgCons (dgN 7) (dgCons (dgN 8) dgNil)))) (dSeq (dPar 9 10 (dCons (dBin dSub (dVar 7) (dVar 2)) (dCons (dC (.int 0)) dNil))) (dSeq (dIfS (dB (dBin dEq (dVar 9) (dC (.int 0)))) (dRet (dTup (dCons (dVar 2) (dCons (dBin dNe (dVar 4) (dAndV (dVar 8) (dBin dEq (dBin dMod (dVar 5) (dC (.int 2))) (dC (.int 1))))) dNil)))) dNext) (dSeq (runA a Wd) (dSeq runB runC)))) := rfl
theorem run_loop (a : Ads) {Wd : WD} {E : DE} {s : List Fl} {n : Int} {R : D} {μ : Mu} (hs : okS s) (hl8 : s.length ≤ 8) (hn : 12 ≤ n) (hnb : big n) : ∀ (K : Nat) (p l : Int) (o : Bool) (anc : D) (x7 x8 x9 x10 x11 x12 : Option D), l.toNat ≤ K → 0 ≤ l → big l → inR n p → Anc s n p o l anc →
    (∀ x5 x6 x7 x8 x9 x10 x11 x12, E.nx [some (encS s), some (.int n), some (.int (go s n l.toNat (p, o)).1), some R, some (.bl (go s n l.toNat (p, o)).2), x5, x6, x7, x8, x9, x10, x11, x12] μ) →
    E.rt (encP (go s n l.toNat (p, o))) μ →
    dWhileN (lc1_law_run a Wd) (lb1_law_run a Wd) E (K + 1) [some (encS s), some (.int n), some (.int p), some R, some (.bl o), some (.int l), some anc, x7, x8, x9, x10, x11, x12] μ := by
  intro K
  induction K with
  | zero =>
    intro p l o anc x7 x8 x9 x10 x11 x12 hK hl hlb hp ha hE hR
    have e : l = 0 := by omega
    subst e
    exact hE _ _ _ _ _ _ _ _
  | succ K ih =>
    intro p l o anc x7 x8 x9 x10 x11 x12 hK hl hlb hp ha hE hR
    refine while_succ ?_
    show dB (dBin dGt (dVar 5) (dC (.int 0))) _ _ _
    walk_at "ev"
    by_cases h0 : 0 < l
    · simp only [h0, decide_true, if_true]
      obtain ⟨t, b, ho⟩ : ∃ t b, once s n p = (t, b) := ⟨_, _, rfl⟩
      generalize hE1 : ({ nx := dWhileN (lc1_law_run a Wd) _ E (K + 1), rt := E.rt, bk := E.nx, ct := _ } : DE) = E1
      have hrt : E1.rt = E.rt := by rw [← hE1]
      have hnx : E1.nx = dWhileN (lc1_law_run a Wd) (lb1_law_run a Wd) E (K + 1) := by rw [← hE1]
      rw [run_body]
      walk_at "ev"
      refine ⟨s, n, p, rfl, ?_⟩
      rw [ho]
      walk_at "ev"
      by_cases hz : t - p = 0
      · simp only [hz, decide_true, if_true]
        have e : t = p := by omega
        subst e
        have hg : go s n l.toNat (t, o) = (t, o ^^ (b && decide (l % 2 = 1))) := by
          have hg1 : go s n 1 (t, false) = (t, b) := ho
          have h := go_rounds s n hg1 l.toNat o
          rw [Nat.one_mul] at h
          rw [h]
          have e4 : decide (l.toNat % 2 = 1) = decide (l % 2 = 1) := by
            by_cases hx : l % 2 = 1
            · rw [decide_eq_true hx, decide_eq_true (by omega)]
            · rw [decide_eq_false hx, decide_eq_false (by omega)]
          rw [e4]
        rw [hg] at hR
        simp only [hrt, xor_dec]
        cases b with
        | true =>
          simp only [if_true]
          rw [Bool.true_and] at hR
          exact ⟨by decide, two_line, hR⟩
        | false =>
          simp only [Bool.false_eq_true, if_false]
          rw [Bool.false_and] at hR
          exact ⟨two_line, hR⟩
      · simp only [hz, decide_false, Bool.false_eq_true, if_false]
        refine st_far hs hl8 hp hnb ho hz fun far lp => ?_
        refine st_anc hp h0 hlb ha fun o' l' anc' x11' b0 b1 e1 m1 m2 => ?_
        refine st_move hs hn hp b0 (big_le b0 b1 hlb) m1 m2 hnb lp ho fun p' o'' l'' x12' c0 c1 c2 c3 e2 m3 => ?_
        show E1.nx _ _
        rw [hnx]
        have e3 := e1.trans e2
        refine ih p' l'' o'' anc' _ _ _ _ _ _ (by omega) c0 (big_le c0 (by omega) hlb) c3 m3 ?_ ?_
        · rw [← e3]; exact hE
        · rw [← e3]; exact hR
    · have e : l = 0 := by omega
      subst e
      exact hE _ _ _ _ _ _ _ _
theorem se_law_run (a : Ads) {ds μ P Pe} (h : sp_law_run a ds μ P Pe) : td_law_run a (fun cls _ μ => Pe cls μ) (EE P) (startD ["_law_script_so", "_law_n", "_law_place_so", "_law_rounds", "_law_over", "_law_left", "_law_anchor", "_law_there", "_law_side", "_law_by", "_law_far", "_law_length", "_law_many"] ds) μ := by
  obtain ⟨s, n, p, r, rfl, hs, hl, hn, hp, hnb, hr, hb, h⟩ := h
  show td_law_run a _ _ [some (encS s), some (.int n), some (.int p), some (.int r), none, none, none, none, none, none, none, none, none] μ
  unfold td_law_run
  walk_at "ev"
  refine ⟨r.toNat + 1, run_loop a hs hl hn hnb r.toNat p r false .non none none none none none none (Nat.le_refl _) hr hb hp (.inl rfl) (fun x5 x6 x7 x8 x9 x10 x11 x12 => ?_) h⟩
  walk_at "ev"
  exact ⟨two_line, h⟩
end GF

set_option Elab.async false
set_option linter.all false
set_option maxRecDepth 100000
set_option maxHeartbeats 2000000
/-! SP7: low and high stacks told rightly, what is refused. -/
namespace GF
open PySem PySem.Spec PyProof.Rows L2 HT DL
local macro_rules | `(tactic| walk_at "ev") => `(tactic| simp only [dSeq, dNext, dIfS, dRet, dRetN, dAsg, dDrop, dgN, dgT, dgNs, dgCons, dgNil, dgSub, dPar, dPar3, dRaise, dCallF, dCall, dCons, dNil, dTup, dLst, dLstM, dC, dVar, dBin, dChain, dAndV, dOrV, dNotV, dIf, dB, dAndT, dOrT, dNotT, dNeg, dIsiE,
  dAdd, dSub, dMul, dMulM, dMod, dFdiv, dPow, dLt, dLe, dGt, dGe, dCmpI, dEq, dNe, dIs, dIsNot, dIx, ixD, dLen, lenD, dAbs, dMax, dMin, dInt, dTuple, dList, dFor, dForD, diSeq, diEnum, itemsD, diRange1, diRange2, dLc, dYes, wipeD, dRev, dSlice, dNo, dPart, dCut,
  List.getElem?_cons_zero, List.getElem?_cons_succ, List.set_cons_zero, List.set_cons_succ, List.length_cons, List.length_nil, if_true, Bool.false_eq_true, if_false, Bool.not_true, Bool.not_false, Bool.true_and, Bool.false_and, Bool.and_true, Bool.and_false,
  ok_int, ok_bl, ok_non, deq_int, deq_bl, deq_str, true_and, and_true, k_int, k_bool, k_tuple, k_str, isNon, encP, onceP0, onceP1, onceP2, xor_dec, tri1, tri2])
local macro_rules | `(tactic| walk_at "e2") => `(tactic| simp only [dSeq, dNext, dIfS, dRet, dRetN, dAsg, dDrop, dgN, dgT, dgNs, dgCons, dgNil, dgSub, dPar, dPar3, dRaise, dCallF, dCall, dCons, dNil, dTup, dLst, dLstM, dC, dVar, dBin, dChain, dAndV, dOrV, dNotV, dIf, dB, dAndT, dOrT, dNotT, dNeg, dIsiE,
  dAdd, dSub, dMul, dMulM, dMod, dFdiv, dPow, dLt, dLe, dGt, dGe, dCmpI, dEq, dNe, dIs, dIsNot, dIx, ixD, dLen, lenD, dAbs, dMax, dMin, dInt, dTuple, dList, dFor, diSeq, diEnum, itemsD, diRange1, diRange2, dLc, dYes, wipeD, dRev, dSlice, dNo, dPart, dCut,
  List.getElem?_cons_zero, List.getElem?_cons_succ, List.set_cons_zero, List.set_cons_succ, List.length_cons, List.length_nil, if_true, Bool.false_eq_true, if_false, Bool.not_true, Bool.not_false, Bool.true_and, Bool.false_and, Bool.and_true, Bool.and_false,
  ok_int, ok_bl, ok_non, deq_int, deq_bl, deq_str, true_and, and_true, k_int, k_bool, k_tuple, k_str, isNon, encP, onceP0, onceP1, onceP2, xor_dec, tri1, tri2])
def words : List (Str × Str) := [("InvalidFlip", "flip"), ("InvalidScript", "script"), ("InvalidHeight", "height"), ("InvalidPlace", "place"), ("InvalidNumber", "number"), ("InvalidIndex", "index"), ("InvalidStack", "stack"), ("Unlike", "unlike"), ("NothingToUndo", "undo"), ("TooMany", "many"), ("InvalidText", "text")]
/-- the word of a class -/
def WordOf (a : Ads) (cls : Value) (w : Str) : Prop := ∃ x, (x, w) ∈ words ∧ cls = .ref (a.c x)
def refSpec (a : Ads) (S : DSpec) : DSpec := fun ds μ P _ => S ds μ (fun _ μ => P (.str "") μ) fun cls μ => ∃ w, WordOf a cls w ∧ P (.str w) μ
def sp_law_by_two (a : Ads) : DSpec := fun ds μ P Pe => ∃ d1 d2, ds = [.ref (a.f "order"), d1, d2] ∧ refSpec a (sp_order a) [d1, d2] μ P Pe
def sp_law_by_four (a : Ads) : DSpec := fun ds μ P Pe => ∃ d1 d2 d3 d4, ds = [.ref (a.f "after"), d1, d2, d3, d4] ∧ refSpec a (sp_after a) [d1, d2, d3, d4] μ P Pe
def sp_law_low_right (a : Ads) : DSpec := fun ds μ P _ => ∃ q s n, ds = [.ref q, encS s, .int n] ∧ okS s ∧ s.length ≤ 8 ∧ 12 ≤ n ∧ n ≤ 60 ∧ Src μ q ∧ ∀ μ', Src μ' q → P (.bl true) μ'
def sp_law_high_right (a : Ads) : DSpec := fun ds μ P _ => ∃ q s n, ds = [.ref q, encS s, .int n] ∧ okS s ∧ s.length ≤ 8 ∧ 12 ≤ n ∧ n ≤ 10 ^ 30 ∧ Src μ q ∧ ∀ μ', Src μ' q → P (.bl true) μ'
def sp_law_refusals (a : Ads) : DSpec := fun ds μ P _ => ∃ s n, ds = [encS s, .int n] ∧ okS s ∧ s.length ≤ 8 ∧ 12 ≤ n ∧ n ≤ 10 ^ 30 ∧ P (.bl true) μ
def lb1_law_low_right (a : Ads) : WD → TDS := fun Wd => (dSeq (dIfS (dB (dBin dNe (dCallF (sp_after a) Wd (dCons (dVar 1) (dCons (dVar 2) (dCons (dVar 4) (dCons (dC (.int 1)) dNil))))) (dBin dIx (dVar 3) (dVar 4)))) (dRet (dC (.bl false))) dNext) (dIfS (dB (dBin dNe (dCallF (sp_after a) Wd (dCons (dVar 1) (dCons (dVar 2) (dCons (dBin dSub (dVar 4) (dVar 2)) (dCons (dC (.int 0)) dNil))))) (dTup (dCons (dVar 4) (dCons (dC (.bl false)) dNil))))) (dRet (dC (.bl false))) dNext))
def lb2_law_low_right (a : Ads) : WD → TDS := fun Wd => (dPar 6 7 (dCons (dBin dIx (dBin dIx (dVar 3) (dVar 6)) (dC (.int 0))) (dCons (dBin dNe (dVar 7) (dBin dIx (dBin dIx (dVar 3) (dVar 6)) (dC (.int 1)))) dNil)))
def td_law_low_right (a : Ads) : WD → TDS := fun Wd => (dSeq (dAsg (dCallF (sp_law_goes a) Wd (dCons (dVar 1) (dCons (dVar 2) dNil))) (dgN 3)) (dSeq (dIfS (dB (dBin dNe (dCallF (sp_order a) Wd (dCons (dVar 1) (dCons (dVar 2) dNil))) (dCall dTuple (dCons (dCallF (sp_law_lying a) Wd (dCons (dVar 1) (dCons (dVar 2) dNil))) dNil)))) (dRet (dC (.bl false))) dNext) (dSeq (dFor (diRange1 (dCons (dVar 2) dNil)) (dgN 4) (lb1_law_low_right a Wd)) (dSeq (dPar 4 5 (dCons (dCallF (sp_law_pick a) Wd (dCons (dVar 0) (dCons (dVar 2) dNil))) (dCons (dCallF (sp_law_pick a) Wd (dCons (dVar 0) (dCons (dC (.int 80)) dNil))) dNil))) (dSeq (dPar 6 7 (dCons (dVar 4) (dCons (dC (.bl false)) dNil))) (dSeq (dFor (diRange1 (dCons (dVar 5) dNil)) (dgN 8) (lb2_law_low_right a Wd)) (dRet (dBin dEq (dCallF (sp_after a) Wd (dCons (dVar 1) (dCons (dVar 2) (dCons (dVar 4) (dCons (dVar 5) dNil))))) (dTup (dCons (dVar 6) (dCons (dVar 7) dNil)))))))))))
def lb1_law_high_right (a : Ads) : WD → TDS := fun Wd => (dSeq (dAsg (dCallF (sp_law_run a) Wd (dCons (dVar 1) (dCons (dVar 2) (dCons (dVar 5) (dCons (dVar 7) dNil))))) (dgN 8)) (dIfS (dB (dBin dNe (dCallF (sp_after a) Wd (dCons (dVar 1) (dCons (dVar 2) (dCons (dVar 4) (dCons (dVar 7) dNil))))) (dVar 8))) (dRet (dC (.bl false))) dNext))
def lb2_law_high_right (a : Ads) : WD → TDS := fun Wd => (dSeq (dAsg (dIf (dB (dBin dGe (dVar 4) (dC (.int 0)))) (dVar 4) (dBin dAdd (dVar 2) (dVar 4))) (dgN 5)) (dIfS (dB (dChain dLe dLt (dC (.int 0)) (dVar 5) (dVar 2))) (dSeq (dAsg (dLst (dCons (dC (.int 1)) (dCons (dCallF (sp_law_pick a) Wd (dCons (dVar 0) (dCons (dC (.int 300)) dNil))) dNil))) (dgN 6)) (dSeq (dFor (diSeq (dBin dAdd (dVar 6) (dLst (dCons (dCallF (sp_law_pick a) Wd (dCons (dVar 0) (dCons (dVar 2) dNil))) (dCons (dBin dSub (dBin dPow (dC (.int 10)) (dC (.int 30))) (dCallF (sp_law_pick a) Wd (dCons (dVar 0) (dCons (dBin dPow (dC (.int 10)) (dC (.int 6))) dNil)))) dNil))))) (dgN 7) (lb1_law_high_right a Wd)) (dSeq (dAsg (dCallF (sp_after a) Wd (dCons (dRev (dVar 1)) (dCons (dVar 2) (dCons (dBin dIx (dCallF (sp_after a) Wd (dCons (dVar 1) (dCons (dVar 2) (dCons (dVar 4) (dCons (dC (.int 1)) dNil))))) (dC (.int 0))) (dCons (dC (.int 1)) dNil))))) (dgN 9)) (dIfS (dB (dBin dNe (dVar 9) (dTup (dCons (dVar 5) (dCons (dBin dIx (dCallF (sp_after a) Wd (dCons (dVar 1) (dCons (dVar 2) (dCons (dVar 4) (dCons (dC (.int 1)) dNil))))) (dC (.int 1))) dNil))))) (dRet (dC (.bl false))) dNext)))) dNext))
def td_law_high_right (a : Ads) : WD → TDS := fun Wd => (dSeq (dAsg (dLst (dCons (dCallF (sp_law_pick a) Wd (dCons (dVar 0) (dCons (dC (.int 70)) dNil))) (dCons (dBin dSub (dNeg (dC (.int 1))) (dCallF (sp_law_pick a) Wd (dCons (dVar 0) (dCons (dC (.int 70)) dNil)))) dNil))) (dgN 3)) (dSeq (dAsg (dBin dAdd (dVar 3) (dLst (dCons (dBin dAdd (dBin dFdiv (dVar 2) (dC (.int 2))) (dCallF (sp_law_pick a) Wd (dCons (dVar 0) (dCons (dC (.int 50)) dNil)))) (dCons (dCallF (sp_law_pick a) Wd (dCons (dVar 0) (dCons (dVar 2) dNil))) dNil)))) (dgN 3)) (dSeq (dFor (diSeq (dVar 3)) (dgN 4) (lb2_law_high_right a Wd)) (dRet (dC (.bl true))))))
def lb1_law_refusals (a : Ads) : WD → TDS := fun Wd => (dIfS (dB (dBin dNe (dCallF (sp_law_by_four a) Wd (dCons (dC (.ref (a.f "after"))) (dCons (dVar 0) (dCons (dVar 1) (dCons (dVar 2) (dCons (dC .non) dNil)))))) (dC (.str "place")))) (dRet (dC (.bl false))) dNext)
def lb2_law_refusals (a : Ads) : WD → TDS := fun Wd => (dSeq (dIfS (dB (dBin dNe (dCallF (sp_law_by_four a) Wd (dCons (dC (.ref (a.f "after"))) (dCons (dVar 0) (dCons (dVar 2) (dCons (dC .non) (dCons (dC .non) dNil)))))) (dC (.str "height")))) (dRet (dC (.bl false))) dNext) (dIfS (dB (dBin dNe (dCallF (sp_law_by_two a) Wd (dCons (dC (.ref (a.f "order"))) (dCons (dVar 0) (dCons (dVar 2) dNil)))) (dC (.str "height")))) (dRet (dC (.bl false))) dNext))
def lb3_law_refusals (a : Ads) : WD → TDS := fun Wd => (dIfS (dB (dBin dNe (dCallF (sp_law_by_four a) Wd (dCons (dC (.ref (a.f "after"))) (dCons (dVar 0) (dCons (dC (.int 12)) (dCons (dNeg (dC (.int 12))) (dCons (dVar 2) dNil)))))) (dC (.str "number")))) (dRet (dC (.bl false))) dNext)
def td_law_refusals (a : Ads) : WD → TDS := fun Wd => (dSeq (dFor (diSeq (dLst (dCons (dC .non) (dCons (dVar 1) (dCons (dBin dSub (dNeg (dVar 1)) (dC (.int 1))) (dCons (dC (.bl true)) (dCons (dC (.str "0")) dNil))))))) (dgN 2) (lb1_law_refusals a Wd)) (dSeq (dFor (diSeq (dLst (dCons (dC .non) (dCons (dC (.int 11)) (dCons (dBin dAdd (dBin dPow (dC (.int 10)) (dC (.int 30))) (dC (.int 1))) (dCons (dC (.bl true)) (dCons (dC (.str "12")) dNil))))))) (dgN 2) (lb2_law_refusals a Wd)) (dSeq (dFor (diSeq (dLst (dCons (dC .non) (dCons (dNeg (dC (.int 1))) (dCons (dBin dAdd (dBin dPow (dC (.int 10)) (dC (.int 30))) (dC (.int 1))) (dCons (dC (.bl true)) dNil)))))) (dgN 2) (lb3_law_refusals a Wd)) (dSeq (dIfS (dOrT (dB (dBin dNe (dCallF (sp_law_by_two a) Wd (dCons (dC (.ref (a.f "order"))) (dCons (dVar 0) (dCons (dC (.int 61)) dNil)))) (dC (.str "height")))) (dB (dBin dNe (dCallF (sp_law_by_two a) Wd (dCons (dC (.ref (a.f "order"))) (dCons (dLst dNil) (dCons (dC .non) dNil)))) (dC (.str "script"))))) (dRet (dC (.bl false))) dNext) (dRet (dBin dEq (dCallF (sp_law_by_four a) Wd (dCons (dC (.ref (a.f "after"))) (dCons (dTup (dCons (dTup (dCons (dC (.str "top")) (dCons (dC (.int 9)) dNil))) dNil)) (dCons (dC .non) (dCons (dC .non) (dCons (dC .non) dNil)))))) (dC (.str "script"))))))))
theorem deq_self {n : Nat} {d : D} (h : okD n d = true) : deq d d = true := PySem.SeqAt.eqv_refl _ (py_ok n d h).1
/-- what is not unlike itself -/
theorem ne_same {d e : D} {A B : Prop} (he : d = e) (h8 : okD 8 d = true) (h : B) : okD 8 d = true ∧ okD 8 e = true ∧ if (!deq d e) = true then A else B := by
  subst he
  refine ⟨h8, h8, ?_⟩
  rw [deq_self h8]
  exact h
theorem eq_same {d e : D} {P : DK} {μ : Mu} (he : d = e) (h8 : okD 8 d = true) (h : P (.bl true) μ) : okD 8 d = true ∧ okD 8 e = true ∧ P (.bl (deq d e)) μ := by
  subst he
  refine ⟨h8, h8, ?_⟩
  rw [deq_self h8]
  exact h
theorem ok_wordF (f : Fl) : PyData.strOk f.word = true := by
  cases f with
  | top k => show PyData.strOk "top" = true; decide +kernel
  | but k => show PyData.strOk "but" = true; decide +kernel
theorem ok_encF (n : Nat) (f : Fl) : okD (n + 1) (encF f) = true := by
  have h := ok_wordF f
  cases n <;> simp [encF, okD, okDA, h]
theorem ok_encS (n : Nat) (s : List Fl) : okD (n + 2) (encS s) = true := by
  show okDA (n + 1) (s.map encF) = true
  induction s with
  | nil => rfl
  | cons f s ih =>
    show (okD (n + 1) (encF f) && okDA (n + 1) (s.map encF)) = true
    rw [ih, ok_encF]
    rfl
theorem ok_encPs (n : Nat) (L : List (Int × Bool)) : okDA (n + 1) (L.map encP) = true := by
  induction L with
  | nil => rfl
  | cons f s ih =>
    show (okD (n + 1) (encP f) && okDA (n + 1) (s.map encP)) = true
    rw [ih]
    cases n <;> rfl
theorem after_ok (a : Ads) {s : List Fl} {n p r : Int} {μ : Mu} {P : DK} {Pe : Value → Mu → Prop} (hs : okS s) (hl : s.length ≤ 8) (h1 : 12 ≤ n) (h2 : n ≤ 10 ^ 30) (h3 : -n ≤ p) (h4 : p ≤ n - 1) (h5 : 0 ≤ r) (h6 : r ≤ 10 ^ 30)
    (h : P (encP (go s n r.toNat (placeOf n (.int p), false))) μ) : sp_after a [encS s, .int n, .int p, .int r] μ P Pe :=
  ⟨_, _, _, _, rfl, ok_encS 6 s, ok_int _, ok_int _, ok_int _, .inr ⟨s, rfl, hs, hl, .inr ⟨n, rfl, h1, h2, .inr ⟨p, rfl, h3, h4, .inr ⟨r, rfl, h5, h6, h⟩⟩⟩⟩⟩
theorem order_ok (a : Ads) {s : List Fl} {n : Int} {μ : Mu} {P : DK} {Pe : Value → Mu → Prop} (hs : okS s) (hl : s.length ≤ 8) (h1 : 12 ≤ n) (h2 : n ≤ 60) (h : P (.tup ((ly s n).map encP)) μ) : sp_order a [encS s, .int n] μ P Pe :=
  ⟨_, _, rfl, ok_encS 6 s, ok_int _, .inr ⟨s, rfl, hs, hl, .inr ⟨n, rfl, h1, h2, h⟩⟩⟩
theorem goes_at {s : List Fl} {n : Int} {i : Nat} (h : i < n.toNat) : atI (goesD s n) (i : Int) = some (encP (once s n i)) := by
  have hl : (goesD s n).length = n.toNat := by unfold goesD; rw [List.length_map, List.length_range]
  obtain ⟨x, e, e2⟩ := atI_get (xs := goesD s n) (k := (i : Int)) (by omega) (by omega)
  rw [e]
  rw [Int.toNat_natCast] at e2
  unfold goesD at e2
  rw [List.getElem?_map, List.getElem?_range h] at e2
  exact e2.symm
theorem ne_of_src {μ : Mu} {q g : Addr} (h : Src μ q) (hg : μ g = none) : g ≠ q := by
  rintro rfl
  obtain ⟨x, y, e, _⟩ := h
  rw [hg] at e
  cases e
theorem place_pos {n p : Int} (h : 0 ≤ p) : placeOf n (.int p) = p := if_pos h
theorem place_neg {n p : Int} (h : p < 0) : placeOf n (.int p) = n + p := if_neg (by omega)
theorem lb1_low (a : Ads) {Wd : WD} {E : DE} {s : List Fl} {n : Int} {μ : Mu} {q g : Addr} {x5 x6 x7 x8 : Option D} (hs : okS s) (hl : s.length ≤ 8) (h1 : 12 ≤ n) (h2 : n ≤ 60) (hg : μ g = some (.lst (goesD s n))) :
    ∀ (is : List Nat) (x4 : Option D), (∀ i ∈ is, i < n.toNat) → (∀ x4, E.nx [some (.ref q), some (encS s), some (.int n), some (.ref g), x4, x5, x6, x7, x8] μ) →
    dForD (dgN 4) (lb1_law_low_right a Wd) E (is.map fun (i : Nat) => D.int (0 + (i : Int))) [some (.ref q), some (encS s), some (.int n), some (.ref g), x4, x5, x6, x7, x8] μ
  | [], x4, _, h => h x4
  | i :: is, x4, hi, h => by
    rw [List.map_cons]
    unfold dForD
    show lb1_law_low_right a Wd _ [some (.ref q), some (encS s), some (.int n), some (.ref g), some (.int (0 + (i : Int))), x5, x6, x7, x8] μ
    rw [Int.zero_add]
    have hin := hi i List.mem_cons_self
    unfold lb1_law_low_right
    walk_at "ev"
    refine after_ok a hs hl h1 (by omega) (by omega) (by omega) (by decide) (by decide) ?_
    rw [place_pos (by omega)]
    walk_at "ev"
    rw [hg]
    simp only [goes_at hin]
    walk_at "ev"
    refine ne_same rfl (ok_P _ _) ?_
    refine after_ok a hs hl h1 (by omega) (by omega) (by omega) (by decide) (by decide) ?_
    rw [place_neg (by omega)]
    walk_at "ev"
    refine ⟨two_line, ne_same ?_ (ok_P _ _) ?_⟩
    · show encP (n + ((i : Int) - n), false) = _
      have e : n + ((i : Int) - n) = i := by omega
      rw [e]
      rfl
    exact lb1_low a (Wd := Wd) hs hl h1 h2 hg is _ (fun j hj => hi j (List.mem_cons_of_mem _ hj)) h
theorem lb2_low (a : Ads) {Wd : WD} {E : DE} {s : List Fl} {n : Int} {μ : Mu} {g : Addr} {x0 x1 x2 x4 x5 : Option D} (hs : okS s) (h1 : 12 ≤ n) (hg : μ g = some (.lst (goesD s n))) :
    ∀ (k lo : Nat) (p : Int) (o : Bool) (x8 : Option D), inR n p → (∀ x8, E.nx [x0, x1, x2, some (.ref g), x4, x5, some (.int (go s n k (p, o)).1), some (.bl (go s n k (p, o)).2), x8] μ) →
    dForD (dgN 8) (lb2_law_low_right a Wd) E ((List.range' lo k).map fun (i : Nat) => D.int (0 + (i : Int))) [x0, x1, x2, some (.ref g), x4, x5, some (.int p), some (.bl o), x8] μ
  | 0, lo, p, o, x8, _, h => h x8
  | k + 1, lo, p, o, x8, hp, h => by
    show dForD _ _ _ (_ :: (List.range' (lo + 1) k).map _) _ _
    unfold dForD
    show lb2_law_low_right a Wd _ [x0, x1, x2, some (.ref g), x4, x5, some (.int p), some (.bl o), some (.int (0 + (lo : Int)))] μ
    unfold lb2_law_low_right
    unfold inR at hp
    have hat := goes_at (s := s) (n := n) (i := p.toNat) (by omega)
    rw [Int.toNat_of_nonneg hp.1] at hat
    walk_at "ev"
    simp only [hg, hat]
    walk_at "ev"
    have e : go s n (k + 1) (p, o) = go s n k ((once s n p).1, o ^^ (once s n p).2) := by
      show go s n k (onceF s n (p, o)) = _
      rw [onceF_side0]
      rfl
    rw [e] at h
    exact lb2_low a (Wd := Wd) hs h1 hg k (lo + 1) _ _ _ (onceF_in h1 hs (q := (p, false)) hp) h
theorem rangeD' (k : Nat) : rangeD 0 k = (List.range' 0 k).map fun (i : Nat) => D.int (0 + (i : Int)) := by unfold rangeD; rw [List.range_eq_range']
theorem se_law_low_right (a : Ads) {ds μ P Pe} (h : sp_law_low_right a ds μ P Pe) : td_law_low_right a (fun cls _ μ => Pe cls μ) (EE P) (startD ["_law_source_here", "_law_script_so", "_law_n", "_law_goes_here", "_law_place_so", "_law_rounds", "_law_here", "_law_over", "_law_turn"] ds) μ := by
  obtain ⟨q, s, n, rfl, hs, hl, h1, h2, hsrc, h⟩ := h
  show td_law_low_right a _ _ [some (.ref q), some (encS s), some (.int n), none, none, none, none, none, none] μ
  unfold td_law_low_right
  refine ⟨s, n, rfl, hs, h1, h2, fun g hg => ?_⟩
  have hne := ne_of_src hsrc hg
  have hsrc2 : Src (mset μ g (.lst (goesD s n))) q := by
    obtain ⟨x, y, e, o⟩ := hsrc
    exact ⟨x, y, by rw [mset_ne (fun z => hne z.symm)]; exact e, o⟩
  have hg2 : mset μ g (.lst (goesD s n)) g = some (.lst (goesD s n)) := mset_same
  generalize mset μ g (.lst (goesD s n)) = μ1 at *
  walk_at "ev"
  refine order_ok a hs hl h1 h2 ?_
  refine ⟨s, n, rfl, hs, h1, h2, ?_⟩
  walk_at "ev"
  refine ne_same rfl (show okDA 7 ((ly s n).map encP) = true from ok_encPs 6 _) ?_
  refine ⟨by omega, ?_⟩
  refine lb1_low a hs hl h1 h2 hg2 (List.range n.toNat) none (fun i hi => List.mem_range.mp hi) fun x4 => ?_
  walk_at "ev"
  refine ⟨q, n, rfl, hsrc2, by omega, by unfold big; omega, fun p μ2 p0 p1 st2 => ?_⟩
  refine ⟨q, 80, rfl, st2.src, by decide, by unfold big; decide, fun r μ3 r0 r1 st3 => ?_⟩
  walk_at "ev"
  refine ⟨by omega, ?_⟩
  rw [rangeD']
  have hg3 : μ3 g = some (.lst (goesD s n)) := by rw [(st2.trans st3).ne hne]; exact hg2
  refine lb2_low a hs h1 hg3 r.toNat 0 p false none ⟨p0, p1⟩ fun x8 => ?_
  walk_at "ev"
  refine after_ok a hs hl h1 (by omega) (by omega) (by omega) r0 (by omega) ?_
  rw [place_pos p0]
  refine ⟨two_line, eq_same rfl (ok_P _ _) (h μ3 (st2.trans st3).src)⟩
theorem lb1_high (a : Ads) {Wd : WD} {E : DE} {s : List Fl} {n p sp : Int} {μ : Mu} {x0 x3 x6 x9 : Option D} (hs : okS s) (hl : s.length ≤ 8) (h1 : 12 ≤ n) (h2 : n ≤ 10 ^ 30) (h3 : -n ≤ p) (h4 : p ≤ n - 1) (hsp : placeOf n (.int p) = sp) (hin : inR n sp) :
    ∀ (rs : List Int) (x7 x8 : Option D), (∀ r ∈ rs, 0 ≤ r ∧ r ≤ 10 ^ 30) → (∀ x7 x8, E.nx [x0, some (encS s), some (.int n), x3, some (.int p), some (.int sp), x6, x7, x8, x9] μ) →
    dForD (dgN 7) (lb1_law_high_right a Wd) E (rs.map .int) [x0, some (encS s), some (.int n), x3, some (.int p), some (.int sp), x6, x7, x8, x9] μ
  | [], x7, x8, _, h => h x7 x8
  | r :: rs, x7, x8, hr, h => by
    rw [List.map_cons]
    unfold dForD
    show lb1_law_high_right a Wd _ [x0, some (encS s), some (.int n), x3, some (.int p), some (.int sp), x6, some (.int r), x8, x9] μ
    have hr0 := hr r List.mem_cons_self
    have ih := fun x7 x8 => lb1_high a (Wd := Wd) (x0 := x0) (x3 := x3) (x6 := x6) (x9 := x9) (μ := μ) hs hl h1 h2 h3 h4 hsp hin rs x7 x8 (fun r hx => hr r (List.mem_cons_of_mem _ hx)) h
    generalize hE1 : ({ nx := dForD (dgN 7) (lb1_law_high_right a Wd) E (rs.map .int), rt := E.rt, bk := E.nx, ct := _ } : DE) = E1
    have hnx : E1.nx = dForD (dgN 7) (lb1_law_high_right a Wd) E (rs.map .int) := by rw [← hE1]
    unfold lb1_law_high_right
    walk_at "ev"
    refine ⟨s, n, sp, r, rfl, hs, hl, h1, hin, big30 (by omega) h2, hr0.1, big30 hr0.1 hr0.2, ?_⟩
    walk_at "ev"
    refine after_ok a hs hl h1 h2 h3 h4 hr0.1 hr0.2 ?_
    rw [hsp]
    refine ne_same rfl (ok_P _ _) ?_
    show E1.nx _ _
    rw [hnx]
    exact ih _ _
theorem okS_rev {s : List Fl} (h : okS s) : okS s.reverse := fun f hf => h f (List.mem_reverse.mp hf)
theorem enc_rev (s : List Fl) : D.tup (List.map encF s).reverse = encS s.reverse := by
  unfold encS
  rw [List.map_reverse]
theorem back_eq {s : List Fl} {n sp : Int} (h1 : 12 ≤ n) (hs : okS s) (hin : inR n sp) : once s.reverse n (once s n sp).1 = (sp, (once s n sp).2) := by
  have h := once_back h1 hs (q := (sp, false)) hin
  have h : onceF s.reverse n ((once s n sp).1, (once s n sp).2) = (sp, false) := h
  rw [onceF_side0] at h
  have e1 := congrArg Prod.fst h
  have e2 := congrArg Prod.snd h
  refine Prod.ext e1 ?_
  have e2 : ((once s n sp).2 ^^ (onceF s.reverse n ((once s n sp).1, false)).2) = false := e2
  show (onceF s.reverse n ((once s n sp).1, false)).2 = (once s n sp).2
  revert e2
  cases (once s n sp).2 <;> cases (onceF s.reverse n ((once s n sp).1, false)).2 <;> simp
def hiTail (a : Ads) (Wd : WD) : TDS := (dIfS (dB (dChain dLe dLt (dC (.int 0)) (dVar 5) (dVar 2))) (dSeq (dAsg (dLst (dCons (dC (.int 1)) (dCons (dCallF (sp_law_pick a) Wd (dCons (dVar 0) (dCons (dC (.int 300)) dNil))) dNil))) (dgN 6)) (dSeq (dFor (diSeq (dBin dAdd (dVar 6) (dLst (dCons (dCallF (sp_law_pick a) Wd (dCons (dVar 0) (dCons (dVar 2) dNil))) (dCons (dBin dSub (dBin dPow (dC (.int 10)) (dC (.int 30))) (dCallF (sp_law_pick a) Wd (dCons (dVar 0) (dCons (dBin dPow (dC (.int 10)) (dC (.int 6))) dNil)))) dNil))))) (dgN 7) (lb1_law_high_right a Wd)) (dSeq (dAsg (dCallF (sp_after a) Wd (dCons (dRev (dVar 1)) (dCons (dVar 2) (dCons (dBin dIx (dCallF (sp_after a) Wd (dCons (dVar 1) (dCons (dVar 2) (dCons (dVar 4) (dCons (dC (.int 1)) dNil))))) (dC (.int 0))) (dCons (dC (.int 1)) dNil))))) (dgN 9)) (dIfS (dB (dBin dNe (dVar 9) (dTup (dCons (dVar 5) (dCons (dBin dIx (dCallF (sp_after a) Wd (dCons (dVar 1) (dCons (dVar 2) (dCons (dVar 4) (dCons (dC (.int 1)) dNil))))) (dC (.int 1))) dNil))))) (dRet (dC (.bl false))) dNext)))) dNext)
theorem hi_body (a : Ads) (Wd : WD) : lb2_law_high_right a Wd = dSeq (dAsg (dIf (dB (dBin dGe (dVar 4) (dC (.int 0)))) (dVar 4) (dBin dAdd (dVar 2) (dVar 4))) (dgN 5)) (hiTail a Wd) := rfl
theorem lb2_high (a : Ads) {Wd : WD} {E : DE} {s : List Fl} {n : Int} {q : Addr} {x3 : Option D} (hs : okS s) (hl : s.length ≤ 8) (h1 : 12 ≤ n) (h2 : n ≤ 10 ^ 30) :
    ∀ (ps : List Int) (μ : Mu) (x4 x5 x6 x7 x8 x9 : Option D), Src μ q → (∀ x4 x5 x6 x7 x8 x9 μ', Src μ' q → E.nx [some (.ref q), some (encS s), some (.int n), x3, x4, x5, x6, x7, x8, x9] μ') →
    dForD (dgN 4) (lb2_law_high_right a Wd) E (ps.map .int) [some (.ref q), some (encS s), some (.int n), x3, x4, x5, x6, x7, x8, x9] μ
  | [], μ, x4, x5, x6, x7, x8, x9, hsrc, h => h x4 x5 x6 x7 x8 x9 μ hsrc
  | p :: ps, μ, x4, x5, x6, x7, x8, x9, hsrc, h => by
    rw [List.map_cons]
    unfold dForD
    show lb2_law_high_right a Wd _ [some (.ref q), some (encS s), some (.int n), x3, some (.int p), x5, x6, x7, x8, x9] μ
    have ih := fun μ x4 x5 x6 x7 x8 x9 hsrc => lb2_high a (Wd := Wd) (x3 := x3) hs hl h1 h2 ps μ x4 x5 x6 x7 x8 x9 hsrc h
    generalize hE1 : ({ nx := dForD (dgN 4) (lb2_law_high_right a Wd) E (ps.map .int), rt := E.rt, bk := E.nx, ct := _ } : DE) = E1
    have hnx : E1.nx = dForD (dgN 4) (lb2_law_high_right a Wd) E (ps.map .int) := by rw [← hE1]
    rw [hi_body]
    have rest : ∀ sp, sp = placeOf n (.int p) → hiTail a Wd
        E1 [some (.ref q), some (encS s), some (.int n), x3, some (.int p), some (.int sp), x6, x7, x8, x9] μ := by
      intro sp hsp
      unfold hiTail
      walk_at "ev"
      by_cases c1 : 0 ≤ sp
      · simp only [c1, decide_true, if_true]
        by_cases c2 : sp < n
        · simp only [c2, decide_true, if_true]
          have hp : -n ≤ p ∧ p ≤ n - 1 := by
            by_cases hx : 0 ≤ p
            · rw [place_pos hx] at hsp; omega
            · rw [place_neg (by omega)] at hsp; omega
          have hin : inR n sp := ⟨c1, c2⟩
          have hz := small_line
          refine ⟨q, 300, rfl, hsrc, by decide, by unfold big; decide, fun r1 μ1 a0 a1 st1 => ?_⟩
          refine ⟨by omega, q, n, rfl, st1.src, by omega, big30 (by omega) h2, fun r2 μ2 b0 b1 st2 => ?_⟩
          refine ⟨⟨by decide, by decide, by decide⟩, ⟨by decide, by decide, by decide⟩, q, _, rfl, st2.src, by decide, by unfold big; decide, fun r3 μ3 d0 d1 st3 => ?_⟩
          walk_at "ev"
          refine ⟨by omega, by omega, ?_⟩
          have e1 : (10 : Int) ^ Int.toNat 30 = 10 ^ 30 := rfl
          have e2 : (10 : Int) ^ Int.toNat 6 = 1000000 := by decide
          rw [e2] at d1
          rw [e1]
          refine lb1_high a hs hl h1 h2 hp.1 hp.2 hsp.symm hin [1, r1, r2, 10 ^ 30 - r3] _ _ (fun r hr => ?_) fun x7 x8 => ?_
          · have big1 : (1000000 : Int) ≤ 10 ^ 30 := by decide
            rcases List.mem_cons.mp hr with z | hr
            · omega
            rcases List.mem_cons.mp hr with z | hr
            · omega
            rcases List.mem_cons.mp hr with z | hr
            · omega
            rcases List.mem_cons.mp hr with z | hr
            · omega
            · cases hr
          · walk_at "ev"
            show sp_after a [encS s, .int n, .int p, .int 1] μ3 _ _
            refine after_ok a hs hl h1 h2 hp.1 hp.2 (by decide) (by decide) ?_
            rw [← hsp]
            have ho : go s n (Int.toNat 1) (sp, false) = once s n sp := rfl
            rw [ho]
            walk_at "ev"
            rw [enc_rev]
            have hin2 : inR n (once s n sp).1 := onceF_in h1 hs (q := (sp, false)) hin
            refine after_ok a (okS_rev hs) (by rw [List.length_reverse]; exact hl) h1 h2 (by have := hin2.1; omega) (by have := hin2.2; omega) (by decide) (by decide) ?_
            rw [place_pos hin2.1]
            have hb : go s.reverse n (Int.toNat 1) ((once s n sp).1, false) = (sp, (once s n sp).2) := back_eq h1 hs hin
            rw [hb]
            refine after_ok a hs hl h1 h2 hp.1 hp.2 (by decide) (by decide) ?_
            rw [← hsp, ho]
            walk_at "ev"
            refine ⟨two_line, ne_same rfl (ok_P _ _) ?_⟩
            rw [hnx]
            exact ih _ _ _ _ _ _ _ ((st1.trans st2).trans st3).src
        · simp only [c2, decide_false, Bool.false_eq_true, if_false]
          rw [hnx]
          exact ih _ _ _ _ _ _ _ hsrc
      · simp only [c1, decide_false, Bool.false_eq_true, if_false]
        rw [hnx]
        exact ih _ _ _ _ _ _ _ hsrc
    walk_at "ev"
    by_cases hx : 0 ≤ p
    · simp only [hx, decide_true, if_true]
      exact rest p (place_pos hx).symm
    · simp only [hx, decide_false, Bool.false_eq_true, if_false]
      exact rest (n + p) (place_neg (by omega)).symm
theorem se_law_high_right (a : Ads) {ds μ P Pe} (h : sp_law_high_right a ds μ P Pe) : td_law_high_right a (fun cls _ μ => Pe cls μ) (EE P) (startD ["_law_source_here", "_law_script_so", "_law_n", "_law_places_so", "_law_place_so", "_law_spot", "_law_odds", "_law_rounds", "_law_due", "_law_back"] ds) μ := by
  obtain ⟨q, s, n, rfl, hs, hl, h1, h2, hsrc, h⟩ := h
  show td_law_high_right a _ _ [some (.ref q), some (encS s), some (.int n), none, none, none, none, none, none, none] μ
  unfold td_law_high_right
  walk_at "ev"
  have hz := small_line
  refine ⟨q, 70, rfl, hsrc, by decide, by unfold big; decide, fun r1 μ1 a0 a1 st1 => ?_⟩
  refine ⟨q, 70, rfl, st1.src, by decide, by unfold big; decide, fun r2 μ2 b0 b1 st2 => ?_⟩
  walk_at "ev"
  refine ⟨by omega, wide_small (by decide) (by unfold big; decide), q, 50, rfl, st2.src, by decide, by unfold big; decide, fun r3 μ3 c0 c1 st3 => ?_⟩
  walk_at "ev"
  refine ⟨q, n, rfl, st3.src, by omega, big30 (by omega) h2, fun r4 μ4 d0 d1 st4 => ?_⟩
  walk_at "ev"
  refine ⟨by omega, by omega, ?_⟩
  refine lb2_high a hs hl h1 h2 [r1, -1 - r2, n / 2 + r3, r4] μ4 _ _ _ _ _ _ st4.src fun x4 x5 x6 x7 x8 x9 μ' hs' => ?_
  walk_at "ev"
  exact h μ' hs'
theorem four_ok (a : Ads) {d1 d2 d3 d4 : D} {μ : Mu} {P : DK} {Pe : Value → Mu → Prop} {w : Str} {x : Str} (hw : (x, w) ∈ words) (h : sp_after a [d1, d2, d3, d4] μ (fun _ μ => P (.str "") μ) (fun cls μ => ∃ w, WordOf a cls w ∧ P (.str w) μ)) : sp_law_by_four a [.ref (a.f "after"), d1, d2, d3, d4] μ P Pe := ⟨d1, d2, d3, d4, rfl, h⟩
theorem word_in (a : Ads) {x w : Str} (h : (x, w) ∈ words) : WordOf a (.ref (a.c x)) w := ⟨x, h, rfl⟩
theorem w_place (a : Ads) : WordOf a (.ref (a.c "InvalidPlace")) "place" := word_in a (by decide)
theorem w_height (a : Ads) : WordOf a (.ref (a.c "InvalidHeight")) "height" := word_in a (by decide)
theorem w_number (a : Ads) : WordOf a (.ref (a.c "InvalidNumber")) "number" := word_in a (by decide)
theorem w_script (a : Ads) : WordOf a (.ref (a.c "InvalidScript")) "script" := word_in a (by decide)
theorem okw_place : okD 8 (.str "place") = true := by decide +kernel
theorem okw_height : okD 8 (.str "height") = true := by decide +kernel
theorem okw_number : okD 8 (.str "number") = true := by decide +kernel
theorem okw_script : okD 8 (.str "script") = true := by decide +kernel
theorem bad_place (a : Ads) {s : List Fl} {n : Int} {d d4 : D} {μ : Mu} {P : DK} {Pe : Value → Mu → Prop} (hs : okS s) (hl : s.length ≤ 8) (h1 : 12 ≤ n) (h2 : n ≤ 10 ^ 30) (ok : okD 8 d = true) (ok4 : okD 8 d4 = true) (hd : isIntD d (-n) (n - 1) = false) (h : P (.str "place") μ) :
    sp_law_by_four a [.ref (a.f "after"), encS s, .int n, d, d4] μ P Pe :=
  ⟨_, _, _, _, rfl, _, _, _, _, rfl, ok_encS 6 s, ok_int _, ok, ok4, .inr ⟨s, rfl, hs, hl, .inr ⟨n, rfl, h1, h2, .inl ⟨hd, _, w_place a, h⟩⟩⟩⟩
theorem bad_height (a : Ads) {s : List Fl} {d d3 d4 : D} {μ : Mu} {P : DK} {Pe : Value → Mu → Prop} (hs : okS s) (hl : s.length ≤ 8) (ok : okD 8 d = true) (ok3 : okD 8 d3 = true) (ok4 : okD 8 d4 = true) (hd : isIntD d 12 (10 ^ 30) = false) (h : P (.str "height") μ) :
    sp_law_by_four a [.ref (a.f "after"), encS s, d, d3, d4] μ P Pe :=
  ⟨_, _, _, _, rfl, _, _, _, _, rfl, ok_encS 6 s, ok, ok3, ok4, .inr ⟨s, rfl, hs, hl, .inl ⟨hd, _, w_height a, h⟩⟩⟩
theorem bad_height2 (a : Ads) {s : List Fl} {d : D} {μ : Mu} {P : DK} {Pe : Value → Mu → Prop} (hs : okS s) (hl : s.length ≤ 8) (ok : okD 8 d = true) (hd : isIntD d 12 60 = false) (h : P (.str "height") μ) :
    sp_law_by_two a [.ref (a.f "order"), encS s, d] μ P Pe :=
  ⟨_, _, rfl, _, _, rfl, ok_encS 6 s, ok, .inr ⟨s, rfl, hs, hl, .inl ⟨hd, _, w_height a, h⟩⟩⟩
theorem bad_number (a : Ads) {s : List Fl} {d : D} {μ : Mu} {P : DK} {Pe : Value → Mu → Prop} (hs : okS s) (hl : s.length ≤ 8) (ok : okD 8 d = true) (hd : isIntD d 0 (10 ^ 30) = false) (h : P (.str "number") μ) :
    sp_law_by_four a [.ref (a.f "after"), encS s, .int 12, .int (-12), d] μ P Pe :=
  ⟨_, _, _, _, rfl, _, _, _, _, rfl, ok_encS 6 s, ok_int _, ok_int _, ok, .inr ⟨s, rfl, hs, hl, .inr ⟨12, rfl, by decide, by decide, .inr ⟨-12, rfl, by decide, by decide, .inl ⟨hd, _, w_number a, h⟩⟩⟩⟩⟩
theorem lb1_ref (a : Ads) {Wd : WD} {E : DE} {s : List Fl} {n : Int} {μ : Mu} (hs : okS s) (hl : s.length ≤ 8) (h1 : 12 ≤ n) (h2 : n ≤ 10 ^ 30) : ∀ (ds : List D) (x2 : Option D), (∀ d ∈ ds, okD 8 d = true ∧ isIntD d (-n) (n - 1) = false) → (∀ x2, E.nx [some (encS s), some (.int n), x2] μ) →
    dForD (dgN 2) (lb1_law_refusals a Wd) E ds [some (encS s), some (.int n), x2] μ
  | [], x2, _, h => h x2
  | d :: ds, x2, hd, h => by
    unfold dForD
    show lb1_law_refusals a Wd _ [some (encS s), some (.int n), some d] μ
    unfold lb1_law_refusals
    walk_at "ev"
    obtain ⟨k1, k2⟩ := hd d List.mem_cons_self
    refine bad_place a hs hl h1 h2 k1 ok_non k2 ?_
    refine ne_same rfl okw_place ?_
    exact lb1_ref a (Wd := Wd) hs hl h1 h2 ds _ (fun e he => hd e (List.mem_cons_of_mem _ he)) h
theorem lb2_ref (a : Ads) {Wd : WD} {E : DE} {s : List Fl} {n : Int} {μ : Mu} (hs : okS s) (hl : s.length ≤ 8) : ∀ (ds : List D) (x2 : Option D), (∀ d ∈ ds, okD 8 d = true ∧ isIntD d 12 (10 ^ 30) = false ∧ isIntD d 12 60 = false) → (∀ x2, E.nx [some (encS s), some (.int n), x2] μ) →
    dForD (dgN 2) (lb2_law_refusals a Wd) E ds [some (encS s), some (.int n), x2] μ
  | [], x2, _, h => h x2
  | d :: ds, x2, hd, h => by
    unfold dForD
    show lb2_law_refusals a Wd _ [some (encS s), some (.int n), some d] μ
    unfold lb2_law_refusals
    walk_at "ev"
    obtain ⟨k1, k2, k3⟩ := hd d List.mem_cons_self
    refine bad_height a hs hl k1 ok_non ok_non k2 ?_
    refine ne_same rfl okw_height ?_
    refine bad_height2 a hs hl k1 k3 ?_
    refine ne_same rfl okw_height ?_
    exact lb2_ref a (Wd := Wd) hs hl ds _ (fun e he => hd e (List.mem_cons_of_mem _ he)) h
theorem lb3_ref (a : Ads) {Wd : WD} {E : DE} {s : List Fl} {n : Int} {μ : Mu} (hs : okS s) (hl : s.length ≤ 8) : ∀ (ds : List D) (x2 : Option D), (∀ d ∈ ds, okD 8 d = true ∧ isIntD d 0 (10 ^ 30) = false) → (∀ x2, E.nx [some (encS s), some (.int n), x2] μ) →
    dForD (dgN 2) (lb3_law_refusals a Wd) E ds [some (encS s), some (.int n), x2] μ
  | [], x2, _, h => h x2
  | d :: ds, x2, hd, h => by
    unfold dForD
    show lb3_law_refusals a Wd _ [some (encS s), some (.int n), some d] μ
    unfold lb3_law_refusals
    walk_at "ev"
    obtain ⟨k1, k2⟩ := hd d List.mem_cons_self
    refine bad_number a hs hl k1 k2 ?_
    refine ne_same rfl okw_number ?_
    exact lb3_ref a (Wd := Wd) hs hl ds _ (fun e he => hd e (List.mem_cons_of_mem _ he)) h
theorem notInt {i lo hi : Int} (h : ¬ (lo ≤ i ∧ i ≤ hi)) : isIntD (.int i) lo hi = false := by
  unfold isIntD
  rw [← Bool.not_eq_true, Bool.and_eq_true, decide_eq_true_eq, decide_eq_true_eq]
  exact h
theorem four_line : (4 : Nat) ≤ sizeLine := by rw [sizeLine_eq]; decide
theorem five_line : (5 : Nat) ≤ sizeLine := by rw [sizeLine_eq]; decide
theorem pow30 : CPow 10 30 := ⟨by decide, by decide, by decide⟩
theorem bad_nine : areFlipsD (.tup [.tup [.str "top", .int 9]]) 8 = false := by decide
theorem se_law_refusals (a : Ads) {ds μ P Pe} (h : sp_law_refusals a ds μ P Pe) : td_law_refusals a (fun cls _ μ => Pe cls μ) (EE P) (startD ["_law_script_so", "_law_n", "_law_odd"] ds) μ := by
  obtain ⟨s, n, rfl, hs, hl, h1, h2, h⟩ := h
  show td_law_refusals a _ _ [some (encS s), some (.int n), none] μ
  have hz := small_line
  have k0 : okD 8 (.str "0") = true := by decide +kernel
  have k12 : okD 8 (.str "12") = true := by decide +kernel
  have e30 : (10 : Int) ^ Int.toNat 30 = 10 ^ 30 := rfl
  unfold td_law_refusals
  walk_at "e2"
  refine ⟨five_line, ?_⟩
  refine lb1_ref a hs hl h1 h2 _ none (fun d hd => ?_) fun x2 => ?_
  · rcases List.mem_cons.mp hd with rfl | hd
    · exact ⟨ok_non, rfl⟩
    rcases List.mem_cons.mp hd with rfl | hd
    · exact ⟨ok_int _, notInt (by omega)⟩
    rcases List.mem_cons.mp hd with rfl | hd
    · exact ⟨ok_int _, notInt (by omega)⟩
    rcases List.mem_cons.mp hd with rfl | hd
    · exact ⟨ok_bl _, rfl⟩
    rcases List.mem_cons.mp hd with rfl | hd
    · exact ⟨k0, rfl⟩
    cases hd
  walk_at "e2"
  refine ⟨pow30, five_line, ?_⟩
  refine lb2_ref a hs hl _ x2 (fun d hd => ?_) fun x2 => ?_
  · rcases List.mem_cons.mp hd with rfl | hd
    · exact ⟨ok_non, rfl, rfl⟩
    rcases List.mem_cons.mp hd with rfl | hd
    · exact ⟨ok_int _, notInt (by omega), notInt (by omega)⟩
    rcases List.mem_cons.mp hd with rfl | hd
    · rw [e30]
      have : (60 : Int) < 10 ^ 30 := by decide
      exact ⟨ok_int _, notInt (by omega), notInt (by omega)⟩
    rcases List.mem_cons.mp hd with rfl | hd
    · exact ⟨ok_bl _, rfl, rfl⟩
    rcases List.mem_cons.mp hd with rfl | hd
    · exact ⟨k12, rfl, rfl⟩
    cases hd
  walk_at "e2"
  refine ⟨pow30, four_line, ?_⟩
  refine lb3_ref a hs hl _ x2 (fun d hd => ?_) fun x2 => ?_
  · rcases List.mem_cons.mp hd with rfl | hd
    · exact ⟨ok_non, rfl⟩
    rcases List.mem_cons.mp hd with rfl | hd
    · exact ⟨ok_int _, notInt (by omega)⟩
    rcases List.mem_cons.mp hd with rfl | hd
    · rw [e30]
      exact ⟨ok_int _, notInt (by omega)⟩
    rcases List.mem_cons.mp hd with rfl | hd
    · exact ⟨ok_bl _, rfl⟩
    cases hd
  walk_at "e2"
  refine bad_height2 a hs hl (ok_int _) (notInt (by omega)) ?_
  refine ne_same rfl okw_height ?_
  have kt : okD 8 (.tup [.tup [.str "top", .int 9]]) = true := by decide +kernel
  refine ⟨Nat.zero_le _, ⟨_, _, rfl, _, _, rfl, rfl, ok_non, .inl ⟨rfl, _, w_script a, ?_⟩⟩⟩
  refine ne_same rfl okw_script ?_
  refine ⟨two_line, by omega, ⟨_, _, _, _, rfl, _, _, _, _, rfl, kt, ok_non, ok_non, ok_non, .inl ⟨bad_nine, _, w_script a, ?_⟩⟩⟩
  exact eq_same rfl okw_script h
end GF

set_option Elab.async false
set_option linter.all false
set_option maxRecDepth 100000
set_option maxHeartbeats 2000000
/-! SP8: what is written by hand, and the law. -/
namespace GF
open PySem PySem.Spec PyProof.Rows L2 HT DL
local macro_rules | `(tactic| walk_at "ev") => `(tactic| simp only [dSeq, dNext, dIfS, dRet, dRetN, dAsg, dDrop, dgN, dgT, dgNs, dgCons, dgNil, dgSub, dPar, dPar3, dRaise, dCallF, dCall, dCons, dNil, dTup, dLst, dLstM, dC, dVar, dBin, dChain, dAndV, dOrV, dNotV, dIf, dB, dAndT, dOrT, dNotT, dNeg, dIsiE,
  dAdd, dSub, dMul, dMulM, dMod, dFdiv, dPow, dLt, dLe, dGt, dGe, dCmpI, dEq, dNe, dIs, dIsNot, dIx, ixD, dLen, lenD, dAbs, dMax, dMin, dInt, dTuple, dList, dFor, dForD, diSeq, diEnum, itemsD, diRange1, diRange2, dLc, dYes, wipeD, dRev, dSlice, dNo, dPart, dCut,
  List.getElem?_cons_zero, List.getElem?_cons_succ, List.set_cons_zero, List.set_cons_succ, List.length_cons, List.length_nil, if_true, Bool.false_eq_true, if_false, Bool.not_true, Bool.not_false, Bool.true_and, Bool.false_and, Bool.and_true, Bool.and_false,
  ok_int, ok_bl, ok_non, deq_int, deq_bl, deq_str, true_and, and_true, k_int, k_bool, k_tuple, k_str, isNon, encP, onceP0, onceP1, onceP2, xor_dec, tri1, tri2])
local macro_rules | `(tactic| walk_at "e2") => `(tactic| simp only [dSeq, dNext, dIfS, dRet, dRetN, dAsg, dDrop, dgN, dgT, dgNs, dgCons, dgNil, dgSub, dPar, dPar3, dRaise, dCallF, dCall, dCons, dNil, dTup, dLst, dLstM, dC, dVar, dBin, dChain, dAndV, dOrV, dNotV, dIf, dB, dAndT, dOrT, dNotT, dNeg, dIsiE,
  dAdd, dSub, dMul, dMulM, dMod, dFdiv, dPow, dLt, dLe, dGt, dGe, dCmpI, dEq, dNe, dIs, dIsNot, dIx, ixD, dLen, lenD, dAbs, dMax, dMin, dInt, dTuple, dList, dFor, diSeq, diEnum, itemsD, diRange1, diRange2, dLc, dYes, wipeD, dRev, dSlice, dNo, dPart, dCut,
  List.getElem?_cons_zero, List.getElem?_cons_succ, List.set_cons_zero, List.set_cons_succ, List.length_cons, List.length_nil, if_true, Bool.false_eq_true, if_false, Bool.not_true, Bool.not_false, Bool.true_and, Bool.false_and, Bool.and_true, Bool.and_false,
  ok_int, ok_bl, ok_non, deq_int, deq_bl, deq_str, true_and, and_true, k_int, k_bool, k_tuple, k_str, isNon, encP, onceP0, onceP1, onceP2, xor_dec, tri1, tri2])
def sp_law_written (a : Ads) : DSpec := fun ds μ P _ => ds = [] ∧ P (.bl true) μ
def sp_law (a : Ads) : DSpec := fun ds μ P _ => ∃ L : List Int, ds = [.ils L] ∧ L.length ≤ 63 ∧ ∀ μ', P (.bl true) μ'
def td_law_written (a : Ads) : WD → TDS := fun Wd => (dSeq (dAsg (dTup (dCons (dTup (dCons (dTup (dCons (dC (.str "top")) (dCons (dC (.int 3)) dNil))) (dCons (dTup (dCons (dC (.str "but")) (dCons (dC (.int 1)) dNil))) dNil))) (dCons (dTup (dCons (dTup (dCons (dC (.str "but")) (dCons (dC (.int 0)) dNil))) (dCons (dTup (dCons (dC (.str "but")) (dCons (dC (.int 1)) dNil))) dNil))) (dCons (dTup (dCons (dTup (dCons (dC (.str "but")) (dCons (dC (.int 0)) dNil))) dNil)) dNil)))) (dgT 3 (dgCons (dgN 0) (dgCons (dgN 1) (dgCons (dgN 2) dgNil))))) (dSeq (dAsg (dLst (dCons (dCallF (sp_after a) Wd (dCons (dVar 0) (dCons (dC (.int 12)) (dCons (dC (.int 0)) (dCons (dC (.int 1)) dNil))))) (dCons (dCallF (sp_after a) Wd (dCons (dVar 0) (dCons (dC (.int 12)) (dCons (dC (.int 5)) (dCons (dC (.int 1)) dNil))))) (dCons (dCallF (sp_after a) Wd (dCons (dVar 0) (dCons (dC (.int 12)) (dCons (dNeg (dC (.int 1))) (dCons (dC (.int 9)) dNil))))) (dCons (dCallF (sp_after a) Wd (dCons (dVar 2) (dCons (dC (.int 13)) (dCons (dC (.int 6)) (dCons (dC (.int 3)) dNil))))) dNil))))) (dgN 3)) (dSeq (dIfS (dB (dBin dNe (dVar 3) (dLst (dCons (dTup (dCons (dC (.int 8)) (dCons (dC (.bl false)) dNil))) (dCons (dTup (dCons (dC (.int 5)) (dCons (dC (.bl true)) dNil))) (dCons (dTup (dCons (dC (.int 11)) (dCons (dC (.bl false)) dNil))) (dCons (dTup (dCons (dC (.int 6)) (dCons (dC (.bl true)) dNil))) dNil))))))) (dRet (dC (.bl false))) dNext) (dSeq (dIfS (dB (dBin dNe (dCallF (sp_after a) Wd (dCons (dVar 2) (dCons (dBin dPow (dC (.int 10)) (dC (.int 30))) (dCons (dC (.int 1)) (dCons (dBin dPow (dC (.int 10)) (dC (.int 30))) dNil))))) (dTup (dCons (dC (.int 1)) (dCons (dC (.bl false)) dNil))))) (dRet (dC (.bl false))) dNext) (dSeq (dIfS (dOrT (dB (dBin dNe (dCallF (sp_after a) Wd (dCons (dVar 1) (dCons (dBin dPow (dC (.int 10)) (dC (.int 30))) (dCons (dC (.int 5)) (dCons (dC (.int 7)) dNil))))) (dTup (dCons (dBin dSub (dBin dPow (dC (.int 10)) (dC (.int 30))) (dC (.int 2))) (dCons (dC (.bl true)) dNil))))) (dB (dBin dNe (dCallF (sp_after a) Wd (dCons (dVar 1) (dCons (dC (.int 12)) (dCons (dC (.int 3)) (dCons (dC (.int 12)) dNil))))) (dTup (dCons (dC (.int 3)) (dCons (dC (.bl true)) dNil)))))) (dRet (dC (.bl false))) dNext) (dSeq (dIfS (dB (dBin dNe (dCallF (sp_after a) Wd (dCons (dVar 1) (dCons (dC (.int 12)) (dCons (dC (.int 3)) (dCons (dC (.int 24)) dNil))))) (dTup (dCons (dC (.int 3)) (dCons (dC (.bl false)) dNil))))) (dRet (dC (.bl false))) dNext) (dSeq (dAsg (dBin dPow (dC (.int 10)) (dC (.int 30))) (dgN 4)) (dSeq (dIfS (dOrT (dB (dBin dNe (dCallF (sp_after a) Wd (dCons (dVar 1) (dCons (dVar 4) (dCons (dC (.int 7)) (dCons (dVar 4) dNil))))) (dTup (dCons (dC (.int 7)) (dCons (dC (.bl true)) dNil))))) (dB (dBin dNe (dCallF (sp_after a) Wd (dCons (dVar 1) (dCons (dVar 4) (dCons (dBin dSub (dVar 4) (dC (.int 1))) (dCons (dBin dSub (dVar 4) (dC (.int 1))) dNil))))) (dTup (dCons (dC (.int 0)) (dCons (dC (.bl false)) dNil)))))) (dRet (dC (.bl false))) dNext) (dSeq (dIfS (dB (dBin dNe (dCallF (sp_after a) Wd (dCons (dVar 1) (dCons (dVar 4) (dCons (dBin dPow (dC (.int 10)) (dC (.int 29))) (dCons (dBin dAdd (dBin dPow (dC (.int 10)) (dC (.int 29))) (dC (.int 1))) dNil))))) (dTup (dCons (dBin dSub (dVar 4) (dC (.int 1))) (dCons (dC (.bl true)) dNil))))) (dRet (dC (.bl false))) dNext) (dSeq (dIfS (dB (dBin dNe (dCallF (sp_after a) Wd (dCons (dRev (dVar 1)) (dCons (dVar 4) (dCons (dC (.int 0)) (dCons (dBin dPow (dC (.int 10)) (dC (.int 29))) dNil))))) (dTup (dCons (dBin dPow (dC (.int 10)) (dC (.int 29))) (dCons (dC (.bl false)) dNil))))) (dRet (dC (.bl false))) dNext) (dSeq (dAsg (dTup (dCons (dTup (dCons (dC (.str "but")) (dCons (dC (.int 0)) dNil))) (dCons (dTup (dCons (dC (.str "but")) (dCons (dC (.int 6)) dNil))) dNil))) (dgN 5)) (dSeq (dIfS (dB (dBin dNe (dCallF (sp_after a) Wd (dCons (dVar 5) (dCons (dVar 4) (dCons (dBin dPow (dC (.int 10)) (dC (.int 29))) (dCons (dBin dPow (dC (.int 10)) (dC (.int 28))) dNil))))) (dTup (dCons (dBin dSub (dBin dPow (dC (.int 10)) (dC (.int 29))) (dBin dMul (dC (.int 6)) (dBin dPow (dC (.int 10)) (dC (.int 28))))) (dCons (dC (.bl false)) dNil))))) (dRet (dC (.bl false))) dNext) (dSeq (dIfS (dB (dBin dNe (dCallF (sp_after a) Wd (dCons (dVar 5) (dCons (dVar 4) (dCons (dC (.int 3)) (dCons (dC (.int 1)) dNil))))) (dTup (dCons (dBin dSub (dVar 4) (dC (.int 4))) (dCons (dC (.bl true)) dNil))))) (dRet (dC (.bl false))) dNext) (dRet (dAndV (dBin dEq (dBin dIx (dCallF (sp_order a) Wd (dCons (dVar 1) (dCons (dC (.int 12)) dNil))) (dNeg (dC (.int 1)))) (dTup (dCons (dC (.int 0)) (dCons (dC (.bl true)) dNil)))) (dBin dEq (dCallF (sp_order a) Wd (dCons (dTup dNil) (dCons (dC (.int 60)) dNil))) (dCall dTuple (dCons (dLc (diRange1 (dCons (dC (.int 60)) dNil)) (dgN 6) dYes (dTup (dCons (dVar 6) (dCons (dC (.bl false)) dNil))) [6]) dNil))))))))))))))))))
def lb1_law (a : Ads) : WD → TDS := fun Wd => (dIfS (dOrT (dNotT (dB (dCallF (sp_law_high_right a) Wd (dCons (dVar 2) (dCons (dVar 3) (dCons (dVar 4) dNil)))))) (dNotT (dB (dCallF (sp_law_refusals a) Wd (dCons (dVar 3) (dCons (dVar 4) dNil)))))) (dRet (dC (.bl false))) dNext)
def lb2_law (a : Ads) : WD → TDS := fun Wd => (dSeq (dAsg (dCallF (sp_law_source a) Wd (dCons (dVar 0) (dCons (dVar 1) dNil))) (dgN 2)) (dSeq (dAsg (dCallF (sp_law_script a) Wd (dCons (dVar 2) (dCons (dCallF (sp_law_chosen a) Wd (dCons (dVar 2) (dCons (dLst (dCons (dC (.int 2)) (dCons (dC (.int 4)) (dCons (dC (.int 8)) dNil)))) dNil))) dNil))) (dgN 3)) (dSeq (dIfS (dNotT (dB (dCallF (sp_law_low_right a) Wd (dCons (dVar 2) (dCons (dVar 3) (dCons (dBin dAdd (dC (.int 12)) (dCallF (sp_law_pick a) Wd (dCons (dVar 2) (dCons (dC (.int 49)) dNil)))) dNil)))))) (dRet (dC (.bl false))) dNext) (dFor (diSeq (dLst (dCons (dBin dAdd (dC (.int 130)) (dCallF (sp_law_pick a) Wd (dCons (dVar 2) (dCons (dC (.int 300)) dNil)))) (dCons (dBin dSub (dBin dPow (dC (.int 10)) (dC (.int 30))) (dCallF (sp_law_pick a) Wd (dCons (dVar 2) (dCons (dC (.int 99)) dNil)))) dNil)))) (dgN 4) (lb1_law a Wd)))))
def td_law (a : Ads) : WD → TDS := fun Wd => (dSeq (dFor (diRange1 (dCons (dCall dMax (dCons (dC (.int 6)) (dCons (dCall dMin (dCons (dC (.int 14)) (dCons (dCall dLen (dCons (dVar 0) dNil)) dNil))) dNil))) dNil)) (dgN 1) (lb2_law a Wd)) (dRet (dCallF (sp_law_written a) Wd dNil)))
def downS : List Fl := [.but 0, .but 1]
def upS : List Fl := [.but 1, .but 0]
def sixS : List Fl := [.but 0, .but 6]
def aboutS : List Fl := [.but 0]
theorem about1 {n p : Int} {o : Bool} (h : p < n) : onceF aboutS n (p, o) = (n - 1 - p, !o) := by
  show flip1 n (p, o) (.but 0) = _
  unfold flip1
  have e : Fl.block n (.but 0) = n := Int.sub_zero n
  rw [e, if_pos h]
theorem two1 {n p : Int} {o : Bool} {k : Int} (h : p < n) : onceF [.but 0, .but k] n (p, o) = if n - 1 - p < n - k then (n - k - 1 - (n - 1 - p), o) else (n - 1 - p, !o) := by
  show flip1 n (flip1 n (p, o) (.but 0)) (.but k) = _
  have e : flip1 n (p, o) (.but 0) = (n - 1 - p, !o) := about1 h
  rw [e]
  unfold flip1
  show (if n - 1 - p < n - k then (n - k - 1 - (n - 1 - p), !!o) else (n - 1 - p, !o)) = _
  rw [Bool.not_not]
theorem down1 {n p : Int} {o : Bool} (h0 : 1 ≤ p) (h : p < n) : onceF downS n (p, o) = (p - 1, o) := by
  refine (two1 h).trans ?_
  rw [if_pos (by omega)]
  refine Prod.ext ?_ rfl
  show n - 1 - 1 - (n - 1 - p) = p - 1
  omega
theorem down0 {n : Int} {o : Bool} (h : 0 < n) : onceF downS n (0, o) = (n - 1, !o) := by
  refine (two1 h).trans ?_
  rw [if_neg (by omega)]
  refine Prod.ext ?_ rfl
  show n - 1 - 0 = n - 1
  omega
theorem six1 {n p : Int} {o : Bool} (h0 : 6 ≤ p) (h : p < n) : onceF sixS n (p, o) = (p - 6, o) := by
  refine (two1 h).trans ?_
  rw [if_pos (by omega)]
  refine Prod.ext ?_ rfl
  show n - 6 - 1 - (n - 1 - p) = p - 6
  omega
theorem six0 {n p : Int} {o : Bool} (h0 : p < 6) (h : p < n) : onceF sixS n (p, o) = (n - 1 - p, !o) := by
  refine (two1 h).trans ?_
  rw [if_neg (by omega)]
theorem up1 {n p : Int} {o : Bool} (h0 : 0 ≤ p) (h : p < n - 1) : onceF upS n (p, o) = (p + 1, o) := by
  show flip1 n (flip1 n (p, o) (.but 1)) (.but 0) = _
  have e : flip1 n (p, o) (.but 1) = (n - 1 - 1 - p, !o) := if_pos h
  rw [e]
  have e2 : flip1 n (n - 1 - 1 - p, !o) (.but 0) = (n - 1 - (n - 1 - 1 - p), !!o) := about1 (by omega)
  rw [e2, Bool.not_not]
  refine Prod.ext ?_ rfl
  show n - 1 - (n - 1 - 1 - p) = p + 1
  omega
theorem go_down {n : Int} {o : Bool} : ∀ (k : Nat) (p : Int), (k : Int) ≤ p → p < n → go downS n k (p, o) = (p - k, o)
  | 0, p, _, _ => by
    show (p, o) = (p - ((0 : Nat) : Int), o)
    rw [Int.natCast_zero, Int.sub_zero]
  | k + 1, p, h, h2 => by
    show go downS n k (onceF downS n (p, o)) = _
    rw [down1 (by omega) h2, go_down k (p - 1) (by omega) (by omega)]
    refine Prod.ext ?_ rfl
    show p - 1 - (k : Int) = p - ((k + 1 : Nat) : Int)
    omega
theorem go_up {n : Int} {o : Bool} : ∀ (k : Nat) (p : Int), 0 ≤ p → p + k ≤ n - 1 → go upS n k (p, o) = (p + k, o)
  | 0, p, _, _ => by
    show (p, o) = (p + ((0 : Nat) : Int), o)
    rw [Int.natCast_zero, Int.add_zero]
  | k + 1, p, h, h2 => by
    show go upS n k (onceF upS n (p, o)) = _
    rw [up1 h (by omega), go_up k (p + 1) (by omega) (by omega)]
    refine Prod.ext ?_ rfl
    show p + 1 + (k : Int) = p + ((k + 1 : Nat) : Int)
    omega
theorem go_six {n : Int} {o : Bool} : ∀ (k : Nat) (p : Int), 6 * (k : Int) ≤ p → p < n → go sixS n k (p, o) = (p - 6 * k, o)
  | 0, p, _, _ => by
    show (p, o) = (p - 6 * ((0 : Nat) : Int), o)
    rw [Int.natCast_zero, Int.mul_zero, Int.sub_zero]
  | k + 1, p, h, h2 => by
    show go sixS n k (onceF sixS n (p, o)) = _
    rw [six1 (by omega) h2, go_six k (p - 6) (by omega) (by omega)]
    refine Prod.ext ?_ rfl
    show p - 6 - 6 * (k : Int) = p - 6 * ((k + 1 : Nat) : Int)
    omega
theorem go_split {s : List Fl} {n : Int} {q : Int × Bool} {j k : Int} (hj : 0 ≤ j) (hk : 0 ≤ k) : go s n (j + k).toNat q = go s n k.toNat (go s n j.toNat q) := by
  have e : (j + k).toNat = j.toNat + k.toNat := by omega
  rw [e, go_add]
/-- down past the top, and on -/
theorem go_past {n p k : Int} (hn : 1 ≤ n) (h0 : 0 ≤ p) (h1 : p < n) (hk : 0 ≤ k) (hk2 : k ≤ n - 1) : go downS n (p + 1 + k).toNat (p, false) = (n - 1 - k, true) := by
  have e : p + 1 + k = p + (1 + k) := by omega
  rw [e, go_split h0 (by omega), go_down p.toNat p (by omega) h1, go_split (by decide) hk]
  have e2 : p - (p.toNat : Int) = 0 := by omega
  rw [e2]
  have e3 : go downS n (Int.toNat 1) (0, false) = (n - 1, true) := down0 (by omega)
  rw [e3, go_down k.toNat (n - 1) (by omega) (by omega)]
  refine Prod.ext ?_ rfl
  show n - 1 - (k.toNat : Int) = n - 1 - k
  omega
theorem about_even {n p : Int} (h0 : 0 ≤ p) (h : p < n) (k : Nat) : go aboutS n (2 * k) (p, false) = (p, false) := by
  have e : go aboutS n 2 (p, false) = (p, false) := by
    show onceF aboutS n (onceF aboutS n (p, false)) = _
    rw [about1 h, about1 (by omega)]
    refine Prod.ext ?_ rfl
    show n - 1 - (n - 1 - p) = p
    omega
  have h2 := go_rounds aboutS n e k false
  rw [h2]
  rfl
theorem ok_down : okS downS := fun f hf => by
  rcases List.mem_cons.mp hf with rfl | hf
  · exact ⟨by decide, by decide⟩
  rcases List.mem_cons.mp hf with rfl | hf
  · exact ⟨by decide, by decide⟩
  cases hf
theorem ok_up : okS upS := fun f hf => by
  rcases List.mem_cons.mp hf with rfl | hf
  · exact ⟨by decide, by decide⟩
  rcases List.mem_cons.mp hf with rfl | hf
  · exact ⟨by decide, by decide⟩
  cases hf
theorem ok_six : okS sixS := fun f hf => by
  rcases List.mem_cons.mp hf with rfl | hf
  · exact ⟨by decide, by decide⟩
  rcases List.mem_cons.mp hf with rfl | hf
  · exact ⟨by decide, by decide⟩
  cases hf
theorem ok_about : okS aboutS := fun f hf => by
  rcases List.mem_cons.mp hf with rfl | hf
  · exact ⟨by decide, by decide⟩
  cases hf
def oneS : List Fl := [.top 3, .but 1]
theorem ok_one : okS oneS := fun f hf => by
  rcases List.mem_cons.mp hf with rfl | hf
  · exact ⟨by decide, by decide⟩
  rcases List.mem_cons.mp hf with rfl | hf
  · exact ⟨by decide, by decide⟩
  cases hf
theorem aft (a : Ads) {s : List Fl} {n p r : Int} {q : Int × Bool} {μ : Mu} {P : DK} {Pe : Value → Mu → Prop} (hs : okS s) (hl : s.length ≤ 8) (hb : (12 ≤ n ∧ n ≤ 10 ^ 30) ∧ (-n ≤ p ∧ p ≤ n - 1) ∧ (0 ≤ r ∧ r ≤ 10 ^ 30))
    (e : go s n r.toNat (placeOf n (.int p), false) = q) (h : P (encP q) μ) : sp_after a [encS s, .int n, .int p, .int r] μ P Pe :=
  after_ok a hs hl hb.1.1 hb.1.2 hb.2.1.1 hb.2.1.2 hb.2.2.1 hb.2.2.2 (by rw [e]; exact h)
theorem past {n p k r : Int} (hr : r = p + 1 + k) (hn : 1 ≤ n) (h0 : 0 ≤ p) (h1 : p < n) (hk : 0 ≤ k) (hk2 : k ≤ n - 1) {x : Int} (hx : x = n - 1 - k) : go downS n r.toNat (placeOf n (.int p), false) = (x, true) := by
  rw [place_pos h0, hr, go_past hn h0 h1 hk hk2, hx]
theorem ly_down : atI ((ly downS 12).map encP) (-1) = some (encP (0, true)) := by
  have e : ly downS 12 = [(1, false), (2, false), (3, false), (4, false), (5, false), (6, false), (7, false), (8, false), (9, false), (10, false), (11, false), (0, true)] := by decide
  rw [e]
  rfl
theorem se_law_written (a : Ads) {ds μ P Pe} (h : sp_law_written a ds μ P Pe) : td_law_written a (fun cls _ μ => Pe cls μ) (EE P) (startD ["_law_one", "_law_down", "_law_about", "_law_found", "_law_far", "_law_six", "_law_number"] ds) μ := by
  obtain ⟨rfl, h⟩ := h
  show td_law_written a _ _ [none, none, none, none, none, none, none] μ
  have hz := small_line
  unfold td_law_written
  walk_at "e2"
  generalize hN : (10 : Int) ^ Int.toNat 30 = N
  generalize hM : (10 : Int) ^ Int.toNat 29 = M
  generalize hO : (10 : Int) ^ Int.toNat 28 = O
  have eN : N = 10 ^ 30 := hN.symm
  have eM : M = 10 ^ 29 := hM.symm
  have eO : O = 10 ^ 28 := hO.symm
  clear hN hM hO
  refine ⟨two_line, two_line, two_line, two_line, two_line, two_line, two_line, by omega, three_line, ?_⟩
  refine aft a (s := oneS) ok_one (by decide) (by decide) (q := (8, false)) (by decide) ?_
  refine aft a (s := oneS) ok_one (by decide) (by decide) (q := (5, true)) (by decide) ?_
  refine aft a (s := oneS) ok_one (by decide) (by decide) (q := (11, false)) (by decide) ?_
  refine aft a (s := aboutS) ok_about (by decide) (by decide) (q := (6, true)) (by decide) ?_
  refine ⟨four_line, two_line, two_line, two_line, two_line, four_line, ne_same rfl rfl ?_⟩
  refine ⟨pow30, pow30, ?_⟩
  refine aft a (s := aboutS) ok_about (by decide) (by omega) (q := (1, false)) ?_ ?_
  · rw [place_pos (by decide)]
    have e : N.toNat = 2 * 500000000000000000000000000000 := by omega
    rw [e]
    exact about_even (by decide) (by omega) _
  refine ⟨two_line, ne_same rfl rfl ?_⟩
  refine ⟨pow30, ?_⟩
  refine aft a (s := downS) ok_down (by decide) (by omega) (q := (N - 2, true)) (past (p := 5) (k := 1) (by decide) (by omega) (by decide) (by omega) (by decide) (by omega) (by omega)) ?_
  refine ⟨pow30, two_line, ne_same rfl rfl ?_⟩
  refine aft a (s := downS) ok_down (by decide) (by decide) (q := (3, true)) (by decide) ?_
  refine ⟨two_line, ne_same rfl rfl ?_⟩
  refine aft a (s := downS) ok_down (by decide) (by decide) (q := (3, false)) (by decide) ?_
  refine ⟨two_line, ne_same rfl rfl ?_⟩
  refine ⟨pow30, ?_⟩
  refine aft a (s := downS) ok_down (by decide) (by omega) (q := (7, true)) (past (p := 7) (k := N - 8) (by omega) (by omega) (by decide) (by omega) (by omega) (by omega) (by omega)) ?_
  refine ⟨two_line, ne_same rfl rfl ?_⟩
  refine aft a (s := downS) ok_down (by decide) (by omega) (q := (0, false)) ?_ ?_
  · rw [place_pos (by omega), go_down (N - 1).toNat (N - 1) (by omega) (by omega)]
    refine Prod.ext ?_ rfl
    show N - 1 - ((N - 1).toNat : Int) = 0
    omega
  refine ⟨two_line, ne_same rfl rfl ?_⟩
  have pow29 : CPow 10 29 := ⟨by decide, by decide, by decide⟩
  have pow28 : CPow 10 28 := ⟨by decide, by decide, by decide⟩
  refine ⟨pow29, pow29, ?_⟩
  refine aft a (s := downS) ok_down (by decide) (by omega) (q := (N - 1, true)) (past (p := M) (k := 0) (by omega) (by omega) (by omega) (by omega) (by omega) (by omega) (by omega)) ?_
  refine ⟨two_line, ne_same rfl rfl ?_⟩
  refine ⟨pow29, ?_⟩
  refine aft a (s := upS) ok_up (by decide) (by omega) (q := (M, false)) ?_ ?_
  · rw [place_pos (by decide), go_up M.toNat 0 (by decide) (by omega)]
    refine Prod.ext ?_ rfl
    show 0 + (M.toNat : Int) = M
    omega
  refine ⟨pow29, two_line, ne_same rfl rfl ?_⟩
  refine ⟨two_line, two_line, two_line, pow29, pow28, ?_⟩
  refine aft a (s := sixS) ok_six (by decide) (by omega) (q := (M - 6 * O, false)) ?_ ?_
  · rw [place_pos (by omega), go_six O.toNat M (by omega) (by omega)]
    refine Prod.ext ?_ rfl
    show M - 6 * (O.toNat : Int) = M - 6 * O
    omega
  refine ⟨pow29, pow28, mul_left (by decide), two_line, ne_same rfl rfl ?_⟩
  refine aft a (s := sixS) ok_six (by decide) (by omega) (q := (N - 4, true)) ?_ ?_
  · rw [place_pos (by decide)]
    show onceF sixS N (3, false) = _
    rw [six0 (by decide) (by omega)]
    refine Prod.ext ?_ rfl
    show N - 1 - 3 = N - 4
    omega
  refine ⟨two_line, ne_same rfl rfl ?_⟩
  refine order_ok a (s := downS) ok_down (by decide) (by decide) (by decide) ?_
  simp only [ly_down]
  refine ⟨two_line, rfl, rfl, ?_⟩
  refine ite_of (fun _ => ?_) fun z => absurd (deq_self (n := 8) (d := encP (0, true)) rfl) z
  refine ⟨by omega, ?_⟩
  refine order_ok a (s := []) (fun f hf => by cases hf) (by decide) (by decide) (by decide) ?_
  refine ⟨by decide, ?_⟩
  unfold rangeD
  refine lcD_of _ (fun (i : Nat) => .tup [.int (0 + (i : Int)), .bl false]) (fun i hi Q hQ => ?_) ?_ ?_
  · walk_at "e2"
    exact ⟨two_line, hQ⟩
  · rw [List.length_nil, List.length_range]
    have e : Int.toNat 60 = 60 := rfl
    omega
  · rw [List.nil_append]
    refine eq_same ?_ (show okDA 7 ((ly [] 60).map encP) = true from ok_encPs 6 _) h
    congr 1
theorem lb1_lw (a : Ads) {Wd : WD} {E : DE} {s : List Fl} {q : Addr} {x0 x1 : Option D} (hs : okS s) (hl : s.length ≤ 8) : ∀ (ns : List Int) (μ : Mu) (x4 : Option D), (∀ n ∈ ns, 12 ≤ n ∧ n ≤ 10 ^ 30) → Src μ q → (∀ x4 μ', E.nx [x0, x1, some (.ref q), some (encS s), x4] μ') →
    dForD (dgN 4) (lb1_law a Wd) E (ns.map .int) [x0, x1, some (.ref q), some (encS s), x4] μ
  | [], μ, x4, _, _, h => h x4 μ
  | n :: ns, μ, x4, hn, hsrc, h => by
    rw [List.map_cons]
    unfold dForD
    show lb1_law a Wd _ [x0, x1, some (.ref q), some (encS s), some (.int n)] μ
    have ih := fun μ' hs' => lb1_lw a (Wd := Wd) (x0 := x0) (x1 := x1) hs hl ns μ' (some (.int n)) (fun m hm => hn m (List.mem_cons_of_mem _ hm)) hs' h
    obtain ⟨h1, h2⟩ := hn n List.mem_cons_self
    generalize hE1 : ({ nx := dForD (dgN 4) (lb1_law a Wd) E (ns.map .int), rt := E.rt, bk := E.nx, ct := _ } : DE) = E1
    have hnx : E1.nx = dForD (dgN 4) (lb1_law a Wd) E (ns.map .int) := by rw [← hE1]
    unfold lb1_law
    walk_at "e2"
    refine ⟨q, s, n, rfl, hs, hl, h1, h2, hsrc, fun μ' hs' => ?_⟩
    walk_at "e2"
    refine ⟨s, n, rfl, hs, hl, h1, h2, ?_⟩
    walk_at "e2"
    rw [hnx]
    exact ih μ' hs'
theorem lb2_lw (a : Ads) {Wd : WD} {E : DE} {L : List Int} (hL : L.length ≤ 63) : ∀ (k lo : Nat) (μ : Mu) (x1 x2 x3 x4 : Option D), lo + k ≤ 14 → (∀ x1 x2 x3 x4 μ', E.nx [some (.ils L), x1, x2, x3, x4] μ') →
    dForD (dgN 1) (lb2_law a Wd) E ((List.range' lo k).map fun (i : Nat) => D.int (0 + (i : Int))) [some (.ils L), x1, x2, x3, x4] μ
  | 0, lo, μ, x1, x2, x3, x4, _, h => h x1 x2 x3 x4 μ
  | k + 1, lo, μ, x1, x2, x3, x4, hk, h => by
    show dForD _ _ _ (_ :: (List.range' (lo + 1) k).map _) _ _
    unfold dForD
    show lb2_law a Wd _ [some (.ils L), some (.int (0 + (lo : Int))), x2, x3, x4] μ
    have ih := fun μ' x2 x3 x4 => lb2_lw a (Wd := Wd) hL k (lo + 1) μ' (some (.int (0 + (lo : Int)))) x2 x3 x4 (by omega) h
    generalize hE1 : ({ nx := dForD (dgN 1) (lb2_law a Wd) E _, rt := E.rt, bk := E.nx, ct := _ } : DE) = E1
    have hnx : E1.nx = dForD (dgN 1) (lb2_law a Wd) E ((List.range' (lo + 1) k).map fun (i : Nat) => D.int (0 + (i : Int))) := by rw [← hE1]
    unfold lb2_law
    walk_at "e2"
    refine ⟨L, _, rfl, by omega, by omega, hL, fun q y z hq ho => ?_⟩
    have hsrc : Src (mset μ q (.lst [.int y, .int z])) q := ⟨y, z, mset_same, ho⟩
    generalize mset μ q (.lst [.int y, .int z]) = μ1 at *
    walk_at "e2"
    refine ⟨three_line, q, _, rfl, hsrc, by simp, by simp, fun d μ2 hd st => ?_⟩
    obtain ⟨m, rfl, hm⟩ : ∃ m : Int, d = .int m ∧ 0 ≤ m ∧ m ≤ 8 := by
      rcases List.mem_cons.mp hd with rfl | hd
      · exact ⟨2, rfl, by decide, by decide⟩
      rcases List.mem_cons.mp hd with rfl | hd
      · exact ⟨4, rfl, by decide, by decide⟩
      rcases List.mem_cons.mp hd with rfl | hd
      · exact ⟨8, rfl, by decide, by decide⟩
      cases hd
    refine ⟨q, m, rfl, st.src, hm.1, by omega, fun s μ3 hs hl st3 => ?_⟩
    have hl8 : s.length ≤ 8 := by omega
    walk_at "e2"
    refine ⟨q, 49, rfl, st3.src, by decide, by unfold big; decide, fun r μ4 r0 r1 st4 => ?_⟩
    walk_at "e2"
    refine ⟨q, s, _, rfl, hs, hl8, by omega, by omega, st4.src, fun μ5 hs5 => ?_⟩
    walk_at "e2"
    refine ⟨q, 300, rfl, hs5, by decide, by unfold big; decide, fun r2 μ6 a0 a1 st6 => ?_⟩
    walk_at "e2"
    refine ⟨pow30, q, 99, rfl, st6.src, by decide, by unfold big; decide, fun r3 μ7 b0 b1 st7 => ?_⟩
    walk_at "e2"
    refine ⟨two_line, ?_⟩
    have e1 : (10 : Int) ^ Int.toNat 30 = 10 ^ 30 := rfl
    rw [e1]
    refine lb1_lw a hs hl8 [130 + r2, 10 ^ 30 - r3] μ7 x4 (fun n hn => ?_) st7.src fun x4 μ8 => ?_
    · rcases List.mem_cons.mp hn with rfl | hn
      · omega
      rcases List.mem_cons.mp hn with rfl | hn
      · omega
      cases hn
    · show E1.nx _ _
      rw [hnx]
      exact ih _ _ _ _
theorem se_law (a : Ads) {ds μ P Pe} (h : sp_law a ds μ P Pe) : td_law a (fun cls _ μ => Pe cls μ) (EE P) (startD ["_law_script_here", "_law_k", "_law_source_here", "_law_script_so", "_law_n"] ds) μ := by
  obtain ⟨L, rfl, hL, h⟩ := h
  show td_law a _ _ [some (.ils L), none, none, none, none] μ
  unfold td_law
  walk_at "e2"
  generalize hk : (if 6 < (if (L.length : Int) < 14 then (L.length : Int) else 14) then (if (L.length : Int) < 14 then (L.length : Int) else 14) else 6) = k
  have hk1 : 0 ≤ k ∧ k ≤ 14 := by
    rw [← hk]
    split <;> split <;> omega
  refine ⟨by omega, ?_⟩
  rw [rangeD']
  refine lb2_lw a hL k.toNat 0 μ none none none none (by omega) fun x1 x2 x3 x4 μ' => ?_
  walk_at "e2"
  exact ⟨rfl, h μ'⟩
end GF

set_option Elab.async false
set_option linter.all false
set_option maxRecDepth 100000
set_option maxHeartbeats 2000000
/-! DL7: while an exception is handled: the end of lists and tuples, tuples taken apart, comprehensions. -/
namespace HotD
open PySem PySem.Spec PyProof.Rows L2 HotX L2H
section
variable {prog : Program} {w : World} {A : Around} {E : Value → Shared → Prop} {s : Shared}
/-- the handled exception is none of the small records -/
theorem hot_ne {x1 b : Addr} {o : Obj} {vs : Array Value} (hot : HotAt A x1 s.heap) (ho : s.heap.get? b = some o) (hd : o.data = .fields vs) (h2 : vs.size ≤ 2) : b ≠ x1 := by
  rintro rfl
  obtain ⟨_, o1, vs1, h1, d1, c1⟩ := hot
  rw [ho] at h1
  cases h1
  rw [hd] at d1
  cases d1
  have := (Array.getElem?_eq_some_iff.mp c1).1
  omega
theorem next_list_endH {it l x1 : Addr} {i : Nat} {items : Array Value} {Q : Option Value → Shared → Prop} (hot : HotAt A x1 s.heap) (hit : s.heap.IsListIter it l i) (hl : s.heap.IsList l items) (hx : items[i]? = none)
    (hQ : ∀ h', Heap.ExtBut it s.heap h' → Q none { s with heap := h' }) : wpAny (model prog w) A (pyNext (.ref it)) Q E s := by
  obtain ⟨o, ho, hc, hd⟩ := id hit
  obtain ⟨ol, hol, _, nl, hdl⟩ := hl
  have hne : it ≠ x1 := hot_ne hot ho hd (by simp)
  obtain ⟨hh, o1, vs1, h1, d1, c1⟩ := hot
  have h1' : (s.heap.update it (Obj.mapFields fun x => x.setIfInBounds 0 .none)).get? x1 = some o1 := (Heap.get?_update_other _ _ hne).trans h1
  unfold pyNext
  refine wpAny_bind (wpAny_attempt (wpAny_callSpecial?_slot (name := Str.ofString "__next__") hit.typeIs slot_listiter_next
    (wpAny_call_entry slot_listiter_next hit.typeIs entry_listiter_next ?_ (args_listiter_next _))))
  show wpAny _ _ (field (.ref it) 0 >>= _) _ _ s
  refine wpAny_bind (wpAny_field ho hd (x := .ref l) rfl ?_)
  show wpAny _ _ (if (Value.ref l == Value.none) = true then _ else _) _ _ s
  rw [if_neg (show ¬ ((Value.ref l == Value.none) = true) from Bool.false_ne_true)]
  show wpAny _ _ (field (.ref it) 1 >>= _) _ _ s
  refine wpAny_bind (wpAny_field ho hd (x := .int i 0) rfl ?_)
  show wpAny _ _ (seqItems? (.ref l) >>= _) _ _ s
  refine wpAny_bind (wpAny_seqItems hol hdl ?_)
  simp only [Int.toNat_natCast, hx]
  refine wpAny_bind (wpAny_rule (wpAny_bind (wpAny_setField ho hd (by simp) ?_)))
  show wpAny _ _ (newExc (.type "StopIteration") [] >>= _) _ _ _
  refine wpAny_bind ?_
  simp only [newExc, newTuple]
  refine wpAny_bind (wpAny_newObj_type ?_ (by size_fits))
  refine wpAny_bind (m := firstArgMember _ _) (wpAny_of_eq (a := Value.none) (by first | rfl | (simp only [firstArgMember]; rfl)) ?_)
  refine wpAny_newObj_type ?_ (by size_fits)
  refine raiseNew_hot ⟨hh, o1, vs1, Heap.get?_push_of_some _ (Heap.get?_push_of_some _ h1'), d1, c1⟩ (Nat.ne_of_lt (Heap.lt_size (Heap.get?_push_of_some _ h1'))) (Heap.get?_push_size _ rfl) rfl (by first | (simp; done) | (simp; omega) | (simp only [Array.size_append]; simp; omega)) ?_
  refine wpAny_bind (wpAny_isInstance (T := "StopIteration") (b := true) ⟨_, Heap.get?_update_self _ (Heap.get?_push_size _ rfl) rfl, rfl⟩ isSubtype_stop ?_)
  refine wpAny_pure (hQ _ fun b ob hb e => ?_)
  have e' : (s.heap.update it (Obj.mapFields fun x => x.setIfInBounds 0 .none)).get? b = some ob := (Heap.get?_update_other _ _ (Ne.symm hb)).trans e
  rw [Heap.get?_update_other _ _ (Nat.ne_of_gt (Heap.lt_size (Heap.get?_push_of_some _ e')))]
  exact Heap.get?_push_of_some _ (Heap.get?_push_of_some _ e')
theorem next_tuple_endH {it t x1 : Addr} {i : Nat} {items : Array Value} {Q : Option Value → Shared → Prop} (hot : HotAt A x1 s.heap) (hit : IsTupIter s.heap it t i) (ht : IsTup s.heap t items) (hx : items[i]? = none)
    (hQ : ∀ h', Heap.ExtBut it s.heap h' → Q none { s with heap := h' }) : wpAny (model prog w) A (pyNext (.ref it)) Q E s := by
  obtain ⟨o, ho, hc, hd⟩ := id hit
  obtain ⟨ol, hol, _, nl, hdl⟩ := ht
  have hne : it ≠ x1 := hot_ne hot ho hd (by simp)
  obtain ⟨hh, o1, vs1, h1, d1, c1⟩ := hot
  have h1' : (s.heap.update it (Obj.mapFields fun x => x.setIfInBounds 0 .none)).get? x1 = some o1 := (Heap.get?_update_other _ _ hne).trans h1
  unfold pyNext
  refine wpAny_bind (wpAny_attempt (wpAny_callSpecial?_slot (name := Str.ofString "__next__") (show s.TypeIs (.ref it) "tuple_iterator" from ⟨o, ho, hc⟩) slot_tupleiter_next
    (wpAny_call_entry slot_tupleiter_next (show s.TypeIs (.ref it) "tuple_iterator" from ⟨o, ho, hc⟩) entry_tupleiter_next ?_ (args_tupleiter_next _))))
  show wpAny _ _ (field (.ref it) 0 >>= _) _ _ s
  refine wpAny_bind (wpAny_field ho hd (x := .ref t) rfl ?_)
  show wpAny _ _ (if (Value.ref t == Value.none) = true then _ else _) _ _ s
  rw [if_neg (show ¬ ((Value.ref t == Value.none) = true) from Bool.false_ne_true)]
  show wpAny _ _ (field (.ref it) 1 >>= _) _ _ s
  refine wpAny_bind (wpAny_field ho hd (x := .int i 0) rfl ?_)
  show wpAny _ _ (seqItems? (.ref t) >>= _) _ _ s
  refine wpAny_bind (wpAny_seqItems hol hdl ?_)
  simp only [Int.toNat_natCast, hx]
  refine wpAny_bind (wpAny_rule (wpAny_bind (wpAny_setField ho hd (by simp) ?_)))
  show wpAny _ _ (newExc (.type "StopIteration") [] >>= _) _ _ _
  refine wpAny_bind ?_
  simp only [newExc, newTuple]
  refine wpAny_bind (wpAny_newObj_type ?_ (by size_fits))
  refine wpAny_bind (m := firstArgMember _ _) (wpAny_of_eq (a := Value.none) (by first | rfl | (simp only [firstArgMember]; rfl)) ?_)
  refine wpAny_newObj_type ?_ (by size_fits)
  refine raiseNew_hot ⟨hh, o1, vs1, Heap.get?_push_of_some _ (Heap.get?_push_of_some _ h1'), d1, c1⟩ (Nat.ne_of_lt (Heap.lt_size (Heap.get?_push_of_some _ h1'))) (Heap.get?_push_size _ rfl) rfl (by first | (simp; done) | (simp; omega) | (simp only [Array.size_append]; simp; omega)) ?_
  refine wpAny_bind (wpAny_isInstance (T := "StopIteration") (b := true) ⟨_, Heap.get?_update_self _ (Heap.get?_push_size _ rfl) rfl, rfl⟩ isSubtype_stop ?_)
  refine wpAny_pure (hQ _ fun b ob hb e => ?_)
  have e' : (s.heap.update it (Obj.mapFields fun x => x.setIfInBounds 0 .none)).get? b = some ob := (Heap.get?_update_other _ _ (Ne.symm hb)).trans e
  rw [Heap.get?_update_other _ _ (Nat.ne_of_gt (Heap.lt_size (Heap.get?_push_of_some _ e')))]
  exact Heap.get?_push_of_some _ (Heap.get?_push_of_some _ e')
theorem unpackItems_tupleH {t x1 : Addr} {items : Array Value} {Q : List Value → Shared → Prop} (hot : HotAt A x1 s.heap) (ht : IsTup s.heap t items)
    (hQ : ∀ h', Heap.ExtBut s.heap.objs.size s.heap h' → Q items.toList { s with heap := h' }) : wpAny (model prog w) A (unpackItems (.ref t) items.size none) Q E s := by
  have hlt : t ≠ s.heap.objs.size := by obtain ⟨o, ho, _⟩ := ht; exact Nat.ne_of_lt (Heap.lt_size ho)
  obtain ⟨hh, o1, vs1, h1, d1, c1⟩ := hot
  have hx : x1 ≠ s.heap.objs.size := Nat.ne_of_lt (Heap.lt_size h1)
  unfold unpackItems
  refine wpAny_bind ?_
  · unfold notIterableAtAll
    refine wpAny_bind (wpAny_specialOf ht.typeIs slot_tuple_iter.lookup ?_)
    refine wpAny_pure ?_
    simp only [Bool.false_eq_true, if_false]
    refine wpAny_bind (wpAny_holding (iter_tuple ht ?_))
    refine wpAny_bind (wpAny_holding (draw_tuple hlt items.size 0 _ _ ⟨_, Heap.get?_push_size _ rfl, rfl, rfl⟩ (ht.push _) (by omega) fun h₁ hit₁ hs₁ => ?_))
    have hall : List.take items.size (List.drop 0 items.toList) = items.toList := by
      rw [List.drop_zero]; exact List.take_of_length_le (by simp)
    rw [hall]
    rw [if_neg (by simp)]
    have ht₁ : IsTup h₁ t items := (ht.push _).extBut hs₁.extBut hlt
    have hot₁ : HotAt A x1 h₁ := ⟨hh, o1, vs1, hs₁.extBut x1 o1 hx (Heap.get?_push_of_some _ h1), d1, c1⟩
    refine wpAny_bind (wpAny_holding (next_tuple_endH hot₁ hit₁ ht₁ (by simp) fun h₂ he₂ => ?_))
    simp only [Option.isSome_none, Bool.false_eq_true, if_false]
    refine wpAny_pure (hQ h₂ fun b o hb e => he₂ b o hb (hs₁.extBut b o hb (Heap.get?_push_of_some _ e)))
theorem assign_TupleH {env : Env} {elts : List Expr} {k} {pos : Pos} {t x1 : Addr} {items : Array Value} {Q : Unit → Shared → Prop} (hot : HotAt A x1 s.heap) (ht : IsTup s.heap t items)
    (hn : (assignEach elts env).length = items.size) (hstar : (assignEach elts env).findIdx? (·.1) = none)
    (h : ∀ h', Heap.ExtBut s.heap.objs.size s.heap h' → wpAny (model prog w) A (assignInOrder ((assignEach elts env).map (·.2)) items.toList) Q E { s with heap := h' }) :
    wpAny (model prog w) A (assign (.Tuple elts k pos) env (.ref t)) Q E s := by
  rw [assign_Tuple]
  refine wpAny_bind (wpAny_standAt ?_)
  unfold unpack
  rw [hn, hstar]
  exact wpAny_bind (wpAny_holding (unpackItems_tupleH hot ht h))
end
/-! ### over lists -/
theorem turn_listH {P : Program} {w : World} {K : PySem.W.Frag} {tg : Expr} (a it : Addr) : TurnH P w K tg (Itl K a) [it] it (fun i h => h.IsListIter it a i) where
  mem := by simp
  obj := fun i h st b hb => by
    have e : b = it := by simpa using hb
    subst e
    obtain ⟨o, e, c, d⟩ := st
    exact ⟨o, e, fun v z => by rw [d] at z; cases z⟩
  keep := fun i h h' st k => st.at fun o e => k it (by simp) o e
  item := by
    intro X hP hw hK hc i pins s σ H E I hf st hg
    subst hP hw hK
    obtain ⟨xs, x, hq, hx⟩ := hg
    obtain ⟨its, rv, p, hz⟩ := I.list hq
    obtain ⟨u, hu, ru⟩ := rv.get hx
    obtain ⟨f0, f1, f2, f3, f4, f5⟩ := hf it (by simp)
    refine wpAny_pyNext_list_item st p.isList (x := u) (by simpa using hu) fun h' st' sb => ?_
    have I1 : Inv X pins σ H { s with heap := h' } := I.turned (t' := s.toks) (fun b o hb e => (sb.2 b hb).trans e) f0 f1 f3 f4 f5
    obtain ⟨o, e, c, d⟩ := id st'
    exact ⟨u, rfl, go_of (s := { s with heap := h' }) e c d (by decide) ⟨x, H, I1, ru, ⟨rfl, fun ys hy => by rw [I.list_inj hy hq]; exact hx⟩, st', fun b hb => (hf b hb).1⟩⟩
  done := by
    intro X hP hw hK hc i pins s σ H E I hf st hg
    subst hP hw hK
    obtain ⟨xs, hq, hx⟩ := hg
    obtain ⟨its, rv, p, hz⟩ := I.list hq
    obtain ⟨f0, f1, f2, f3, f4, f5⟩ := hf it (by simp)
    have hl := rv.length
    obtain ⟨x1, hot⟩ := hc.at I
    exact next_list_endH hot st p.isList (by simp; omega) fun h' eb => ⟨rfl, I.turned (t' := s.toks) (fun b o hb e => eb b o hb e) f0 f1 f3 f4 f5⟩
  self := fun _ _ _ _ _ st h => wpAny_pyIter_listiter st h
section
variable {X : Cx} {tg : Expr} {pos : Pos}
theorem pi_listH {l : Expr} {tl : TE} (hl : PE X l tl) : PIH X tg l (iList X.K tl) := by
  refine ⟨fun pins s σ H R I h => ?_⟩
  refine thn (hl.run pins s σ H _ I h) fun v s1 ⟨x, H1, I1, r1, q1⟩ => ?_
  obtain ⟨a, e, ⟨xs, hq⟩, q⟩ := q1
  subst e
  cases r1
  obtain ⟨its, rv, p, hz⟩ := I1.list hq
  refine wpAny_pyIter_list p.isList ?_
  refine ⟨s1.heap.objs.size, [s1.heap.objs.size], _, _, H1, rfl, I1.kept (t' := s1.toks) fun b o e => Heap.get?_push_of_some _ e, turn_listH a _, ⟨_, Heap.get?_push_size _ rfl, rfl, rfl⟩, fun b hb => ?_, q⟩
  have e : b = s1.heap.objs.size := by simpa using hb
  subst e
  exact I1.fpOk (Nat.le_refl _) (I1.hok.fresh (Nat.le_refl _))
theorem pg_tupH {es : List Expr} {k : Nat} {t : TGs} {n : Nat} (hc : HotC X) (h : PGs X es t)
    (hn : (assignEach es X.env).length = n := by rfl) (hst : (assignEach es X.env).findIdx? (·.1) = none := by rfl) : PG X (.Tuple es k pos) (gTup X.K n t) := by
  refine ⟨fun pins s σ H v u Q I r hw => ?_⟩
  obtain ⟨a, xs, e1, hq, hl, hw⟩ := hw
  subst e1
  cases r
  obtain ⟨its, rv, ht, hz⟩ := I.tuple hq
  obtain ⟨x1, hot⟩ := hc.at I
  refine assign_TupleH hot ht (by simp [hn, ← hl, rv.length]) hst fun h' hx => ?_
  have I1 : Inv X pins σ H { s with heap := h' } := I.kept (t' := s.toks) fun b o e => hx b o (Nat.ne_of_lt (Heap.lt_size e)) e
  exact h.run pins _ σ H xs _ Q I1 (by simpa using rv) hw
end
end HotD

set_option Elab.async false
set_option linter.all false
set_option maxRecDepth 100000
set_option maxHeartbeats 2000000
/-! DL7b: a list comprehension while an exception is handled. -/
namespace HotD
open PySem PySem.Spec PyProof.Rows L2 HotX L2H
/-- a block's context that bears the handled exception -/
abbrev blkH (X : Cx) (s : Shared) (H : Hp) (scope : Scope) (cenv : Env) (fp : List Addr) (p : Addr × Obj) : Cx := { X.blk s H scope cenv fp with pn := [p] }
section
variable {X : Cx} {σ : L2.St} {H : Hp} {s : Shared}
theorem blk_pin {s0 : Shared} {H0 : Hp} {scope : Scope} {ce : Env} {fp : List Addr} {p : Addr × Obj} (I : Inv (X.blk s0 H0 scope ce fp) [] σ H s) (h : s.heap.get? p.1 = some p.2 ∧ H p.1 = none ∧ p.1 ≠ ce.locals ∧ p.1 ∉ frs X.stack ∧ ∀ v, p.2.data ≠ .cell v) : Inv (blkH X s0 H0 scope ce fp p) [] σ H s := by
  obtain ⟨ok, os, bare, base, loc, cell, free, freeC, pin, hok, len⟩ := I
  obtain ⟨k1, k2, k3, k4, k5, k6, k7, k8, k9, k10, k11, k12, k13, k14, k15, k16, k17, k18⟩ := ok
  refine ⟨⟨k1, k2, k3, k4, k5, k6, k7, k8, k9, k10, k11, k12, k13, k14, k15, k16, k17, k18⟩, os, bare, base, loc, cell, free, freeC, fun q hq => ?_, hok, len⟩
  have e : q = p := by simpa using (show q ∈ [p] ++ ([] : List (Addr × Obj)) from hq)
  rw [e]
  exact h
/-- the loop of a list comprehension over what is walked, an exception being handled -/
theorem lcH {pins : List (Addr × Obj)} {Q : VK} {elt tg iter : Expr} {ifs : List Expr} {scope : Scope} {own : List (Str × Nat)} {pos pos' : Pos} {wi : TI} {g : TG} {tt : TT} {te : TE} {use : Option (Value → Sem Unit)} {Qf : Value → Shared → Prop}
    {p : Addr × Obj} (hot : Hot1 X.A p) (hp : p ∈ X.pn) (hN : X.N.Nodup) (I : Inv X pins σ H s) (hi : PIH X tg iter wi) (ok : BlkOk X.N X.env.scope scope own)
    (hg : ∀ (s : Shared) (H : Hp) (C : Addr) (cl : List (Str × Addr)) (fp : List Addr), PG (blkH X s H scope (compEnvC scope cl C X.env) fp p) tg g) (ht : ∀ (s : Shared) (H : Hp) (C : Addr) (cl : List (Str × Addr)) (fp : List Addr), PTs (blkH X s H scope (compEnvC scope cl C X.env) fp p) ifs tt)
    (he : ∀ (s : Shared) (H : Hp) (C : Addr) (cl : List (Str × Addr)) (fp : List Addr), PE (blkH X s H scope (compEnvC scope cl C X.env) fp p) elt te) (hs : ∀ x, foldedSetIterable iter X.env x = pure x)
    (h : tLc wi g tt te (own.map (·.2)) σ H Q)
    (hRR : ∀ D C s' m H', Inv X pins σ H' s' → Q (.ref D) H' → s'.heap.Ns C m → FpOk X pins H' C → compPost (model X.prog X.w) X.A X.xe use Qf (.ref D) C (.ok .next) s') :
    wpAny (model X.prog X.w) X.A (comprehension (.ListComp elt [⟨tg, iter, ifs, 0⟩] scope pos) scope X.env pos' (newList []) false (eval iter X.env) use) Qf X.xe s := by
  have hfree : ∀ y ∈ scope.names, y.2 = .free → ∃ c, X.env.cells.lookup y.1 = some c := fun y hy e => (ok.free y hy e).elim (fun k => I.ok.has _ (.inl k)) fun k => I.ok.has _ (.inr k)
  refine wpAny_comprehension_free (use := use) rfl hs (closure_ok hfree) ok.kind (fun y hy e => by rw [ok.uniq y hy, e])
    (thn (hi.run pins s σ H _ I h) fun xv s1 hx => thn hx fun itv s2 h2 => ?_)
  obtain ⟨it, fp, tn, J, H2, e, I2, T, st2, f2, q⟩ := h2
  subst e
  refine wpAny_newObj_type (newEnv_comp ?_) (by show 0 ≤ sizeLine; decide)
  generalize hD : s2.heap.objs.size = D
  obtain ⟨W, ⟨m0, w0⟩, turn⟩ := q D (I2.hok.fresh (Nat.le_of_eq hD))
  generalize hs3 : ({ s2 with heap := s2.heap.push { cls := .type "list", data := .seq ([] : List Value).toArray } } : Shared) = s3
  have h3 : s3.heap = s2.heap.push { cls := .type "list", data := .seq ([] : List Value).toArray } := by rw [← hs3]
  have I3 : Inv X pins σ (upd H2 D (.lst [])) s3 := by
    rw [← hs3]
    refine I2.laid (t' := s2.toks) (fun b o e => Heap.get?_push_of_some _ e) (Nat.le_of_eq hD) ⟨Nat.zero_le _, [], 0, .nil, ?_⟩
    rw [← hD]
    exact Heap.get?_push_size _ rfl
  have sz : ∀ b ∈ fp, b < s2.heap.objs.size := fun b hb => by
    obtain ⟨o, e, _⟩ := T.obj _ _ st2 b hb
    exact Heap.lt_size e
  have f3 : ∀ b ∈ fp, FpOk X pins (upd H2 D (.lst [])) b ∧ b < s3.heap.objs.size := fun b hb => by
    have hlt := sz b hb
    refine ⟨⟨?_, (f2 b hb).2⟩, by rw [h3, Heap.size_push]; exact Nat.lt_succ_of_lt hlt⟩
    rw [upd_ne (by rw [← hD]; exact Nat.ne_of_lt hlt)]
    exact (f2 b hb).1
  have st3 : tn 0 s3.heap := T.keep _ _ _ st2 fun b _ o e => by rw [h3]; exact Heap.get?_push_of_some _ e
  have P3 := I3.pin p (List.mem_append_left _ hp)
  have nst : p.1 ∉ frs X.stack := fun hm => (List.mem_cons.mp (I3.stkSub p.1 hm)).elim P3.2.2.1 P3.2.2.2.1
  have I4' := block_start I3 ok hN f3
  have I4 := blk_pin (p := p) I4' ⟨pushCells_keeps _ _ _ _ (Heap.get?_push_of_some _ P3.1), P3.2.1, Nat.ne_of_lt (Heap.lt_size P3.1), nst, P3.2.2.2.2⟩
  have pg := hg s3 (upd H2 D (.lst [])) s3.heap.objs.size (cellsFrom (s3.heap.objs.size + 1) scope.names (cloFrom X.env.cells scope.names [])) fp
  have pt := ht s3 (upd H2 D (.lst [])) s3.heap.objs.size (cellsFrom (s3.heap.objs.size + 1) scope.names (cloFrom X.env.cells scope.names [])) fp
  have pe := he s3 (upd H2 D (.lst [])) s3.heap.objs.size (cellsFrom (s3.heap.objs.size + 1) scope.names (cloFrom X.env.cells scope.names [])) fp
  show codeAny _ _ (.compStart (.ListComp elt [⟨tg, iter, ifs, 0⟩] scope pos) 0 (.ref it) (.ref D) (compEnvC scope (cellsFrom (s3.heap.objs.size + 1) scope.names (cloFrom X.env.cells scope.names [])) s3.heap.objs.size X.env)) (compPost (model X.prog X.w) X.A X.xe use Qf (.ref D) s3.heap.objs.size) { s3 with heap := pushCells (s3.heap.push { cls := .type "dict", data := .dict #[] }) scope.names }
  have nfp : ∀ b ∈ fp, (upd H2 D (.lst [])) b = none := fun b hb => (f3 b hb).1.1
  clear I4'
  generalize hce : compEnvC scope (cellsFrom (s3.heap.objs.size + 1) scope.names (cloFrom X.env.cells scope.names [])) s3.heap.objs.size X.env = ce at I4 pg pt pe ⊢
  have cL : ce.locals = s3.heap.objs.size := by subst hce; rfl
  generalize hH3 : upd H2 D (.lst []) = H3 at I3 I4 pg pt pe w0 nfp f3 P3
  generalize hs4 : ({ s3 with heap := pushCells (s3.heap.push { cls := .type "dict", data := .dict #[] }) scope.names } : Shared) = s4 at I4 ⊢
  have st4 : tn 0 s4.heap := T.keep _ _ _ st3 fun b _ o e => by rw [← hs4]; exact pushCells_keeps _ _ _ _ (Heap.get?_push_of_some _ e)
  have hc : HotC (blkH X s3 H3 scope ce fp p) := ⟨p, hot, List.mem_singleton_self p⟩
  have stat : ∀ {σ' : L2.St} {H' : Hp} {s' : Shared}, Inv (blkH X s3 H3 scope ce fp p) [] σ' H' s' → (∀ b ∈ fp, H' b = none) → ∀ b ∈ fp, FpOk (blkH X s3 H3 scope ce fp p) [] H' b := fun {σ' H' s'} I' hn b hb =>
    ⟨hn b hb, (I'.ok.exf b hb).1, I'.ok.exfs b hb, .inl hb, fun x c e => (I'.ok.exf b hb).2 x c e, fun q hq => by
      rw [show q = p from by simpa using (show q ∈ [p] ++ ([] : List (Addr × Obj)) from hq)]
      exact (f3 b hb).1.2.2.2.2.2 p (List.mem_append_left _ hp)⟩
  have loop : codeAny (model X.prog X.w) X.A (.compLoop (.ListComp elt [⟨tg, iter, ifs, 0⟩] scope pos) 0 (.ref it) (.ref D) ce) (compPost (model X.prog X.w) X.A X.xe use Qf (.ref D) s3.heap.objs.size) s4 := by
    refine compLoop_any (fun n s' => ∃ i H', Inv (blkH X s3 H3 scope ce fp p) [] (wipe σ (own.map (·.2))) H' s' ∧ tn i s'.heap ∧ (∀ b ∈ fp, H' b = none) ∧ W i n H') ?_ m0 ⟨0, H3, I4, st4, nfp, w0⟩
    rintro n s5 ⟨i, H5, I5, st5, n5, w5⟩
    rcases turn i n H5 w5 with ⟨stop, qq⟩ | ⟨go, Nx, hNx, step⟩
    · have td := T.done (blkH X s3 H3 scope ce fp p) rfl rfl rfl hc i [] s5 _ H5 (fun _ _ => False) I5 (stat I5 n5) st5 stop
      refine thnF td fun r s6 ⟨hr, I6⟩ => ?_
      subst hr
      have I7 : Inv X pins σ H5 s6 := I3.call' (ch := fp) I6.os I6.base I6.hok I6.bare fun b hb => ⟨(f3 b hb).1.2.2.2.1, (f3 b hb).1.2.1, (f3 b hb).1.2.2.2.2.1, (f3 b hb).1.2.2.2.2.2⟩
      have nC : H5 s3.heap.objs.size = none := by
        have z : H5 ce.locals = none := I6.free
        rw [cL] at z
        exact z
      obtain ⟨m, hn, _⟩ := I6.loc
      have hn : s6.heap.Ns ce.locals m := hn
      rw [cL] at hn
      exact hRR D s3.heap.objs.size s6 m H5 I7 qq hn (I3.fpOk (Nat.le_refl _) nC)
    · have ti := T.item (blkH X s3 H3 scope ce fp p) rfl rfl rfl hc i [] s5 _ H5 (fun _ _ => False) I5 (stat I5 n5) st5 go
      refine thnF ti fun r s6 ⟨u, hr, h6⟩ => ?_
      subst hr
      refine thnF h6 fun _ s7 ⟨x, H7, I7, r7, y7, st7, n7⟩ => ?_
      have I7' := I7.pinned (stat I7 n7) (T.obj _ _ st7)
      refine thnF (pg.run _ s7 _ H7 x u _ I7' r7 (step x H7 y7)) fun _ s8 ⟨σ8, H8, I8, hw8, q8⟩ => ?_
      refine thnF (pt.run _ s8 σ8 H8 _ I8 q8) fun b s9 ⟨H9, I9, q9⟩ => ?_
      have fin : ∀ {s' : Shared} {H' : Hp}, Inv (blkH X s3 H3 scope ce fp p) ([] ++ pinsAt fp s7.heap) σ8 H' s' → Nx H' → ∃ m, m < n ∧ ∃ i H', Inv (blkH X s3 H3 scope ce fp p) [] (wipe σ (own.map (·.2))) H' s' ∧ tn i s'.heap ∧ (∀ b ∈ fp, H' b = none) ∧ W i m H' := fun {s' H'} I' nx => by
        obtain ⟨m', hm, w'⟩ := hNx H' nx
        have pin' : ∀ b ∈ fp, ∀ o, s7.heap.get? b = some o → s'.heap.get? b = some o ∧ H' b = none := fun b hb o e =>
          let z := I'.pin (b, o) (List.mem_append_right _ (List.mem_append_right _ (mem_pinsAt hb e)))
          ⟨z.1, z.2.1⟩
        have hl : (wipe σ (own.map (·.2))).length = σ8.length := by rw [← hw8, wipe_length]
        refine ⟨m', hm, i + 1, H', (I'.unpinned (pins := [])).weak hl (fun j v e => ?_), T.keep _ _ _ st7 fun b hb o e => (pin' b hb o e).1, fun b hb => ?_, w'⟩
        · rw [← hw8] at e
          exact (wipe_some e).1
        · obtain ⟨o, e, _⟩ := T.obj _ _ st7 b hb
          exact (pin' b hb o e).2
      cases b with
      | false =>
        simp only [Bool.false_eq_true, if_false] at q9 ⊢
        exact fin I9 q9
      | true =>
        simp only [if_true] at q9 ⊢
        refine thnF (pe.run _ s9 σ8 H9 _ I9 q9) fun z s10 ⟨yv, H10, I10, r10, acc, hD10, hz10, nx⟩ => ?_
        exact app_ok (X := blkH X s3 H3 scope ce fp p) I10 hD10 hz10 r10 fun s11 I11 => fin I11 nx
  exact codeAny_compStart_list loop (T.self X.A 0 _ _ _ st4 loop)
/-- [elt for target in iter if ..], an exception being handled -/
theorem pe_lcH {elt tg iter : Expr} {ifs : List Expr} {scope : Scope} {own : List (Str × Nat)} {pos : Pos} {wi : TI} {g : TG} {tt : TT} {te : TE} (hc : HotC X) (hN : X.N.Nodup) (hi : PIH X tg iter wi) (ok : BlkOk X.N X.env.scope scope own)
    (hg : ∀ p, Hot1 X.A p → ∀ (s : Shared) (H : Hp) (C : Addr) (cl : List (Str × Addr)) (fp : List Addr), PG (blkH X s H scope (compEnvC scope cl C X.env) fp p) tg g) (ht : ∀ p, Hot1 X.A p → ∀ (s : Shared) (H : Hp) (C : Addr) (cl : List (Str × Addr)) (fp : List Addr), PTs (blkH X s H scope (compEnvC scope cl C X.env) fp p) ifs tt)
    (he : ∀ p, Hot1 X.A p → ∀ (s : Shared) (H : Hp) (C : Addr) (cl : List (Str × Addr)) (fp : List Addr), PE (blkH X s H scope (compEnvC scope cl C X.env) fp p) elt te) (hs : ∀ x, foldedSetIterable iter X.env x = pure x := by intro _; rfl) :
    PE X (.ListComp elt [⟨tg, iter, ifs, 0⟩] scope pos) (tLc wi g tt te (own.map (·.2))) := by
  obtain ⟨p, hot, hp⟩ := hc
  refine ⟨fun pins s σ H Q I h => ?_⟩
  rw [eval_ListComp]
  refine lcH hot hp hN I hi ok (hg p hot) (ht p hot) (he p hot) hs h fun D C s' m H' I' q hn f => ⟨m, hn, fun h'' sb => ?_⟩
  obtain ⟨f0, f1, f2, f3, f4, f5⟩ := f
  exact ⟨.ref D, H', I'.turned (t' := s'.toks) (fun b o hb e => (sb.2 b hb).trans e) f0 f1 f3 f4 f5, rfl, q⟩
end
end HotD

set_option Elab.async false
set_option linter.all false
set_option maxRecDepth 100000
set_option maxHeartbeats 2000000
/-! DL8: the word of a caught error: rules over data while it is handled, and the def's promise. -/
namespace DL
open PySem PySem.Spec PyProof.Rows L2 HT HotX L2H HotD
section
variable {X : Cx} {A : Amb} {pos : Pos} {tg : Expr} {te to : TDE}
/-! ### isinstance of the handled error -/
def dIsP (e : Addr) (g : Addr → Option Bool) : DCl := fun ds μ P => match ds with
  | [.ref x, .ref c] => x = e ∧ match g c with
    | some b => P (.bl b) μ
    | none => False
  | _ => False
/-- what is known of an error's object -/
structure ErrO (K : PySem.W.Frag) (D : Addr) (o : Obj) : Prop where
  c : ExcC K D
  z : Zc (.ref D) none o
  f : ∃ vs, o.data = .fields vs
theorem call_isP {D : Addr} {p : Addr × Obj} (hp : p ∈ X.pn) (C : ErrO X.K D p.2) : CallR X (.builtin "isinstance") (rIsE X.K D p.1) := by
  intro pins s σ H xs us Q I r h
  obtain ⟨c, cv, b, rfl, hcv, e, q⟩ := h
  cases r with
  | cons rx rr =>
    cases rr with
    | cons rt rr =>
      cases rr
      cases rx
      have ec := hcv _ rt
      subst ec
      obtain ⟨hget, _⟩ := I.pin p (List.mem_append.mpr (.inl hp))
      obtain ⟨pa, oe⟩ := p
      obtain ⟨C, hz, vs, hv⟩ := C
      have J : PySem.W.InstAt s.heap pa oe D none := by
        obtain ⟨oc, od, oda, osl⟩ := oe
        obtain ⟨h1, h2⟩ := hz
        dsimp only at h1 h2 hv
        subst h1 h2 hv
        exact ⟨hget, rfl, rfl, trivial⟩
      exact PySem.W.kia_one (PySem.W.handS_kitx_exc C.hg C.hk C.hs C.hd C.ha C.hn C.ht C.hm) I.kIn J e (fun z => nomatch z) fun tk => ⟨.bl b, H, I.kept (t' := tk) fun _ _ z => z, rfl, q⟩
theorem cd_isP {D : Addr} {p : Addr × Obj} (hp : p ∈ X.pn) (C : ErrO X.K D p.2) : CallR X (.builtin "isinstance") (lC X.K A (dIsP p.1 fun c => PySem.W.kitOne X.K (.ref D) (.ref c))) := cimp (call_isP hp C) fun xs H Q h => by
  obtain ⟨G, F, μ, ds, P, s, dx, t, q⟩ := h
  unfold dIsP at t
  split at t
  · rename_i x c
    obtain ⟨rfl, t⟩ := t
    cases dx with
    | cons d1 dx =>
      cases dx with
      | cons d2 dx =>
        cases dx
        cases d1
        cases d2
        split at t
        · rename_i b e
          exact ⟨_, .ref c, b, rfl, fun u r => r, e, q _ _ _ _ _ t (Same.refl _) s (.bl _)⟩
        · exact t.elim
  · exact t.elim
/-! ### texts joined -/
def dJoin (to te : TDE) : TDE := fun δ μ P => to δ μ fun o μ1 => match o with
  | .str a => te δ μ1 fun l μ2 => match l with
    | .lst ds => ∃ ys : List Str, ds = ys.map .str ∧ (ys.map (·.length)).sum + ys.length * a.length ≤ 16777216 ∧ P (.str (Txt.join a ys)) μ2
    | _ => False
  | _ => False
theorem strs_dt {K : PySem.W.Frag} {G : Hp} : ∀ {ys : List Str} {vs : List V}, DtA K G vs (ys.map .str) → vs = ys.map V.str
  | [], _, h => by cases h; rfl
  | y :: ys, _, h => by
    have h' : DtA K G _ (.str y :: ys.map .str) := h
    cases h' with
    | cons h1 h2 =>
      cases h1
      rw [strs_dt h2]
      rfl
theorem de_join {o e : Expr} {apos : Pos} (ho : PE X o (lE X.K A to)) (he : PE X e (lE X.K A te)) (hs : starEach [e] X.env = [(false, eval e X.env)] := by rfl) (hbase : attributeBase o "join" X.env (eval o X.env) = eval o X.env := by rfl) (hline : (apos.endLine == pos.line) = true := by rfl) :
    PE X (.Call (.Attribute o "join" apos) [e] [] pos) (lE X.K A (dJoin to te)) :=
  PE.imp (pe_m1 F.slot_str_join F.type_str_join mt_join ho he hs hbase hline) fun σ H Q h => by
    obtain ⟨G, F, μ, δ, P, s, e, t, q⟩ := h
    refine ⟨G, F, μ, δ, _, s, e, t, fun d μ1 v G1 H1 t1 s1 st1 dt1 => ?_⟩
    split at t1
    · rename_i a
      cases dt1
      refine ⟨⟨_, rfl⟩, G1, F, μ1, δ, _, st1, e.mono s1, t1, fun d2 μ2 v2 G2 H2 t2 s2 st2 dt2 => ?_⟩
      split at t2
      · obtain ⟨ys, rfl, hz, t2⟩ := t2
        cases dt2 with
        | @lst b xs _ h1 h2 =>
          obtain rfl := strs_dt h2
          exact ⟨a, b, ys, rfl, rfl, .inl (SqL.of (st2.gh _ _ h1)), hz, q _ _ _ _ _ t2 (s1.trans s2) st2 (.str _)⟩
      · exact t2.elim
    · exact t1.elim
/-! ### comprehensions while an error is handled -/
/-- a list that stands still is walked -/
def diLst (te : TDE) : TDI := fun δ μ R => te δ μ fun d μ1 => match d with
  | .lst ds => R ds μ1
  | _ => False
theorem iimpH {e : Expr} {t t' : TI} (h : PIH X tg e t) (i : ∀ σ H Q, t' σ H Q → t σ H Q) : PIH X tg e t' := ⟨fun pins s σ H Q I x => h.run pins s σ H Q I (i σ H Q x)⟩
theorem di_lstH {l : Expr} (hl : PE X l (lE X.K A te)) : PIH X tg l (lI X.K A (diLst te)) := iimpH (pi_listH hl) fun σ H R h => by
  obtain ⟨G, F, μ, δ, P, s, e, t, q⟩ := h
  refine ⟨G, F, μ, δ, _, s, e, t, fun d μ1 v G1 H1 t1 s1 st1 dt1 => ?_⟩
  split at t1
  · cases dt1 with
    | @lst a xs ds h1 h2 => exact ⟨a, rfl, ⟨xs, SqL.of (st1.gh _ _ h1)⟩, q _ _ _ _ _ t1 s1 st1 (walk_lst (SqL.of h1) h2)⟩
  · exact t1.elim
theorem de_lcH {wi : TDI} {gd : TDG} {tt : TDT} {te : TDE} {g : TG} {elt tg iter : Expr} {ifs : List Expr} {scope : Scope} {own : List (Str × Nat)} (hc : HotC X) (hN : X.N.Nodup) (hi : PIH X tg iter (lI X.K A wi)) (ok : BlkOk X.N X.env.scope scope own) (hgr : TgR X.K A (own.map (·.2)) g gd)
    (hg : ∀ p, Hot1 X.A p → ∀ (s : Shared) (H : Hp) (C : Addr) (cl : List (Str × Addr)) (fp : List Addr), PG (blkH X s H scope (compEnvC scope cl C X.env) fp p) tg g) (ht : ∀ p, Hot1 X.A p → ∀ (s : Shared) (H : Hp) (C : Addr) (cl : List (Str × Addr)) (fp : List Addr), PTs (blkH X s H scope (compEnvC scope cl C X.env) fp p) ifs (lT X.K A tt))
    (he : ∀ p, Hot1 X.A p → ∀ (s : Shared) (H : Hp) (C : Addr) (cl : List (Str × Addr)) (fp : List Addr), PE (blkH X s H scope (compEnvC scope cl C X.env) fp p) elt (lE X.K A te)) (hs : ∀ x, foldedSetIterable iter X.env x = pure x := by intro _; rfl) :
    PE X (.ListComp elt [⟨tg, iter, ifs, 0⟩] scope pos) (lE X.K A (dLc wi gd tt te (own.map (·.2)))) := PE.imp (pe_lcH hc hN hi ok hg ht he hs) (lE_lc hgr)
end
/-! ### the def that tells an error's word -/
/-- what it promises: the error of class C that is handled, told by the word wd -/
structure ErrD (P : Program) (w : World) (K : PySem.W.Frag) (mg : Str → Option Value) (base : Heap) (T : List (Addr × Str)) (k : Nat) (x y : Str) (wordOf : Addr → Str → Prop) : Prop where
  ex : ∃ (f : Addr) (fd : FuncData), mg x = some (.ref f) ∧ PySem.W.keepIn K (.ref f) = true ∧ Binds K fd [y] [] ∧
    ∀ (A : Around) (outer : List Env) (s : Shared) (H : Hp) (args : Args) (Q : VK) (E : XK) (p : Addr × Obj) (D : Addr) (wd : Str) (G F : Hp) (μ : Mu) (Pd : DK), RoomH k A → Hot1 A p → PinOk outer H s p → ErrO K D p.2 → wordOf D wd → Env0 P w K mg base A outer s H → BindsTo s fd args ([y].zip [.ref p.1]) →
      Sta K ⟨T, G, F⟩ G F μ H → Pd (.str wd) μ → PoV K ⟨T, G, F⟩ F G Pd Q → codeAny (model P w) A (.call (.ref f) args) (CR (L2N.CX P w) outer P w H s Q E) s
section
variable {P : Program} {w : World} {K : PySem.W.Frag} {mg : Str → Option Value} {base : Heap}
theorem run_fnE {CX : CXT} {k : Nat} {f : Addr} {name qual : Str} {params : Arguments} {body : List Stmt} {scope : Scope} {dV kV doc pm cdv ct oc : Value} {an od : Option Addr} {osl : Array (Option Value)} {N : List Str} {y : Str}
    (lk : K.lookup f = some ⟨oc, od, .func (PySem.W.fnOf name qual params body scope dV kV doc pm an cdv ct), osl⟩) (hcd : PySem.W.codeIn K cdv qual = true) (S : FnScope N [y] scope)
    {A : Around} {outer : List Env} {s : Shared} {H : Hp} {args : Args} {Q : VK} {E : XK} {p : Addr × Obj} (hr : RoomH (k + 1) A) (hot : Hot1 A p) (hpin : PinOk outer H s p) (e0 : Env0 P w K mg base A outer s H) (hb : BindsTo s (PySem.W.fnOf name qual params body scope dV kV doc pm an cdv ct) args ([y].zip [.ref p.1]))
    (hbody : RoomH k (A.deeper (envOfC qual scope s.heap.objs.size f cdv)) → ∃ t, PSs (cxH CX P w K mg base N qual scope f cdv A outer s H E p) body t ∧ t { nx := fun _ H' => Q .non H', rt := Q } (L2.start N [.ref p.1]) H) :
    codeAny (model P w) A (.call (.ref f) args) (CR CX outer P w H s Q E) s := by
  have KX : K.In s.heap := e0.mod.kin.keeps fun b o e => (e0.bs b o e).1
  have lim : s.heap.NoLimit := e0.mod.nolimit.keeps fun b o e => (e0.bs b o e).1
  have hkind : ∀ z ∈ [y].zip [Value.ref p.1], scope.names.lookup z.1 = some .local ∨ (scope.names.lookup z.1 = some .cell ∧ ((cellsFrom (s.heap.objs.size + 1) scope.names []).lookup z.1).isSome = true) := fun ⟨n, v⟩ hz =>
    (S.par n (List.of_mem_zip hz).1).elim .inl fun q => .inr ⟨q, PySem.W.cellsFrom_some _ _ _ (.inl q)⟩
  refine codeAny_call_function hr.depth (KX _ _ lk) rfl S.co S.gen rfl (PySem.W.codeRec_of KX hcd) (hb _ _ _ _ ?_)
  refine wpAny_newFunctionEnv_cells S.kind hkind fun env he s1 x => ?_
  subst he
  refine ⟨lim.keeps x.toInCall.keep, codeAny_func ?_⟩
  obtain ⟨t, ht, hq⟩ := hbody (hr.deeper _)
  have I : Inv (cxH CX P w K mg base N qual scope f cdv A outer s H E p) [] (L2.start N [.ref p.1]) H s1 := inv_startH S hpin e0 rfl (.cons rfl .nil) x
  refine wpAny_mono (ht.run [] s1 (L2.start N [.ref p.1]) H _ I hq) (fun fl s' hs => ?_) fun e s' hs => hs
  cases fl with
  | ret u =>
    obtain ⟨v, σ', H', J, rv, q⟩ := hs
    exact ⟨v, H', J.os, J.bare, J.base, J.hok, rv, q⟩
  | next =>
    obtain ⟨σ', H', J, q⟩ := hs
    exact ⟨.non, H', J.os, J.bare, J.base, J.hok, rfl, q⟩
  | brk =>
    obtain ⟨_, _, _, q⟩ := hs
    exact False.elim q
  | cont =>
    obtain ⟨_, _, _, q⟩ := hs
    exact False.elim q
theorem err_ok {x y : Str} {st : Stmt} {N : List Str} {k : Nat} {T : List (Addr × Str)} {wordOf : Addr → Str → Prop} {t : Addr → (Addr → Option Bool) → TDS} (tp : Top K mg x st [y]) (S : FnScope N [y] (defScope st))
    (hbody : ∀ (f : Addr) (cdv : Value) (A0 : Around) (outer : List Env) (s : Shared) (H : Hp) (E : XK) (G0 F0 : Hp) (p : Addr × Obj) (D : Addr), RoomH k (A0.deeper (envOfC x (defScope st) s.heap.objs.size f cdv)) → Hot1 A0 p → ErrO K D p.2 →
      PSs (cxH (L2N.CX P w) P w K mg base N x (defScope st) f cdv A0 outer s H E p) (defBody st) (lS K ⟨T, G0, F0⟩ (t p.1 fun c => PySem.W.kitOne K (.ref D) (.ref c))))
    (sem : ∀ (e D : Addr) (wd : Str) (μ : Mu) (Pd : DK), wordOf D wd → Pd (.str wd) μ → t e (fun c => PySem.W.kitOne K (.ref D) (.ref c)) { nx := fun _ μ => Pd .non μ, rt := Pd } (startD N [.ref e]) μ) : ErrD P w K mg base T (k + 1) x y wordOf := by
  obtain ⟨f, fd, hm, Fu, hb⟩ := tp.ex
  refine ⟨f, fd, hm, Fu.kp, hb, fun A outer s H args Q E p D wd G F μ Pd hr hot hpin ho hw e0 hbt st hp q => ?_⟩
  obtain ⟨oc, od, kV, doc, pm, an, cdv, ct, osl, rfl, lk, hcd⟩ := Fu.ex
  refine run_fnE lk hcd S hr hot hpin e0 hbt fun hr' => ⟨_, hbody f cdv A outer s H E G F p D hr' hot ho, ?_⟩
  refine ⟨G, F, μ, startD N [.ref p.1], _, st, ?_, sem p.1 D wd μ Pd hw hp, ⟨fun δ μ' σ G' H' z s' st' e' => q _ _ _ _ _ z s' st' .non, q, fun _ _ _ _ _ z => z.elim, fun _ _ _ _ _ z => z.elim⟩⟩
  have d : DtA K G [V.ref p.1] [DL.D.ref p.1] := .cons (.ref p.1) .nil
  exact EnvR.of_args _ d
end
end DL

set_option Elab.async false
set_option linter.all false
set_option maxRecDepth 100000
set_option maxHeartbeats 4000000
/-! DL9: a lambda handed to a def that calls it and tells the word of its error. -/
namespace DL
open PySem PySem.Spec PyProof.Rows L2 HT HotX L2H HotD LamX
theorem Sta.tabs {K : PySem.W.Frag} {A : Amb} {G F : Hp} {μ : Mu} {H H1 : Hp} (s : Sta K A G F μ H) (e : ExtN H H1) (t : Tabs A.T H1) : Sta K A G F μ H1 := by
  refine ⟨s.g0, s.f0, fun b o h => e b o (s.gh b o h) fun ps z => s.gt b ps (z ▸ h), fun b o h => e b o (s.fh b o h) fun ps z => s.ft b ps (z ▸ h), s.gf, s.gm, s.fm, fun a m h => ?_, t, s.gt, s.ft⟩
  have q := s.mo a m h
  cases m with
  | lst ds =>
    obtain ⟨xs, q1, q2⟩ := q
    exact ⟨xs, e _ _ q1 fun ps z => (nomatch z), q2⟩
  | ins C fs =>
    obtain ⟨dx, vs, q1, q2, q3⟩ := q
    exact ⟨dx, vs, e _ _ q1 fun ps z => (nomatch z), e _ _ q2 fun ps z => (nomatch z), q3⟩
  | dK kvs =>
    obtain ⟨vs, q1, q2⟩ := q
    exact ⟨vs, e _ _ q1 fun ps z => (nomatch z), q2⟩
  | dT kvs =>
    obtain ⟨vs, q1, q2⟩ := q
    exact ⟨vs, e _ _ q1 fun ps z => (nomatch z), q2⟩
/-! ### the lambda's own code -/
/-- its context, exceptions told with what they bear -/
def lamCxN (X : Cx) (A : Around) (outer : List Env) (s : Shared) (H : Hp) (E : XK) (scope : Scope) (f c' : Addr) : Cx :=
  { lamCx X A outer s H E scope f c' with
    xe := fun e s' => wpAny (model X.prog X.w) (A.deeper (lamEnv X scope s.heap.objs.size f c')) (leaving (lamEnv X scope s.heap.objs.size f c') e) (fun _ s'' => L2N.CX X.prog X.w outer H s E e s'') (fun e' s'' => L2N.CX X.prog X.w outer H s E e' s'') s' }
section
variable {X : Cx} {pins : List (Addr × Obj)} {σ : L2.St} {H HZ : Hp} {s s1 : Shared}
theorem lam_xe {A : Around} {outer : List Env} {E : XK} {scope : Scope} {f c' : Addr} (I : Inv (lamCx X A outer s1 HZ E scope f c') [] σ H s) : Inv (lamCxN X A outer s1 HZ E scope f c') [] σ H s := by
  obtain ⟨ok, os, bare, base, loc, cell, free, freeC, pin, hok, len⟩ := I
  obtain ⟨k1, k2, k3, k4, k5, k6, k7, k8, k9, k10, k11, k12, k13, k14, k15, k16, k17, k18⟩ := ok
  exact ⟨⟨k1, k2, k3, k4, k5, k6, k7, k8, k9, k10, k11, k12, k13, k14, k15, k16, k17, k18⟩, os, bare, base, loc, cell, free, freeC, pin, hok, len⟩
/-- what is wished of an exception that leaves a lambda -/
theorem tkL {A : Around} {outer : List Env} {E : XK} {scope : Scope} {f c' : Addr} : L2N.Takes (lamCxN X A outer s1 HZ E scope f c') (fun cls d _ H => E cls d H) := L2N.takes_of rfl rfl rfl rfl
/-- x(), in the def that got the lambda -/
theorem pe_actN {CXg : CXT} {Eg : XK} {Ng : List Str} {qg : Str} {sg : Scope} {g f c' : Addr} {cdg pm ctv : Value} {params : Arguments} {body : Expr} {scope : Scope} {k i : Nat} {a : Str} {pn : List (Addr × Obj)} {xe : Value → Shared → Prop} {W : WX} {E : XK} {tb : TE} {p1 p2 : Pos}
    (I : Inv X pins σ H s) (L : LamS X.env.scope scope) (hf : s.heap.get? f = some (PySem.W.kla_obj "<lambda>" (X.env.qual ++ "<lambda>") params body scope (cloFrom X.env.cells scope.names []) pm c' ctv)) (hfn : H f = none) (hfr : f ∉ frs X.stack)
    (hbind : bindArgs (PySem.W.kla_fn "<lambda>" (X.env.qual ++ "<lambda>") params body scope (cloFrom X.env.cells scope.names []) pm (.ref c') ctv) ⟨[], []⟩ = pure [])
    (tk : L2N.Takes ((cxOf CXg X.prog X.w X.K X.mg X.base Ng qg sg g cdg X.A X.stack s H Eg).tr pn xe) W) (hr : Room (k + 1) (X.A.deeper (envOfC qg sg s.heap.objs.size g cdg)))
    (hbody : ∀ (A : Around) (outer : List Env) (s : Shared) (H : Hp), Room k (A.deeper (lamEnv X scope s.heap.objs.size f c')) → PE (lamCxN X A outer s H E scope f c') body tb)
    (hN : Ng[i]? = some a) (hv : Vis sg a) (hd : (a == ("__debug__" : Str)) = false := by decide) (hcd : (a == ("__classdict__" : Str)) = false := by decide) :
    PE ((cxOf CXg X.prog X.w X.K X.mg X.base Ng qg sg g cdg X.A X.stack s H Eg).tr pn xe) (.Call (.Name a p1) [] [] p2)
      (fun σZ HZ Q => (∀ cls d H', E cls d H' → W cls d σZ H') ∧ σZ[i]? = some (some (.ref f)) ∧ HZ c' = some (CodeO c' (X.env.qual ++ "<lambda>")) ∧ tb σ HZ Q) := by
  refine ⟨fun pinsZ sZ σZ HZ Q IZ h => ?_⟩
  obtain ⟨hW, hs, hc, ht⟩ := h
  refine wpAny_Call_Name_kw (thn ((pe_var (pos := p1) (i := i) hN hv hd hcd).run pinsZ sZ σZ HZ (fun v H1 => v = .ref f ∧ H1 = HZ) IZ ⟨.ref f, hs, rfl, rfl⟩) fun u s1 ⟨v, H1, I1, r1, q1⟩ => ?_)
  obtain ⟨ev, eH⟩ := q1
  subst ev
  rw [eH] at I1
  obtain rfl : u = Value.ref f := r1
  have of1 : s1.heap.get? f = some (PySem.W.kla_obj "<lambda>" (X.env.qual ++ "<lambda>") params body scope (cloFrom X.env.cells scope.names []) pm c' ctv) := I1.base.keep f _ hf hfn hfr (fun z => nomatch (show f ∈ ([] : List Addr) from z))
  refine PySem.W.callWith_F0 ⟨_, _, _, _, of1⟩ ?_
  have un : Un (frs X.stack) [] H HZ s.heap s1.heap := I1.base
  obtain ⟨⟨oc, vs, t, hoc, hdc, hvc⟩, _, _⟩ := I1.hok c' _ hc
  have rc : codeAny (model X.prog X.w) (X.A.deeper (envOfC qg sg s.heap.objs.size g cdg)) (.call (.ref f) ⟨[], []⟩) (CR (L2N.CX X.prog X.w) (envOfC qg sg s.heap.objs.size g cdg :: X.stack) X.prog X.w HZ s1 Q E) s1 := by
    refine PySem.W.kla_callFunE hr.depth of1 rfl L.co L.gen rfl ⟨c', oc, vs, t, rfl, hoc, hdc, hvc⟩ ?_
    rw [hbind]
    refine wpAny_pure (wpAny_newFunctionEnv (fun y hy => (L.own y hy).2) (fun y hy => absurd hy (by simp)) (fun h₁ hns hsb => ⟨I1.nolimit.fresh _ hsb, ?_⟩) L.kind)
    show codeAny _ _ (.expr body (lamEnv X scope s1.heap.objs.size f c')) _ _
    have kp : ∀ b o, s1.heap.get? b = some o → h₁.get? b = some o := fun b o e => hsb.extBut b o (Nat.ne_of_lt (Heap.lt_size e)) (Heap.get?_push_of_some _ e)
    have J : Inv (lamCxN X (X.A.deeper (envOfC qg sg s.heap.objs.size g cdg)) (envOfC qg sg s.heap.objs.size g cdg :: X.stack) s1 HZ E scope f c') [] σ HZ { s1 with heap := h₁, toks := s1.toks + ([] : List (Str × Value)).length } :=
      lam_xe (lam_start2 I L I1.env0 hr.hd un hns kp)
    refine PySem.W.kla_codeExpr (wpAny_mono ((hbody _ _ s1 HZ (hr.deeper _)).run [] _ _ HZ Q J ht) (fun v s' hq => ?_) fun e s' hq => hq)
    obtain ⟨w', H', J', rv, q⟩ := hq
    exact ⟨w', H', J'.os, J'.bare, J'.base, J'.hok, rv, q⟩
  refine wpAny_call (codeAny_mono rc fun r s' hq => ?_)
  cases r with
  | error e => exact tk e s' (L2N.XE.of_call I1 (fun cls d H' h => hW cls d H' h) hq)
  | ok fl =>
    cases fl with
    | ret u => exact I1.after hq
    | next => exact False.elim hq
    | brk => exact False.elim hq
    | cont => exact False.elim hq
end
/-! ### the word of a caught error, asked in the suite -/
section
variable {X : Cx} {T : List (Addr × Str)} {wordOf : Addr → Str → Prop}
def tErr (K : PySem.W.Frag) (T : List (Addr × Str)) (wordOf : Addr → Str → Prop) (i : Nat) (a : Addr) (cls : Value) : TE := fun σ H Q =>
  σ[i]? = some (some (.ref a)) ∧ ∃ D wd G F μ Pd, cls = .ref D ∧ wordOf D wd ∧ Sta K ⟨T, G, F⟩ G F μ H ∧ Pd (.str wd) μ ∧ PoV K ⟨T, G, F⟩ F G Pd Q
theorem pe_err {x y n : Str} {k i : Nat} {a : Addr} {oe : Obj} {cls : Value} {pn : List (Addr × Obj)} {p1 p2 pos : Pos} (Ed : ErrD X.prog X.w X.K X.mg X.base T k x y wordOf) (hr : Room k X.A) (hg : Gl X x) (hz : L2N.Zn cls none oe) (hf : ∃ vs, oe.data = .fields vs)
    (hC : ∀ D wd, wordOf D wd → ExcC X.K D) (hN : X.N[i]? = some n) (hv : Vis X.env.scope n) (hdb : (x == ("__debug__" : Str)) = false) (hd : (n == ("__debug__" : Str)) = false) (hcd : (n == ("__classdict__" : Str)) = false) :
    PE (X.suite a ((a, oe) :: pn)) (.Call (.Name x p1) [.Name n p2] [] pos) (tErr X.K T wordOf i a cls) := by
  obtain ⟨f, fd, hm, hk, hb, run⟩ := Ed.ex
  refine ⟨fun pins s σ H Q I h => ?_⟩
  obtain ⟨hs, D, wd, G, F, μ, Pd, rfl, hw, st, hp, q⟩ := h
  refine wpAny_Call_Name_kw (ld_glob I hg hm ?_ hdb)
  have ha : PA (X.suite a ((a, oe) :: pn)) [.Name n p2] (tCons (tVar i) tNil) := pa_cons (pe_var (X := X.suite a ((a, oe) :: pn)) (i := i) hN hv hd hcd) pa_nil
  refine PySem.W.callWith_K (h₀ := X.base) I.ok.mod.kin hk (thn (ha.run pos pins s σ H (fun vs H1 => vs = [.ref a] ∧ H1 = H) I ⟨_, hs, rfl, rfl⟩) fun us s1 hh => ?_)
  obtain ⟨vs, H1, I1, r1, ev, eH⟩ := hh
  subst ev
  rw [eH] at I1
  refine ⟨I1.kIn, ?_⟩
  cases r1 with
  | cons ru rn =>
    cases rn
    cases ru
    have P1 := I1.pin (a, oe) (List.mem_append_left _ List.mem_cons_self)
    have hpin : PinOk X.stack H s1 (a, oe) := ⟨P1.1, P1.2.1, fun hm => (List.mem_cons.mp (I1.stkSub a hm)).elim P1.2.2.1 P1.2.2.2.1, P1.2.2.2.2⟩
    obtain ⟨vs, hvs⟩ := hf
    have b := hb s1 [.ref a] I1.kIn rfl
    rw [List.append_nil] at b
    have hot : Hot1 (X.suite a ((a, oe) :: pn)).A (a, oe) := ⟨rfl, vs, hvs, hz.2.2 vs hvs⟩
    have hrm : RoomH k (X.suite a ((a, oe) :: pn)).A := ⟨hr.dp, hr.un⟩
    refine wpAny_call (codeAny_mono (run _ X.stack s1 H ⟨[.ref a], []⟩ Q (fun _ _ _ => False) (a, oe) D wd G F μ Pd hrm hot hpin ⟨hC D wd hw, hz.zc, vs, hvs⟩ hw I1.env0 b st hp q) fun r s' hq => ?_)
    cases r with
    | error e =>
      obtain ⟨_, _, _, _, _, _, _, _, _, _, _, _, z⟩ := hq
      exact z.elim
    | ok fl =>
      cases fl with
      | ret u => exact I1.after hq
      | next => exact False.elim hq
      | brk => exact False.elim hq
      | cont => exact False.elim hq
end
end DL

set_option Elab.async false
set_option linter.all false
set_option maxRecDepth 100000
set_option maxHeartbeats 4000000
/-! DL10: the def that calls a lambda and tells the word of its error: its promise. -/
namespace DL
open PySem PySem.Spec PyProof.Rows L2 HT HotX L2H HotD LamX
/-- what is read of the lambda: tl is its reading -/
def RR (K : PySem.W.Frag) (T : List (Addr × Str)) (wordOf : Addr → Str → Prop) (tl : XK → Hp → VK → Prop) (H : Hp) (Q : VK) : Prop :=
  ∃ G F μ Pd, Sta K ⟨T, G, F⟩ G F μ H ∧ PoV K ⟨T, G, F⟩ F G Pd Q ∧
    tl (fun cls d H' => d = none ∧ ∃ D wd G' μ', cls = .ref D ∧ wordOf D wd ∧ Same G G' ∧ Sta K ⟨T, G, F⟩ G' F μ' H' ∧ Pd (.str wd) μ') H (fun _ H' => Q (.str "") H')
/-- such a def, as the top leaves it, with its promise -/
structure RefD (P : Program) (w : World) (K : PySem.W.Frag) (mg : Str → Option Value) (base : Heap) (T : List (Addr × Str)) (k : Nat) (x : Str) (wordOf : Addr → Str → Prop) : Prop where
  ex : ∃ (g : Addr) (pg : Arguments) (bg : List Stmt) (sg : Scope) (dV kV doc pm cdv ct oc : Value) (an od : Option Addr) (osl : Array (Option Value)) (Ng : List Str) (a : Str),
    mg x = some (.ref g) ∧ PySem.W.keepIn K (.ref g) = true ∧ K.lookup g = some ⟨oc, od, .func (PySem.W.fnOf x x pg bg sg dV kV doc pm an cdv ct), osl⟩ ∧ PySem.W.codeIn K cdv x = true ∧ Binds K (PySem.W.fnOf x x pg bg sg dV kV doc pm an cdv ct) [a] [] ∧ FnScope Ng [a] sg ∧
    Ng[0]? = some a ∧ Vis sg a ∧ (a == ("__debug__" : Str)) = false ∧ (a == ("__classdict__" : Str)) = false ∧
    ∀ (A : Around) (outer : List Env) (s : Shared) (H : Hp) (f c' : Addr) (Q : VK) (q : Str) (tl : XK → Hp → VK → Prop), Room k (A.deeper (envOfC x sg s.heap.objs.size g cdv)) →
      (∀ (W : WX) (pn : List (Addr × Obj)) (xe : Value → Shared → Prop) (E : XK) (p1 p2 : Pos), L2N.Takes ((cxOf (L2N.CX P w) P w K mg base Ng x sg g cdv A outer s H fun _ _ _ => False).tr pn xe) W →
        PE ((cxOf (L2N.CX P w) P w K mg base Ng x sg g cdv A outer s H fun _ _ _ => False).tr pn xe) (.Call (.Name a p1) [] [] p2) (fun σZ HZ Q => (∀ cls d H', E cls d H' → W cls d σZ H') ∧ σZ[0]? = some (some (.ref f)) ∧ HZ c' = some (CodeO c' q) ∧ tl E HZ Q)) →
      H c' = some (CodeO c' q) → RR K T wordOf tl H Q →
      ∃ t, PSs (cxOf (L2N.CX P w) P w K mg base Ng x sg g cdv A outer s H fun _ _ _ => False) bg t ∧ t { nx := fun _ H' => Q .non H', rt := Q } (L2.start Ng [.ref f]) H
section
variable {P : Program} {w : World} {K : PySem.W.Frag} {mg : Str → Option Value} {base : Heap} {T : List (Addr × Str)} {wordOf : Addr → Str → Prop}
theorem ref_ok {x a e n er y : Str} {st : Stmt} {Ng : List Str} {k j : Nat} {CS : Addr} {p1 p2 p3 p4 p5 p6 p7 p8 p9 p10 p11 p12 : Pos} (tp : Top K mg x st [a]) (S : FnScope Ng [a] (defScope st))
    (hbody : defBody st = [.Try [.Expr (.Call (.Name a p1) [] [] p2) p3] [.ExceptHandler (some (.Name e p4)) (some n) [.Return (some (.Call (.Name er p5) [.Name n p6] [] p7)) p8] p9] [] [] p10, .Return (some (.Constant (.str "") j p11)) p12])
    (Ed : ErrD P w K mg base T k er y wordOf) (hC : ∀ D wd, wordOf D wd → ExcC K D ∧ PySem.W.exmOne K (.ref D) (.ref CS) = some true) (hme : mg e = some (.ref CS))
    (h0 : Ng[0]? = some a) (h1 : Ng[1]? = some n) (hva : Vis (defScope st) a) (hvn : (defScope st).names.lookup n = some .local) (hge : (defScope st).names.lookup e = some .globalImplicit) (hger : (defScope st).names.lookup er = some .globalImplicit)
    (hst : ∀ f : Addr, (L2.start Ng [V.ref f])[0]? = some (some (V.ref f)) ∧ 1 < (L2.start Ng [V.ref f]).length) (hda : (a == ("__debug__" : Str)) = false := by decide) (hca : (a == ("__classdict__" : Str)) = false := by decide) (hde : (e == ("__debug__" : Str)) = false := by decide)
    (hder : (er == ("__debug__" : Str)) = false := by decide) (hdn : (n == ("__debug__" : Str)) = false := by decide) (hcn : (n == ("__classdict__" : Str)) = false := by decide) : RefD P w K mg base T k x wordOf := by
  obtain ⟨g, fd, hm, Fu, hb⟩ := tp.ex
  have kp := Fu.kp
  obtain ⟨oc, od, kV, doc, pm, an, cdv, ct, osl, rfl, lk, hcd⟩ := Fu.ex
  refine ⟨g, defArgs st, defBody st, defScope st, .none, kV, doc, pm, cdv, ct, oc, an, od, osl, Ng, a, hm, kp, lk, hcd, hb, S, h0, hva, hda, hca, fun A outer s H f c' Q q tl hr act hc h => ?_⟩
  obtain ⟨G, F, μ, Pd, st0, q0, h⟩ := h
  rw [hbody]
  refine ⟨_, pss_cons (L2N.ps_try_as (X := cxOf (L2N.CX P w) P w K mg base Ng x (defScope st) g cdv A outer s H fun _ _ _ => False) (c := .ref CS) (i := 1)
      (tb := fun W D σ H => ∃ Ech : XK, (∀ cls d H', Ech cls d H' → W cls d σ H') ∧ σ[0]? = some (some (.ref f)) ∧ H c' = some (CodeO c' q) ∧ tl Ech H (fun _ H' => D.nx σ H'))
      (ts := fun b cls d D σ H => d = none ∧ tErr K T wordOf 1 b cls σ H D.rt)
      rfl rfl S.nd h1 hvn ⟨hge, hde, .inl hme⟩ tk0 (fun W pn xe tk _ => ?_) (fun b oe cls d pn hz hf => ?_)) (pss_one (ps_ret pe_str)), ?_⟩
  · refine ⟨fun pins s' σ H' D I h' => ?_⟩
    obtain ⟨Ech, hW, k1, k2, k3⟩ := h'
    exact (pss_one (ps_expr (pos := p3) (act W pn xe Ech p1 p2 tk))).run pins s' σ H' D I ⟨hW, k1, k2, k3⟩
  · refine ⟨fun pins s' σ H' D I h' => ?_⟩
    obtain ⟨rfl, h'⟩ := h'
    exact (pss_one (ps_ret (pos := p8) (pe_err (X := cxOf (L2N.CX P w) P w K mg base Ng x (defScope st) g cdv A outer s H fun _ _ _ => False) (n := n) (p1 := p5) (p2 := p6) (pos := p7) Ed hr hger hz hf (fun D wd hw => (hC D wd hw).1) h1 (.inl hvn) hder hdn hcn))).run pins s' σ H' D I h'
  · refine ⟨fun cls d H' => d = none ∧ ∃ D wd G' μ', cls = .ref D ∧ wordOf D wd ∧ Same G G' ∧ Sta K ⟨T, G, F⟩ G' F μ' H' ∧ Pd (.str wd) μ', fun cls d H' z => ?_, (hst f).1, hc, h⟩
    obtain ⟨rfl, D, wd, G', μ', rfl, hw, sg, st1, hp⟩ := z
    refine ⟨true, (hC D wd hw).2, fun _ b nb => ⟨rfl, List.getElem?_set_self (hst f).2, D, wd, G', F, μ', Pd, rfl, hw, st1.enter, hp, ?_⟩, fun z => nomatch z⟩
    intro d μ2 v G2 H2 hp2 s2 st2 dt2
    exact q0 d μ2 v G2 H2 hp2 (sg.trans s2) (st1.back st2) dt2
end
end DL

set_option Elab.async false
set_option linter.all false
set_option maxRecDepth 100000
set_option maxHeartbeats 4000000
/-! DL11: a lambda handed on, over data; a def called that a name holds. -/
namespace DL
open PySem PySem.Spec PyProof.Rows L2 HT HotX L2H HotD LamX
/-- x(lambda: body): t is the body's program -/
def dRefused (wordOf : Addr → Str → Prop) (t : WD → TDE) : TDE := fun δ μ P => t (fun cls _ μ' => ∃ D wd, cls = .ref D ∧ wordOf D wd ∧ P (.str wd) μ') δ μ fun _ μ' => P (.str "") μ'
section
variable {X : Cx} {A : Amb} {wordOf : Addr → Str → Prop}
theorem de_refused {x : Str} {c P : Addr} {k : Nat} {params : Arguments} {body : Expr} {scope : Scope} {t : WD → TDE} {p lpos pos : Pos} (Rd : RefD X.prog X.w X.K X.mg X.base A.T (k + 1) x wordOf)
    (TB : TabB X.base X.mg c P) (hcode : X.env.code = .ref c) (hmT : (P, X.env.qual ++ "<lambda>") ∈ A.T) (hu : ∀ p ∈ A.T, p.1 = P → p.2 = X.env.qual ++ "<lambda>") (hr : Room (k + 2) X.A) (L : LamS X.env.scope scope)
    (hbody : ∀ (A' : Around) (outer : List Env) (s : Shared) (H : Hp) (E : XK) (f c' : Addr) (G0 F0 : Hp) (Wd : WD), Room k (A'.deeper (lamEnv X scope s.heap.objs.size f c')) → LinkW X.K ⟨A.T, G0, F0⟩ (fun cls d _ H => E cls d H) Wd → PE (lamCxN X A' outer s H E scope f c') body (lE X.K ⟨A.T, G0, F0⟩ (t Wd)))
    (hg : Gl X x := by rfl) (hdef : defaultsOf params X.env = ([], []) := by rfl)
    (hbind : ∀ (q : Str) (cl : List (Str × Addr)) (pm cv ctv : Value), bindArgs (PySem.W.kla_fn "<lambda>" q params body scope cl pm cv ctv) ⟨[], []⟩ = pure [] := by intros; rfl) (hdb : (x == ("__debug__" : Str)) = false := by decide) :
    PE X (.Call (.Name x p) [.Lambda params body scope lpos] [] pos) (lE X.K A (dRefused wordOf t)) := by
  obtain ⟨g, pg, bg, sg, dV, kV, doc, pm, cdv, ct, oc, an, od, osl, Ng, a, hm, hk, lk, hcg, hb, Sg, hNg, hva, hd, hcd, hG⟩ := Rd.ex
  refine ⟨fun pins s σ H Q I h => ?_⟩
  obtain ⟨G, F, μ, δ, Pd, st, e, ht, q⟩ := h
  refine wpAny_Call_Name_kw (ld_glob I hg hm ?_ hdb)
  refine PySem.W.callWith_K (h₀ := X.base) I.ok.mod.kin hk ?_ (by rfl) (by rfl)
  show wpAny _ _ (spliced ((false, eval (.Lambda params body scope lpos) X.env) :: backTo pos (starEach [] X.env))) _ _ s
  refine Calls.spliced_cons (lam_make2 I TB hcode hmT hu st.tb hdef (L.has I.ok) fun f c' pm' ctv H1 s' I1 eN T1 hf hfn hfr hco => ?_)
  refine Calls.spliced_nil ⟨I1.kIn, ?_⟩
  have st1 := st.tabs eN T1
  have rc : codeAny (model X.prog X.w) X.A (.call (.ref g) ⟨[.ref f], []⟩) (CR (L2N.CX X.prog X.w) X.stack X.prog X.w H1 s' Q fun _ _ _ => False) s' := by
    refine run_ofS (N := Ng) (ps := [a]) (us := [.ref f]) (vs := [.ref f]) lk hcg Sg hr I1.env0 (hb s' [.ref f] I1.kIn rfl) (.cons rfl .nil) rfl fun hr' => ?_
    refine hG X.A X.stack s' H1 f c' Q (X.env.qual ++ "<lambda>") (fun E HZ Q' => ∃ Wd, LinkW X.K ⟨A.T, G, F⟩ (fun cls d _ H => E cls d H) Wd ∧ lE X.K ⟨A.T, G, F⟩ (t Wd) σ HZ Q') hr'
      (fun W pn xe E p1 p2 tk => pe_actN (i := 0) (tb := fun σ H Q' => ∃ Wd, LinkW X.K ⟨A.T, G, F⟩ (fun cls d _ H => E cls d H) Wd ∧ lE X.K ⟨A.T, G, F⟩ (t Wd) σ H Q') I1 L hf hfn hfr (hbind _ _ _ _ _) tk hr' (fun A' outer s H hr2 => ⟨fun pins' s2 σ2 H2 Q2 I2 ⟨Wd, lk', h'⟩ => (hbody A' outer s H E f c' G F Wd hr2 lk').run pins' s2 σ2 H2 Q2 I2 h'⟩) hNg hva hd hcd) hco ?_
    refine ⟨G, F, μ, Pd, st1.enter, fun d μ' v G' H' hp sm st' dt => q d μ' v G' H' hp sm (st1.back st') dt, _, ?_, G, F, μ, δ, _, st1.enter, e, ht, ?_⟩
    · rintro cls σ2 δ2 μ2 G2 F2 H2 ⟨D, wd, rfl, hw, hp⟩ st2 e2
      exact ⟨rfl, D, wd, G2, μ2, rfl, hw, st2.g0, st2.lessF st2.f0 (Same.refl _), hp⟩
    · intro d μ' v G' H' hp sm st' dt
      exact q (.str "") μ' (.str "") G' H' hp sm (st1.back st') (.str _)
  refine wpAny_call (codeAny_mono rc fun r s2 hq => ?_)
  cases r with
  | error e =>
    obtain ⟨_, _, _, _, _, _, _, _, _, _, _, _, z⟩ := hq
    exact z.elim
  | ok fl =>
    cases fl with
    | ret u => exact I1.after hq
    | next => exact False.elim hq
    | brk => exact False.elim hq
    | cont => exact False.elim hq
/-! ### a def that a name holds -/
def dCallV (S : Addr → DSpec → Prop) (Wd : WD) (i : Nat) (tl : TDA) : TDE := fun δ μ P => ∃ f spec, δ[i]? = some (some (.ref f)) ∧ S f spec ∧ tl δ μ fun ds μ1 => spec ds μ1 P fun cls μ2 => Wd cls δ μ2
/-- what the table tells of defs -/
def Holds (P : Program) (w : World) (K : PySem.W.Frag) (mg : Str → Option Value) (base : Heap) (T : List (Addr × Str)) (k : Nat) (S : Addr → DSpec → Prop) : Prop :=
  ∀ f spec, S f spec → PySem.W.keepIn K (.ref f) = true ∧ ∃ fd ps, Binds K fd ps [] ∧ FnOk P w K mg base (L2N.CX P w) k f fd ps (spD K T spec)
theorem de_callV {S : Addr → DSpec → Prop} {Wd : WD} {W : WX} {tl : TDA} {k i : Nat} {n : Str} {p pos : Pos} {e : Expr} {es : List Expr} (hS : Holds X.prog X.w X.K X.mg X.base A.T k S) (hr : Room k X.A) (tk : L2N.Takes X W) (lk : LinkW X.K A W Wd) (ha : PA X (e :: es) (lA X.K A tl))
    (hN : X.N[i]? = some n := by rfl) (hv : Vis X.env.scope n := by first | exact Or.inl rfl | exact Or.inr (Or.inl rfl) | exact Or.inr (Or.inr rfl)) (hd : (n == ("__debug__" : Str)) = false := by decide) (hcd : (n == ("__classdict__" : Str)) = false := by decide)
    (he : starEach (e :: es) X.env = (false, eval e X.env) :: starEach es X.env := by rfl) (hpl : (backTo pos (starEach es X.env)).any (·.1) = false := by rfl) : PE X (.Call (.Name n p) (e :: es) [] pos) (lE X.K A (dCallV S Wd i tl)) := by
  refine ⟨fun pins s σ H Q I h => ?_⟩
  obtain ⟨G, F, μ, δ, P, st, e0, ⟨f, spec, hi, hs, t⟩, q⟩ := h
  obtain ⟨v0, hσ, dv⟩ := e0.get hi
  cases dv
  obtain ⟨hk, fd, ps, hb, Fn⟩ := hS f spec hs
  refine wpAny_Call_Name_kw (thn ((pe_var (pos := p) (i := i) hN hv hd hcd).run pins s σ H (fun v H1 => v = .ref f ∧ H1 = H) I ⟨_, hσ, rfl, rfl⟩) fun u s1 ⟨v, H1, I1, r1, q1⟩ => ?_)
  obtain ⟨ev, eH⟩ := q1
  subst ev
  rw [eH] at I1
  obtain rfl : u = Value.ref f := r1
  refine PySem.W.callWith_K (h₀ := X.base) I1.ok.mod.kin hk (thn (ha.run pos pins s1 σ H (fun vs H2 => spD X.K A.T spec vs H2 Q (WE W σ)) I1 ⟨G, F, μ, δ, _, st, e0, t, fun ds μ1 vs G1 H1 t1 s1 st1 dt1 => ?_⟩) fun us s2 ⟨vs, H2, I2, r2, q2⟩ => ⟨I2.kIn, ?_⟩) he hpl
  · exact ⟨G1, F, μ1, ds, P, _, st1.enter, dt1, t1, fun d μ2 v G2 H2 t2 s2 st2 dt2 => q _ _ _ _ _ t2 (s1.trans s2) (st1.back st2) dt2, fun cls μ2 G2 H2 t2 st2 => lk cls σ δ μ2 G2 F H2 t2 (st1.back st2) (e0.mono (s1.trans st2.g0))⟩
  · exact run_fnS Fn hr hb (L2N.passAt tk σ) I2 r2 q2
end
end DL

set_option Elab.async false
set_option linter.all false
set_option maxRecDepth 100000
set_option maxHeartbeats 4000000
/-! SP9: the words of errors. -/
namespace GF
open PySem PySem.Spec PyProof.Rows L2 HT DL
def wordA (a : Ads) (D : Addr) (wd : Str) : Prop := ∃ x, (x, wd) ∈ words ∧ D = a.c x
def heldS (a : Ads) (f : Addr) (S : DSpec) : Prop := (f = a.f "after" ∧ S = sp_after a) ∨ (f = a.f "order" ∧ S = sp_order a)
def td_law_by_two (a : Ads) : WD → TDS := fun Wd => (dRet (dRefused (wordA a) fun Wl => (dCallV (heldS a) Wl 0 (dCons (dVar 1) (dCons (dVar 2) dNil)))))
def td_law_by_four (a : Ads) : WD → TDS := fun Wd => (dRet (dRefused (wordA a) fun Wl => (dCallV (heldS a) Wl 0 (dCons (dVar 1) (dCons (dVar 2) (dCons (dVar 3) (dCons (dVar 4) dNil)))))))
def td_law_error (a : Ads) (e : Addr) (g : Addr → Option Bool) : TDS := (dSeq (dAsg (dLst (dCons (dTup (dCons (dC (.str "flip")) (dCons (dCall (dIsP e g) (dCons (dVar 0) (dCons (dC (.ref (a.c "InvalidFlip"))) dNil))) dNil))) (dCons (dTup (dCons (dC (.str "script")) (dCons (dCall (dIsP e g) (dCons (dVar 0) (dCons (dC (.ref (a.c "InvalidScript"))) dNil))) dNil))) dNil))) (dgN 1)) (dSeq (dAsg (dBin dAdd (dVar 1) (dLst (dCons (dTup (dCons (dC (.str "height")) (dCons (dCall (dIsP e g) (dCons (dVar 0) (dCons (dC (.ref (a.c "InvalidHeight"))) dNil))) dNil))) (dCons (dTup (dCons (dC (.str "place")) (dCons (dCall (dIsP e g) (dCons (dVar 0) (dCons (dC (.ref (a.c "InvalidPlace"))) dNil))) dNil))) dNil)))) (dgN 1)) (dSeq (dAsg (dBin dAdd (dVar 1) (dLst (dCons (dTup (dCons (dC (.str "number")) (dCons (dCall (dIsP e g) (dCons (dVar 0) (dCons (dC (.ref (a.c "InvalidNumber"))) dNil))) dNil))) (dCons (dTup (dCons (dC (.str "index")) (dCons (dCall (dIsP e g) (dCons (dVar 0) (dCons (dC (.ref (a.c "InvalidIndex"))) dNil))) dNil))) dNil)))) (dgN 1)) (dSeq (dAsg (dBin dAdd (dVar 1) (dLst (dCons (dTup (dCons (dC (.str "stack")) (dCons (dCall (dIsP e g) (dCons (dVar 0) (dCons (dC (.ref (a.c "InvalidStack"))) dNil))) dNil))) (dCons (dTup (dCons (dC (.str "unlike")) (dCons (dCall (dIsP e g) (dCons (dVar 0) (dCons (dC (.ref (a.c "Unlike"))) dNil))) dNil))) dNil)))) (dgN 1)) (dSeq (dAsg (dBin dAdd (dVar 1) (dLst (dCons (dTup (dCons (dC (.str "undo")) (dCons (dCall (dIsP e g) (dCons (dVar 0) (dCons (dC (.ref (a.c "NothingToUndo"))) dNil))) dNil))) (dCons (dTup (dCons (dC (.str "many")) (dCons (dCall (dIsP e g) (dCons (dVar 0) (dCons (dC (.ref (a.c "TooMany"))) dNil))) dNil))) dNil)))) (dgN 1)) (dSeq (dAsg (dBin dAdd (dVar 1) (dLst (dCons (dTup (dCons (dC (.str "text")) (dCons (dCall (dIsP e g) (dCons (dVar 0) (dCons (dC (.ref (a.c "InvalidText"))) dNil))) dNil))) dNil))) (dgN 1)) (dRet (dJoin (dC (.str " ")) (dLc (diLst (dVar 1)) (dgT 2 (dgNs [2, 3])) (dB (dVar 3)) (dVar 2) [2, 3])))))))))
theorem ref_mono {a : Ads} {S : DSpec} {ds μ P Pe} (hm : ∀ {P P' : DK} {Pe Pe' : Value → Mu → Prop}, (∀ d μ, P d μ → P' d μ) → (∀ c μ, Pe c μ → Pe' c μ) → S ds μ P Pe → S ds μ P' Pe') (h : refSpec a S ds μ P Pe) :
    S ds μ (fun _ μ => P (.str "") μ) (fun cls μ => ∃ D wd, cls = .ref D ∧ wordA a D wd ∧ P (.str wd) μ) :=
  hm (fun _ _ h => h) (fun c μ ⟨w, ⟨x, hx, e⟩, h⟩ => ⟨a.c x, w, e, ⟨x, hx, rfl⟩, h⟩) h
theorem after_mono {a : Ads} {ds μ} {P P' : DK} {Pe Pe' : Value → Mu → Prop} (h1 : ∀ d μ, P d μ → P' d μ) (h2 : ∀ c μ, Pe c μ → Pe' c μ) (h : sp_after a ds μ P Pe) : sp_after a ds μ P' Pe' := by
  obtain ⟨d, dn, dp, dr, e, o1, o2, o3, o4, h⟩ := h
  refine ⟨d, dn, dp, dr, e, o1, o2, o3, o4, ?_⟩
  rcases h with ⟨z, h⟩ | ⟨s, z1, z2, z3, h⟩
  · exact .inl ⟨z, h2 _ _ h⟩
  refine .inr ⟨s, z1, z2, z3, ?_⟩
  rcases h with ⟨z, h⟩ | ⟨n, z1, z2, z3, h⟩
  · exact .inl ⟨z, h2 _ _ h⟩
  refine .inr ⟨n, z1, z2, z3, ?_⟩
  rcases h with ⟨z, h⟩ | ⟨p, z1, z2, z3, h⟩
  · exact .inl ⟨z, h2 _ _ h⟩
  refine .inr ⟨p, z1, z2, z3, ?_⟩
  rcases h with ⟨z, h⟩ | ⟨r, z1, z2, z3, h⟩
  · exact .inl ⟨z, h2 _ _ h⟩
  exact .inr ⟨r, z1, z2, z3, h1 _ _ h⟩
theorem order_mono {a : Ads} {ds μ} {P P' : DK} {Pe Pe' : Value → Mu → Prop} (h1 : ∀ d μ, P d μ → P' d μ) (h2 : ∀ c μ, Pe c μ → Pe' c μ) (h : sp_order a ds μ P Pe) : sp_order a ds μ P' Pe' := by
  obtain ⟨d, dn, e, o1, o2, h⟩ := h
  refine ⟨d, dn, e, o1, o2, ?_⟩
  rcases h with ⟨z, h⟩ | ⟨s, z1, z2, z3, h⟩
  · exact .inl ⟨z, h2 _ _ h⟩
  refine .inr ⟨s, z1, z2, z3, ?_⟩
  rcases h with ⟨z, h⟩ | ⟨n, z1, z2, z3, h⟩
  · exact .inl ⟨z, h2 _ _ h⟩
  exact .inr ⟨n, z1, z2, z3, h1 _ _ h⟩
theorem se_law_by_two (a : Ads) {ds μ P Pe} (h : sp_law_by_two a ds μ P Pe) : td_law_by_two a (fun cls _ μ => Pe cls μ) (EE P) (startD ["_law_call", "_law_one", "_law_other"] ds) μ := by
  obtain ⟨d1, d2, rfl, h⟩ := h
  exact ⟨a.f "order", sp_order a, rfl, .inr ⟨rfl, rfl⟩, ref_mono (S := sp_order a) order_mono h⟩
theorem se_law_by_four (a : Ads) {ds μ P Pe} (h : sp_law_by_four a ds μ P Pe) : td_law_by_four a (fun cls _ μ => Pe cls μ) (EE P) (startD ["_law_call", "_law_one", "_law_other", "_law_third", "_law_last"] ds) μ := by
  obtain ⟨d1, d2, d3, d4, rfl, h⟩ := h
  exact ⟨a.f "after", sp_after a, rfl, .inl ⟨rfl, rfl⟩, ref_mono (S := sp_after a) after_mono h⟩
/-- the classes are told apart -/
def Apart (a : Ads) (g : Addr → Addr → Option Bool) : Prop := ∀ x ∈ words, ∀ y ∈ words, g (a.c x.1) (a.c y.1) = some (decide (x.1 = y.1))
def itemW (e : Addr) (g : Addr → Option Bool) (w : Str) (c : Addr) : TDE := dTup (dCons (dC (.str w)) (dCons (dCall (dIsP e g) (dCons (dVar 0) (dCons (dC (.ref c)) dNil))) dNil))
def pairW (q : Str × Bool) : D := .tup [.str q.1, .bl q.2]
section
variable {e : Addr} {g : Addr → Option Bool} {δ : Nv} {μ : Mu} {P : DK} {w1 w2 : Str} {c1 c2 : Addr} {b1 b2 : Bool}
theorem item_ev (h0 : δ[0]? = some (some (.ref e))) (hg : g c1 = some b1) (h : P (pairW (w1, b1)) μ) : itemW e g w1 c1 δ μ P := by
  simp only [itemW, dTup, dCons, dNil, dC, dCall, dVar, h0, dIsP, hg, true_and]
  exact ⟨two_line, h⟩
theorem two_ev (h0 : δ[0]? = some (some (.ref e))) (h1 : g c1 = some b1) (h2 : g c2 = some b2) (h : P (.lst [pairW (w1, b1), pairW (w2, b2)]) μ) : dLst (dCons (itemW e g w1 c1) (dCons (itemW e g w2 c2) dNil)) δ μ P := by
  simp only [dLst, dCons, dNil]
  refine item_ev h0 h1 ?_
  refine item_ev h0 h2 ?_
  exact ⟨two_line, h⟩
theorem one_ev (h0 : δ[0]? = some (some (.ref e))) (h1 : g c1 = some b1) (h : P (.lst [pairW (w1, b1)]) μ) : dLst (dCons (itemW e g w1 c1) dNil) δ μ P := by
  simp only [dLst, dCons, dNil]
  refine item_ev h0 h1 ?_
  have := two_line
  exact ⟨by show (1 : Nat) ≤ _; omega, h⟩
theorem add2_ev {ws : List (Str × Bool)} (hn : ws.length ≤ 100) (h0 : δ[0]? = some (some (.ref e))) (hw : δ[1]? = some (some (.lst (ws.map pairW)))) (h1 : g c1 = some b1) (h2 : g c2 = some b2) (h : P (.lst ((ws ++ [(w1, b1), (w2, b2)]).map pairW)) μ) :
    dBin dAdd (dVar 1) (dLst (dCons (itemW e g w1 c1) (dCons (itemW e g w2 c2) dNil))) δ μ P := by
  simp only [dBin, dVar, hw]
  refine two_ev h0 h1 h2 ?_
  have := small_line
  refine ⟨by rw [List.length_map]; show ws.length + 2 ≤ _; omega, ?_⟩
  rw [List.map_append] at h
  exact h
theorem add1_ev {ws : List (Str × Bool)} (hn : ws.length ≤ 100) (h0 : δ[0]? = some (some (.ref e))) (hw : δ[1]? = some (some (.lst (ws.map pairW)))) (h1 : g c1 = some b1) (h : P (.lst ((ws ++ [(w1, b1)]).map pairW)) μ) :
    dBin dAdd (dVar 1) (dLst (dCons (itemW e g w1 c1) dNil)) δ μ P := by
  simp only [dBin, dVar, hw]
  refine one_ev h0 h1 ?_
  have := small_line
  refine ⟨by rw [List.length_map]; show ws.length + 1 ≤ _; omega, ?_⟩
  rw [List.map_append] at h
  exact h
theorem filt_ev {x0 x1 : Option D} {Z : List D → Mu → Prop} : ∀ (ws : List (Str × Bool)) (acc : List Str), acc.length + ws.length ≤ 100 → Z ((acc ++ (ws.filter (·.2)).map (·.1)).map .str) μ →
    dLcD (dgT 2 (dgNs [2, 3])) (dB (dVar 3)) (dVar 2) [x0, x1, none, none] Z (ws.map pairW) (acc.map .str) μ
  | [], acc, _, h => by
    have h : Z ((acc ++ []).map .str) μ := h
    rw [List.append_nil] at h
    exact h
  | (w, b) :: ws, acc, hn, h => by
    rw [List.length_cons] at hn
    rw [List.map_cons]
    unfold dLcD
    simp only [pairW, dgT, dgNs, dgCons, dgNil, dgN, dB, dVar, List.length_cons, List.length_nil, List.getElem?_cons_zero, List.getElem?_cons_succ, List.set_cons_zero, List.set_cons_succ, true_and]
    cases b with
    | true =>
      simp only [if_true]
      have := small_line
      refine ⟨by rw [List.length_map]; omega, ?_⟩
      have e1 : acc.map DL.D.str ++ [DL.D.str w] = (acc ++ [w]).map .str := by rw [List.map_append]; rfl
      rw [e1]
      refine filt_ev ws (acc ++ [w]) (by rw [List.length_append, List.length_singleton]; omega) ?_
      rw [List.append_assoc]
      exact h
    | false =>
      simp only [Bool.false_eq_true, if_false]
      exact filt_ev ws acc (by omega) h
end
theorem join1 (w : Str) : Txt.join " " [w] = w := by
  rw [TL.join_eq]
  rfl
theorem words_told : ∀ q ∈ words, (((words.map fun y => (y.2, decide (q.1 = y.1))).filter (·.2)).map (·.1)) = [q.2] := by decide +kernel
theorem words_short : ∀ q ∈ words, q.2.length ≤ 100 := by decide +kernel
theorem se_law_error (a : Ads) {g : Addr → Addr → Option Bool} (hg : Apart a g) (e D : Addr) (wd : Str) (μ : Mu) (Pd : DK) (hw : wordA a D wd) (h : Pd (.str wd) μ) : td_law_error a e (fun c => g D c) { nx := fun _ μ => Pd .non μ, rt := Pd } (startD ["_law_e", "_law_some", "_law_word_so", "_law_good"] [.ref e]) μ := by
  obtain ⟨x, hx, rfl⟩ := hw
  have hz := small_line
  have hgx := hg _ hx
  show td_law_error a e _ _ [some (.ref e), none, none, none] μ
  have f1 := hgx ("InvalidFlip", "flip") (by decide)
  have f2 := hgx ("InvalidScript", "script") (by decide)
  have f3 := hgx ("InvalidHeight", "height") (by decide)
  have f4 := hgx ("InvalidPlace", "place") (by decide)
  have f5 := hgx ("InvalidNumber", "number") (by decide)
  have f6 := hgx ("InvalidIndex", "index") (by decide)
  have f7 := hgx ("InvalidStack", "stack") (by decide)
  have f8 := hgx ("Unlike", "unlike") (by decide)
  have f9 := hgx ("NothingToUndo", "undo") (by decide)
  have f10 := hgx ("TooMany", "many") (by decide)
  have f11 := hgx ("InvalidText", "text") (by decide)
  dsimp only at f1 f2 f3 f4 f5 f6 f7 f8 f9 f10 f11
  obtain ⟨b1, h1⟩ : ∃ b, b = decide (x = ("InvalidFlip" : Str)) := ⟨_, rfl⟩
  rw [← h1] at f1
  obtain ⟨b2, h2⟩ : ∃ b, b = decide (x = ("InvalidScript" : Str)) := ⟨_, rfl⟩
  rw [← h2] at f2
  obtain ⟨b3, h3⟩ : ∃ b, b = decide (x = ("InvalidHeight" : Str)) := ⟨_, rfl⟩
  rw [← h3] at f3
  obtain ⟨b4, h4⟩ : ∃ b, b = decide (x = ("InvalidPlace" : Str)) := ⟨_, rfl⟩
  rw [← h4] at f4
  obtain ⟨b5, h5⟩ : ∃ b, b = decide (x = ("InvalidNumber" : Str)) := ⟨_, rfl⟩
  rw [← h5] at f5
  obtain ⟨b6, h6⟩ : ∃ b, b = decide (x = ("InvalidIndex" : Str)) := ⟨_, rfl⟩
  rw [← h6] at f6
  obtain ⟨b7, h7⟩ : ∃ b, b = decide (x = ("InvalidStack" : Str)) := ⟨_, rfl⟩
  rw [← h7] at f7
  obtain ⟨b8, h8⟩ : ∃ b, b = decide (x = ("Unlike" : Str)) := ⟨_, rfl⟩
  rw [← h8] at f8
  obtain ⟨b9, h9⟩ : ∃ b, b = decide (x = ("NothingToUndo" : Str)) := ⟨_, rfl⟩
  rw [← h9] at f9
  obtain ⟨b10, h10⟩ : ∃ b, b = decide (x = ("TooMany" : Str)) := ⟨_, rfl⟩
  rw [← h10] at f10
  obtain ⟨b11, h11⟩ : ∃ b, b = decide (x = ("InvalidText" : Str)) := ⟨_, rfl⟩
  rw [← h11] at f11
  unfold td_law_error
  simp only [dSeq, dAsg]
  refine two_ev rfl f1 f2 ?_
  try simp only [dgN, dSeq, dAsg, List.set_cons_zero, List.set_cons_succ]
  refine add2_ev (ws := [("flip", b1), ("script", b2)]) (by simp only [List.length_cons, List.length_nil]; omega) rfl rfl f3 f4 ?_
  try simp only [dgN, dSeq, dAsg, List.set_cons_zero, List.set_cons_succ]
  refine add2_ev (ws := [("flip", b1), ("script", b2), ("height", b3), ("place", b4)]) (by simp only [List.length_cons, List.length_nil]; omega) rfl rfl f5 f6 ?_
  try simp only [dgN, dSeq, dAsg, List.set_cons_zero, List.set_cons_succ]
  refine add2_ev (ws := [("flip", b1), ("script", b2), ("height", b3), ("place", b4), ("number", b5), ("index", b6)]) (by simp only [List.length_cons, List.length_nil]; omega) rfl rfl f7 f8 ?_
  try simp only [dgN, dSeq, dAsg, List.set_cons_zero, List.set_cons_succ]
  refine add2_ev (ws := [("flip", b1), ("script", b2), ("height", b3), ("place", b4), ("number", b5), ("index", b6), ("stack", b7), ("unlike", b8)]) (by simp only [List.length_cons, List.length_nil]; omega) rfl rfl f9 f10 ?_
  try simp only [dgN, dSeq, dAsg, List.set_cons_zero, List.set_cons_succ]
  refine add1_ev (ws := [("flip", b1), ("script", b2), ("height", b3), ("place", b4), ("number", b5), ("index", b6), ("stack", b7), ("unlike", b8), ("undo", b9), ("many", b10)]) (by simp only [List.length_cons, List.length_nil]; omega) rfl rfl f11 ?_
  try simp only [dgN, dRet, dJoin, dC, dLc, diLst, dVar, wipeD, List.set_cons_zero, List.set_cons_succ, List.getElem?_cons_zero, List.getElem?_cons_succ]
  refine filt_ev [("flip", b1), ("script", b2), ("height", b3), ("place", b4), ("number", b5), ("index", b6), ("stack", b7), ("unlike", b8), ("undo", b9), ("many", b10), ("text", b11)] [] (by simp only [List.length_cons, List.length_nil]; omega) ?_
  have k := words_told (x, wd) hx
  have k2 : wd.length ≤ 100 := words_short (x, wd) hx
  subst h1 h2 h3 h4 h5 h6 h7 h8 h9 h10 h11
  refine ⟨[wd], congrArg (List.map DL.D.str) (show [] ++ _ = _ from k), ?_, ?_⟩
  · have e1 : (Str.ofString " ").length = 1 := by decide
    rw [e1]
    show wd.length + 0 + 1 * 1 ≤ _
    omega
  · rw [join1]
    exact h
end GF

set_option Elab.async false
set_option linter.all false
set_option maxRecDepth 100000
set_option maxHeartbeats 4000000
/-! DL12: defs that make lambdas; the law's promise at the end. -/
namespace DL
open PySem PySem.Spec PyProof.Rows L2 HT HotX L2H HotD LamX
/-- a def whose code object is known -/
structure TopL (K : PySem.W.Frag) (mg : Str → Option Value) (x : Str) (st : Stmt) (ps : List Str) (c : Addr) : Prop where
  ex : ∃ (f : Addr) (fd : FuncData), mg x = some (.ref f) ∧ Fun K x x st f fd ∧ Binds K fd ps [] ∧ fd.code = .ref c
section
variable {P : Program} {w : World} {K : PySem.W.Frag} {mg : Str → Option Value} {base : Heap}
theorem fn_okL {x qual : Str} {st : Stmt} {f c : Addr} {fd : FuncData} {N ps : List Str} {k : Nat} {T : List (Addr × Str)} {spec : DSpec} {t : WD → TDS} (Fu : Fun K x qual st f fd) (hc : fd.code = .ref c) (S : FnScope N ps (defScope st))
    (hbody : ∀ (cdv : Value) (A0 : Around) (outer : List Env) (s : Shared) (H : Hp) (E : XK) (G0 F0 : Hp) (Wd : WD), cdv = .ref c → Room k (A0.deeper (envOfC qual (defScope st) s.heap.objs.size f cdv)) → LinkW K ⟨T, G0, F0⟩ (fun cls d _ H => E cls d H) Wd →
      PSs (cxOf (L2N.CX P w) P w K mg base N qual (defScope st) f cdv A0 outer s H E) (defBody st) (lS K ⟨T, G0, F0⟩ (t Wd)))
    (len : ∀ ds μ P Pe, spec ds μ P Pe → ds.length = ps.length)
    (sem : ∀ ds μ P Pe, spec ds μ P Pe → t (fun cls _ μ => Pe cls μ) { nx := fun _ μ => P .non μ, rt := P } (startD N ds) μ) : FnOk P w K mg base (L2N.CX P w) (k + 1) f fd ps (spD K T spec) := by
  have len' : ∀ vs H Q E, spD K T spec vs H Q E → vs.length = ps.length := fun vs H Q E h => by
    obtain ⟨G, F, μ, ds, P, Pe, s, d, h, _⟩ := h
    rw [d.length]; exact len _ _ _ _ h
  obtain ⟨oc, od, kV, doc, pm, an, cdv, ct, osl, rfl, lk, hcd⟩ := Fu.ex
  have hcd2 : cdv = .ref c := hc
  refine fn_of lk hcd S len' fun A0 outer s H vs Q E hr hsp => ?_
  obtain ⟨G, F, μ, ds, P', Pe, st, d, h, q, qe⟩ := hsp
  refine ⟨_, hbody cdv A0 outer s H E G F (fun cls _ μ => Pe cls μ) hcd2 hr (fun cls σ δ μ' G' F' H' hw st' e' => qe cls μ' G' H' hw (st'.lessF (F' := F) st'.f0 (Same.refl _))), ?_⟩
  refine ⟨G, F, μ, startD N ds, _, st, ?_, sem ds μ P' Pe h, ⟨fun δ μ' σ G' H' z s' st' e' => q _ _ _ _ _ z s' st' .non, q, fun _ _ _ _ _ z => z.elim, fun _ _ _ _ _ z => z.elim⟩⟩
  unfold startD L2.start
  rw [← d.length]
  exact EnvR.of_args _ d
theorem def_okL {x : Str} {st : Stmt} {N ps : List Str} {k : Nat} {c : Addr} {T : List (Addr × Str)} {spec : DSpec} {t : WD → TDS} (tp : TopL K mg x st ps c) (S : FnScope N ps (defScope st))
    (hbody : ∀ (f : Addr) (cdv : Value) (A0 : Around) (outer : List Env) (s : Shared) (H : Hp) (E : XK) (G0 F0 : Hp) (Wd : WD), cdv = .ref c → Room k (A0.deeper (envOfC x (defScope st) s.heap.objs.size f cdv)) → LinkW K ⟨T, G0, F0⟩ (fun cls d _ H => E cls d H) Wd →
      PSs (cxOf (L2N.CX P w) P w K mg base N x (defScope st) f cdv A0 outer s H E) (defBody st) (lS K ⟨T, G0, F0⟩ (t Wd)))
    (len : ∀ ds μ P Pe, spec ds μ P Pe → ds.length = ps.length)
    (sem : ∀ ds μ P Pe, spec ds μ P Pe → t (fun cls _ μ => Pe cls μ) { nx := fun _ μ => P .non μ, rt := P } (startD N ds) μ) : Def P w K mg base T (k + 1) x ps spec := by
  obtain ⟨f, fd, hm, Fu, hb, hc⟩ := tp.ex
  exact ⟨f, fd, hm, Fu.kp, hb, fn_okL Fu hc S (hbody f) len sem⟩
end
theorem held_of {P : Program} {w : World} {K : PySem.W.Frag} {mg : Str → Option Value} {base : Heap} {T : List (Addr × Str)} {k : Nat} {x : Str} {ps : List Str} {spec : DSpec} {f : Addr} (D : Def P w K mg base T k x ps spec) (v : mg x = some (.ref f)) :
    PySem.W.keepIn K (.ref f) = true ∧ ∃ fd ps, Binds K fd ps [] ∧ FnOk P w K mg base (L2N.CX P w) k f fd ps (spD K T spec) := by
  obtain ⟨f', fd, hm, hk, hb, ok⟩ := D.ex
  rw [v] at hm
  cases hm
  exact ⟨hk, fd, ps, hb, ok⟩
/-- a def from what the written part tells -/
theorem top_mk {K : PySem.W.Frag} {mg : Str → Option Value} {h : Heap} {x : Str} {st : Stmt} {ps : List Str} {f : Addr} {od an : Option Addr} {osl : Array (Option Value)} {oc kV doc pm cdv ct : Value} (X : K.In h) (G : h.Ns mainGlobals mg) (a : PySem.W.nsIn K mainGlobals x = some (some (.ref f)))
    (l : K.lookup f = some ⟨oc, od, .func (PySem.W.fnOf x x (defArgs st) (defBody st) (defScope st) .none kV doc pm an cdv ct), osl⟩) (c : PySem.W.codeIn K cdv x = true) (k : PySem.W.keepIn K (.ref f) = true)
    (hb : ∀ (kV doc pm : Value) (an : Option Addr) (cdv ct : Value) (us : List Value), us.length = ps.length → bindArgs (PySem.W.fnOf x x (defArgs st) (defBody st) (defScope st) .none kV doc pm an cdv ct) ⟨us, []⟩ = pure (ps.zip us)) : Top K mg x st ps :=
  ⟨f, _, PySem.W.mg_of X G a, fun_mk l c k, (fun_mk l c k).binds hb⟩
theorem top_mkL {K : PySem.W.Frag} {mg : Str → Option Value} {h : Heap} {x : Str} {st : Stmt} {ps : List Str} {f c0 : Addr} {od an : Option Addr} {osl : Array (Option Value)} {oc kV doc pm ct : Value} (X : K.In h) (G : h.Ns mainGlobals mg) (a : PySem.W.nsIn K mainGlobals x = some (some (.ref f)))
    (l : K.lookup f = some ⟨oc, od, .func (PySem.W.fnOf x x (defArgs st) (defBody st) (defScope st) .none kV doc pm an (.ref c0) ct), osl⟩) (c : PySem.W.codeIn K (.ref c0) x = true) (k : PySem.W.keepIn K (.ref f) = true)
    (hb : ∀ (kV doc pm : Value) (an : Option Addr) (cdv ct : Value) (us : List Value), us.length = ps.length → bindArgs (PySem.W.fnOf x x (defArgs st) (defBody st) (defScope st) .none kV doc pm an cdv ct) ⟨us, []⟩ = pure (ps.zip us)) : TopL K mg x st ps c0 :=
  ⟨f, _, PySem.W.mg_of X G a, fun_mk l c k, (fun_mk l c k).binds hb, rfl⟩
/-! ### the law's own call -/
/-- what stands at the start: all but the tables -/
def standG (H : Hp) : Hp := fun b => match H b with
  | some (.tbl _) => none
  | o => o
theorem standG_of {H : Hp} {b : Addr} {o : HO} (h : H b = some o) (n : ∀ ps, o ≠ .tbl ps) : standG H b = some o := by
  unfold standG
  rw [h]
  cases o <;> first | rfl | exact absurd rfl (n _)
theorem standG_le {H : Hp} {b : Addr} {o : HO} (h : standG H b = some o) : H b = some o ∧ ∀ ps, o ≠ .tbl ps := by
  unfold standG at h
  cases e : H b with
  | none => rw [e] at h; cases h
  | some u =>
    rw [e] at h
    cases u <;> first | (cases h; exact ⟨rfl, fun ps z => nomatch z⟩) | cases h
theorem sta_start {K : PySem.W.Frag} {T : List (Addr × Str)} {H : Hp} (hT : ∀ p ∈ T, H p.1 = some (.tbl #[])) : Sta K ⟨T, standG H, fun _ => none⟩ (standG H) (fun _ => none) (fun _ => none) H where
  g0 := Same.refl _
  f0 := Same.refl _
  gh := fun b o h => (standG_le h).1
  fh := fun b o h => nomatch h
  gf := fun _ _ _ => rfl
  gm := fun _ _ _ => rfl
  fm := fun b o h => nomatch h
  mo := fun a m h => nomatch h
  tb := fun p hp => TabS.nil (hT p hp)
  gt := fun b ps z => (standG_le z).2 ps rfl
  ft := fun b ps z => nomatch z
theorem sql_start {K : PySem.W.Frag} {H : Hp} {a : Addr} {xs : List V} (h : SqL K H a xs) : SqL K (standG H) a xs := by
  rcases h with (h | ⟨o, h⟩) | h
  · exact .inl (.inl (standG_of h fun ps z => nomatch z))
  · exact .inl (.inr ⟨o, standG_of h fun ps z => nomatch z⟩)
  · exact .inr h
theorem sp_start {K : PySem.W.Frag} {T : List (Addr × Str)} {spec : DSpec} {H : Hp} {a : Addr} {ns : List Int} (hT : ∀ p ∈ T, H p.1 = some (.tbl #[])) (hS : SqL K H a (ns.map V.int)) (h : ∀ μ, spec [.ils ns] μ (fun d _ => d = .bl true) fun _ _ => False) :
    spD K T spec [.ref a] H (fun v _ => v = .bl true) fun _ _ _ => False :=
  ⟨standG H, fun _ => none, fun _ => none, [.ils ns], fun d _ => d = .bl true, fun _ _ => False, sta_start hT, .cons (.ils (sql_start hS)) .nil, h _, fun d μ' v G' H' hd _ _ dt => by
    subst hd
    cases dt
    rfl, fun _ _ _ _ z => z.elim⟩
/-- the end, what is loose being known as well -/
theorem walk_ofX {l : PySem.W.OpenLaw} {n k : Nat} {q : Program} {loose : List Str} {XP : (Str → Option Value) → Heap → Prop} {YP : World → Heap → Prop} {d : DefRec} {K : Params → PySem.W.Frag} {CX : World → CXT} {x : Str}
    (hn : l.most = some n) (hn2 : n ≤ sizeLine) (hdf : d.params.defaults = []) (hr : Room k callerA) (hY : ∀ (w : World) (h : Heap), YP w h → (K w.params).In h)
    (F : ∀ (w : World) (mg : Str → Option Value) (fa : Addr) (h : Heap), XP mg h → YP w h → (K w.params).In h → h.Ns mainGlobals mg → mg d.name = some (.ref fa) → LawAtS l w (K w.params) (CX w) k n x mg fa h)
    (hCX : ∀ (w : World) (H : Hp) (s : Shared) (e : Value) (s' : Shared), CX w [] H s (fun _ _ _ => False) e s' → False) :
    PySem.W.WalkO q loose XP YP l.row.toRowW d [] (fun f vs => PySem.call f vs) := by
  refine Att.attach_callB hn hdf fun w s₀ s₁ mg mb fa o pm cd doc a vs ns G Y ho hd hcd hmg hobj hints hlen hbits hg => ?_
  have KX := hY w _ Y
  obtain ⟨fd, cs, sp, hT, nT, C, hb, hsp, hF⟩ := F w mg fa _ G.X Y KX G.T.g hmg
  exact law_callTs KX G.T.g G.T.b G.T.builtins G.T.nolimit hg hT nT C G.T.bmain hobj hints (Nat.le_trans hlen hn2) hr hF hb (fun H hH hS => hsp H a ns hlen hbits hH hS) fun H e s' => hCX w H s₁ e s'
end DL

set_option Elab.async false
set_option linter.all false
set_option maxRecDepth 100000
set_option maxHeartbeats 4000000
/-! DL13: what the written part tells, asked in one word. -/
namespace DL
open PySem PySem.Spec PyProof.Rows L2 HT HotX L2H HotD LamX
/-- the object that a name of the module holds -/
def refIn (K : PySem.W.Frag) (x : Str) : Addr := match PySem.W.nsIn K mainGlobals x with
  | some (some (.ref a)) => a
  | _ => 0
def isRefIn (K : PySem.W.Frag) (x : Str) : Bool := match PySem.W.nsIn K mainGlobals x with
  | some (some (.ref _)) => true
  | _ => false
theorem refIn_ok {K : PySem.W.Frag} {x : Str} (h : isRefIn K x = true) : PySem.W.nsIn K mainGlobals x = some (some (.ref (refIn K x))) := by
  unfold isRefIn at h
  unfold refIn
  split at h
  · rename_i a e
    rw [e]
  · cases h
def isIntIn (K : PySem.W.Frag) (x : Str) (i : Int) : Bool := match PySem.W.nsIn K mainGlobals x with
  | some (some (.int j _)) => j == i
  | _ => false
theorem intIn_ok {K : PySem.W.Frag} {h : Heap} {mg : Str → Option Value} {x : Str} {i : Int} (X : K.In h) (G : h.Ns mainGlobals mg) (e : isIntIn K x i = true) : ∃ t, mg x = some (.int i t) := by
  unfold isIntIn at e
  split at e
  · rename_i j t e2
    have := PySem.W.mg_of X G e2
    have e3 : j = i := beq_iff_eq.mp e
    exact ⟨t, e3 ▸ this⟩
  · cases e
def isNoneIn (K : PySem.W.Frag) (x : Str) : Bool := match PySem.W.nsIn K mainGlobals x with
  | some none => true
  | _ => false
theorem noneIn_ok {K : PySem.W.Frag} {h : Heap} {mg : Str → Option Value} {x : Str} (X : K.In h) (G : h.Ns mainGlobals mg) (e : isNoneIn K x = true) : mg x = none := by
  unfold isNoneIn at e
  split at e
  · rename_i e2
    exact PySem.W.mg_none_of X G e2
  · cases e
def blts : List Str := ["isinstance", "int", "bool", "str", "tuple", "list", "len", "abs", "min", "max", "all", "sorted", "range", "enumerate", "zip"]
theorem blt_ok {K : PySem.W.Frag} {h : Heap} {mg : Str → Option Value} (X : K.In h) (G : h.Ns mainGlobals mg) (e : (blts.all fun x => isNoneIn K x) = true) : Blt mg := by
  have k : ∀ x ∈ blts, mg x = none := fun x hx => noneIn_ok X G (List.all_eq_true.mp e x hx)
  exact ⟨k _ (by decide), k _ (by decide), k _ (by decide), k _ (by decide), k _ (by decide), k _ (by decide), k _ (by decide), k _ (by decide), k _ (by decide), k _ (by decide), k _ (by decide), k _ (by decide), k _ (by decide), k _ (by decide), k _ (by decide)⟩
/-- an exception class that the text raises -/
def excTB (K : PySem.W.Frag) (C : Addr) : Bool := PySem.W.excIn K C [.type "ValueError", .type "Exception", .type "BaseException", .type "object"] "ValueError.__new__" && PySem.W.keepIn K (.ref C) && (PySem.W.subIn K (.ref C) (.type "BaseException") == some true) && (PySem.W.typeIn K (.ref C) == some (.type "type"))
theorem excT_ok {K : PySem.W.Frag} {h : Heap} {mg : Str → Option Value} {x : Str} (X : K.In h) (G : h.Ns mainGlobals mg) (h1 : isRefIn K x = true) (e : excTB K (refIn K x) = true) : ExcT K mg x (refIn K x) := by
  unfold excTB at e
  simp only [Bool.and_eq_true, beq_iff_eq] at e
  exact ⟨PySem.W.mg_of X G (refIn_ok h1), e.1.1.1, e.1.1.2, e.1.2, e.2⟩
/-- an error class that is asked by isinstance, and caught by the class at CS -/
def excCB (K : PySem.W.Frag) (D CS : Addr) : Bool := (PySem.W.findIn K (.ref D) "__getattribute__" == some (some (.builtin "BaseException.__getattribute__"))) && (PySem.W.findIn K (.ref D) "__getattr__" == some none) && (PySem.W.subIn K (.ref D) (.type "BaseException") == some true) && PySem.W.hasDictIn K D &&
  (PySem.W.findIn K (.ref D) "__class__" == some (some (.builtin "object.__class__"))) && (PySem.W.specialIn K (.builtin "object.__class__") "__get__" == some (some (.builtin "getset_descriptor.__get__"))) && (PySem.W.takesIn K (.builtin "object.__class__") == some true) && (PySem.W.mroIn K D (.type "object") == some true) && (PySem.W.exmOne K (.ref D) (.ref CS) == some true)
theorem excC_ok {K : PySem.W.Frag} {D CS : Addr} (e : excCB K D CS = true) : ExcC K D ∧ PySem.W.exmOne K (.ref D) (.ref CS) = some true := by
  unfold excCB at e
  simp only [Bool.and_eq_true, beq_iff_eq] at e
  obtain ⟨⟨⟨⟨⟨⟨⟨⟨e1, e2⟩, e3⟩, e4⟩, e5⟩, e6⟩, e7⟩, e8⟩, e9⟩ := e
  exact ⟨⟨e1, e2, e3, e4, e5, e6, e7, e8⟩, e9⟩
theorem loose_int {p : Program} {lv : List (Str × PySem.W.WData)} {mg : Str → Option Value} {h : Heap} {x : Str} {i : Int} (X : PySem.W.XL p lv mg h) (hm : (x, PySem.W.WData.int i) ∈ lv) : ∃ t, mg x = some (.int i t) := by
  obtain ⟨v, e, r⟩ := X.2.val _ hm
  cases r with
  | int _ t => exact ⟨t, e⟩
end DL

set_option Elab.async false
set_option linter.all false
set_option maxRecDepth 100000
set_option maxHeartbeats 4000000
namespace G11
open PySem PySem.Spec PyProof.Rows L2 HT DL GF HotX L2H HotD
def topS (i : Nat) : Stmt := PySem.Challenge.pw_griddleflips_k11_whole_rounds_of_all_sta.main.body.getD i (.Pass ⟨0, 0, 0, 0⟩)
section
variable {P : Program} {w : World} {K : PySem.W.Frag} {mg : Str → Option Value} {base : Heap} {T : List (Addr × Str)}
theorem sc_is_int : FnScope ["value", "low", "high"] ["value", "low", "high"] (defScope (topS 17)) := ⟨rfl, rfl, rfl, by decide +kernel, rfl, by decide +kernel, by decide +kernel⟩
theorem dv_is_int {a : Ads} (nb : Blt mg)
    (f : Addr) (cdv : Value) (A0 : Around) (outer : List Env) (s : Shared) (H : Hp) (E : XK) (G0 F0 : Hp) (Wd : WD) (hr : Room 0 (A0.deeper (envOfC "is_int" (defScope (topS 17)) s.heap.objs.size f cdv))) (lk : LinkW K ⟨T, G0, F0⟩ (fun cls d _ H => E cls d H) Wd) :
    PSs (cxOf (L2N.CX P w) P w K mg base ["value", "low", "high"] "is_int" (defScope (topS 17)) f cdv A0 outer s H E) (defBody (topS 17)) (lS K ⟨T, G0, F0⟩ (td_is_int a Wd)) := by
  have sc := sc_is_int
  have tk := @tkD P w K mg base ["value", "low", "high"] "is_int" (defScope (topS 17)) f cdv A0 outer s H E
  have hp := @hpD P w K mg base ["value", "low", "high"] "is_int" (defScope (topS 17)) f cdv A0 outer s H E
  have hc : (cxOf (L2N.CX P w) P w K mg base ["value", "low", "high"] "is_int" (defScope (topS 17)) f cdv A0 outer s H E).calm = true := rfl
  exact (ds_one (ds_ret (de_and (de_isi nb.isinstance (de_var 0 rfl (.inl rfl)) nb.int (by decide +kernel)) (de_and (de_not (de_isi nb.isinstance (de_var 0 rfl (.inl rfl)) nb.bool (by decide +kernel))) (de_one (de_chain od_le od_le (de_var 1 rfl (.inl rfl)) (de_var 0 rfl (.inl rfl)) (de_var 2 rfl (.inl rfl))))))))
theorem sc_is_right_flip : FnScope ["value"] ["value"] (defScope (topS 18)) := ⟨rfl, rfl, rfl, by decide +kernel, rfl, by decide +kernel, by decide +kernel⟩
theorem dv_is_right_flip {a : Ads} (nb : Blt mg) (d_is_int : Def P w K mg base T 1 "is_int" ["value", "low", "high"] (sp_is_int a))
    (f : Addr) (cdv : Value) (A0 : Around) (outer : List Env) (s : Shared) (H : Hp) (E : XK) (G0 F0 : Hp) (Wd : WD) (hr : Room 1 (A0.deeper (envOfC "is_right_flip" (defScope (topS 18)) s.heap.objs.size f cdv))) (lk : LinkW K ⟨T, G0, F0⟩ (fun cls d _ H => E cls d H) Wd) :
    PSs (cxOf (L2N.CX P w) P w K mg base ["value"] "is_right_flip" (defScope (topS 18)) f cdv A0 outer s H E) (defBody (topS 18)) (lS K ⟨T, G0, F0⟩ (td_is_right_flip a Wd)) := by
  have sc := sc_is_right_flip
  have tk := @tkD P w K mg base ["value"] "is_right_flip" (defScope (topS 18)) f cdv A0 outer s H E
  have hp := @hpD P w K mg base ["value"] "is_right_flip" (defScope (topS 18)) f cdv A0 outer s H E
  have hc : (cxOf (L2N.CX P w) P w K mg base ["value"] "is_right_flip" (defScope (topS 18)) f cdv A0 outer s H E).calm = true := rfl
  exact (ds_cons (ds_if (PW.pt (dw_or (dt_not (dt_val (de_isi nb.isinstance (de_var 0 rfl (.inl rfl)) nb.tuple (by decide +kernel)))) (dw_or (dt_cmp (od_ne hr.units) (de_callB cd_len nb.len (by decide +kernel) (da_cons (de_var 0 rfl (.inl rfl)) da_nil)) de_int (nomark _)) (dw_or1 (dt_not (dt_val (de_isi nb.isinstance (de_ix (de_var 0 rfl (.inl rfl)) de_int) nb.str (by decide +kernel)))))))) (ds_one (ds_ret de_bl)) ds_nil) (ds_cons (ds_if (dt_cmp (od_eq hr.units) (de_ix (de_var 0 rfl (.inl rfl)) de_int) de_str (nomark _)) (ds_one (ds_ret (de_callD (A := ⟨T, G0, F0⟩) d_is_int (hr.mono (by decide)) tk lk (da_cons (de_ix (de_var 0 rfl (.inl rfl)) de_int) (da_cons de_int (da_cons de_int da_nil)))))) ds_nil) (ds_one (ds_ret (de_and (de_cmp (od_eq hr.units) (de_ix (de_var 0 rfl (.inl rfl)) de_int) de_str (nomark _)) (de_one (de_callD (A := ⟨T, G0, F0⟩) d_is_int (hr.mono (by decide)) tk lk (da_cons (de_ix (de_var 0 rfl (.inl rfl)) de_int) (da_cons de_int (da_cons de_int da_nil))))))))))
theorem sc_are_flips : FnScope ["value", "most", "flip"] ["value", "most"] (defScope (topS 19)) := ⟨rfl, rfl, rfl, by decide +kernel, rfl, by decide +kernel, by decide +kernel⟩
theorem dv_are_flips {a : Ads} (nb : Blt mg) (d_is_right_flip : Def P w K mg base T 2 "is_right_flip" ["value"] (sp_is_right_flip a))
    (f : Addr) (cdv : Value) (A0 : Around) (outer : List Env) (s : Shared) (H : Hp) (E : XK) (G0 F0 : Hp) (Wd : WD) (hr : Room 2 (A0.deeper (envOfC "are_flips" (defScope (topS 19)) s.heap.objs.size f cdv))) (lk : LinkW K ⟨T, G0, F0⟩ (fun cls d _ H => E cls d H) Wd) :
    PSs (cxOf (L2N.CX P w) P w K mg base ["value", "most", "flip"] "are_flips" (defScope (topS 19)) f cdv A0 outer s H E) (defBody (topS 19)) (lS K ⟨T, G0, F0⟩ (td_are_flips a Wd)) := by
  have sc := sc_are_flips
  have tk := @tkD P w K mg base ["value", "most", "flip"] "are_flips" (defScope (topS 19)) f cdv A0 outer s H E
  have hp := @hpD P w K mg base ["value", "most", "flip"] "are_flips" (defScope (topS 19)) f cdv A0 outer s H E
  have hc : (cxOf (L2N.CX P w) P w K mg base ["value", "most", "flip"] "are_flips" (defScope (topS 19)) f cdv A0 outer s H E).calm = true := rfl
  exact (ds_one (ds_ret (de_and (de_isi nb.isinstance (de_var 0 rfl (.inl rfl)) nb.tuple (by decide +kernel)) (de_and (de_cmp od_le (de_callB cd_len nb.len (by decide +kernel) (da_cons (de_var 0 rfl (.inl rfl)) da_nil)) (de_var 1 rfl (.inl rfl)) (nomark _)) (de_one (de_callB (cd_all hc) nb.all (by decide +kernel) (da_cons (de_lc (own := [("flip", 2)]) hc sc.nd (di_seq (de_var 0 rfl (.inl rfl))) (blkOk_by (own := [("flip", 2)]) (N := ["value", "most", "flip"]) (sc := defScope (topS 19)) (by decide +kernel)) (tg_name (i := 2) (by decide)) (fun _ _ _ _ _ => (pg_name (i := 2) sc.nd rfl (Or.inl rfl))) (fun _ _ _ _ _ => dts_nil) (fun _ _ _ _ _ => (de_callD (A := ⟨T, G0, F0⟩) d_is_right_flip (hr.mono (by decide)) tk0 lk0 (da_cons (de_var 2 rfl (.inl rfl)) da_nil)))) da_nil)))))))
theorem sc_is_right_script : FnScope ["value"] ["value"] (defScope (topS 20)) := ⟨rfl, rfl, rfl, by decide +kernel, rfl, by decide +kernel, by decide +kernel⟩
theorem dv_is_right_script {a : Ads} (c_MOST_FLIPS : ∃ t, mg "MOST_FLIPS" = some (.int (8) t)) (d_are_flips : Def P w K mg base T 3 "are_flips" ["value", "most"] (sp_are_flips a))
    (f : Addr) (cdv : Value) (A0 : Around) (outer : List Env) (s : Shared) (H : Hp) (E : XK) (G0 F0 : Hp) (Wd : WD) (hr : Room 3 (A0.deeper (envOfC "is_right_script" (defScope (topS 20)) s.heap.objs.size f cdv))) (lk : LinkW K ⟨T, G0, F0⟩ (fun cls d _ H => E cls d H) Wd) :
    PSs (cxOf (L2N.CX P w) P w K mg base ["value"] "is_right_script" (defScope (topS 20)) f cdv A0 outer s H E) (defBody (topS 20)) (lS K ⟨T, G0, F0⟩ (td_is_right_script a Wd)) := by
  have sc := sc_is_right_script
  have tk := @tkD P w K mg base ["value"] "is_right_script" (defScope (topS 20)) f cdv A0 outer s H E
  have hp := @hpD P w K mg base ["value"] "is_right_script" (defScope (topS 20)) f cdv A0 outer s H E
  have hc : (cxOf (L2N.CX P w) P w K mg base ["value"] "is_right_script" (defScope (topS 20)) f cdv A0 outer s H E).calm = true := rfl
  exact (ds_one (ds_ret (de_callD (A := ⟨T, G0, F0⟩) d_are_flips (hr.mono (by decide)) tk lk (da_cons (de_var 0 rfl (.inl rfl)) (da_cons (de_const c_MOST_FLIPS) da_nil)))))
theorem sc_block_of : FnScope ["flip", "n"] ["flip", "n"] (defScope (topS 21)) := ⟨rfl, rfl, rfl, by decide +kernel, rfl, by decide +kernel, by decide +kernel⟩
theorem dv_block_of {a : Ads} 
    (f : Addr) (cdv : Value) (A0 : Around) (outer : List Env) (s : Shared) (H : Hp) (E : XK) (G0 F0 : Hp) (Wd : WD) (hr : Room 0 (A0.deeper (envOfC "block_of" (defScope (topS 21)) s.heap.objs.size f cdv))) (lk : LinkW K ⟨T, G0, F0⟩ (fun cls d _ H => E cls d H) Wd) :
    PSs (cxOf (L2N.CX P w) P w K mg base ["flip", "n"] "block_of" (defScope (topS 21)) f cdv A0 outer s H E) (defBody (topS 21)) (lS K ⟨T, G0, F0⟩ (td_block_of a Wd)) := by
  have sc := sc_block_of
  have tk := @tkD P w K mg base ["flip", "n"] "block_of" (defScope (topS 21)) f cdv A0 outer s H E
  have hp := @hpD P w K mg base ["flip", "n"] "block_of" (defScope (topS 21)) f cdv A0 outer s H E
  have hc : (cxOf (L2N.CX P w) P w K mg base ["flip", "n"] "block_of" (defScope (topS 21)) f cdv A0 outer s H E).calm = true := rfl
  exact (ds_one (ds_ret (de_if (dt_cmp (od_eq hr.units) (de_ix (de_var 0 rfl (.inl rfl)) de_int) de_str (nomark _)) (de_ix (de_var 0 rfl (.inl rfl)) de_int) (de_op od_sub (de_var 1 rfl (.inl rfl)) (de_ix (de_var 0 rfl (.inl rfl)) de_int)))))
theorem sc_need_script : FnScope ["value"] ["value"] (defScope (topS 22)) := ⟨rfl, rfl, rfl, by decide +kernel, rfl, by decide +kernel, by decide +kernel⟩
theorem dv_need_script {a : Ads} (d_is_right_script : Def P w K mg base T 4 "is_right_script" ["value"] (sp_is_right_script a)) (x_InvalidScript : ExcT K mg "InvalidScript" (a.c "InvalidScript"))
    (f : Addr) (cdv : Value) (A0 : Around) (outer : List Env) (s : Shared) (H : Hp) (E : XK) (G0 F0 : Hp) (Wd : WD) (hr : Room 4 (A0.deeper (envOfC "need_script" (defScope (topS 22)) s.heap.objs.size f cdv))) (lk : LinkW K ⟨T, G0, F0⟩ (fun cls d _ H => E cls d H) Wd) :
    PSs (cxOf (L2N.CX P w) P w K mg base ["value"] "need_script" (defScope (topS 22)) f cdv A0 outer s H E) (defBody (topS 22)) (lS K ⟨T, G0, F0⟩ (td_need_script a Wd)) := by
  have sc := sc_need_script
  have tk := @tkD P w K mg base ["value"] "need_script" (defScope (topS 22)) f cdv A0 outer s H E
  have hp := @hpD P w K mg base ["value"] "need_script" (defScope (topS 22)) f cdv A0 outer s H E
  have hc : (cxOf (L2N.CX P w) P w K mg base ["value"] "need_script" (defScope (topS 22)) f cdv A0 outer s H E).calm = true := rfl
  exact (ds_one (ds_if (dt_not (dt_val (de_callD (A := ⟨T, G0, F0⟩) d_is_right_script (hr.mono (by decide)) tk lk (da_cons (de_var 0 rfl (.inl rfl)) da_nil)))) (ds_one (ds_raise hc tk lk PySem.F.excBase_ValueError x_InvalidScript.q x_InvalidScript.g x_InvalidScript.k (raises_own x_InvalidScript.b x_InvalidScript.t))) ds_nil))
theorem sc_need_height : FnScope ["value", "most"] ["value", "most"] (defScope (topS 23)) := ⟨rfl, rfl, rfl, by decide +kernel, rfl, by decide +kernel, by decide +kernel⟩
theorem dv_need_height {a : Ads} (c_LEAST : ∃ t, mg "LEAST" = some (.int (12) t)) (d_is_int : Def P w K mg base T 1 "is_int" ["value", "low", "high"] (sp_is_int a)) (x_InvalidHeight : ExcT K mg "InvalidHeight" (a.c "InvalidHeight"))
    (f : Addr) (cdv : Value) (A0 : Around) (outer : List Env) (s : Shared) (H : Hp) (E : XK) (G0 F0 : Hp) (Wd : WD) (hr : Room 1 (A0.deeper (envOfC "need_height" (defScope (topS 23)) s.heap.objs.size f cdv))) (lk : LinkW K ⟨T, G0, F0⟩ (fun cls d _ H => E cls d H) Wd) :
    PSs (cxOf (L2N.CX P w) P w K mg base ["value", "most"] "need_height" (defScope (topS 23)) f cdv A0 outer s H E) (defBody (topS 23)) (lS K ⟨T, G0, F0⟩ (td_need_height a Wd)) := by
  have sc := sc_need_height
  have tk := @tkD P w K mg base ["value", "most"] "need_height" (defScope (topS 23)) f cdv A0 outer s H E
  have hp := @hpD P w K mg base ["value", "most"] "need_height" (defScope (topS 23)) f cdv A0 outer s H E
  have hc : (cxOf (L2N.CX P w) P w K mg base ["value", "most"] "need_height" (defScope (topS 23)) f cdv A0 outer s H E).calm = true := rfl
  exact (ds_one (ds_if (dt_not (dt_val (de_callD (A := ⟨T, G0, F0⟩) d_is_int (hr.mono (by decide)) tk lk (da_cons (de_var 0 rfl (.inl rfl)) (da_cons (de_const c_LEAST) (da_cons (de_var 1 rfl (.inl rfl)) da_nil)))))) (ds_one (ds_raise hc tk lk PySem.F.excBase_ValueError x_InvalidHeight.q x_InvalidHeight.g x_InvalidHeight.k (raises_own x_InvalidHeight.b x_InvalidHeight.t))) ds_nil))
theorem sc_need_rounds : FnScope ["value"] ["value"] (defScope (topS 24)) := ⟨rfl, rfl, rfl, by decide +kernel, rfl, by decide +kernel, by decide +kernel⟩
theorem dv_need_rounds {a : Ads} (c_HIGH : ∃ t, mg "HIGH" = some (.int (10 ^ 30) t)) (d_is_int : Def P w K mg base T 1 "is_int" ["value", "low", "high"] (sp_is_int a)) (x_InvalidNumber : ExcT K mg "InvalidNumber" (a.c "InvalidNumber"))
    (f : Addr) (cdv : Value) (A0 : Around) (outer : List Env) (s : Shared) (H : Hp) (E : XK) (G0 F0 : Hp) (Wd : WD) (hr : Room 1 (A0.deeper (envOfC "need_rounds" (defScope (topS 24)) s.heap.objs.size f cdv))) (lk : LinkW K ⟨T, G0, F0⟩ (fun cls d _ H => E cls d H) Wd) :
    PSs (cxOf (L2N.CX P w) P w K mg base ["value"] "need_rounds" (defScope (topS 24)) f cdv A0 outer s H E) (defBody (topS 24)) (lS K ⟨T, G0, F0⟩ (td_need_rounds a Wd)) := by
  have sc := sc_need_rounds
  have tk := @tkD P w K mg base ["value"] "need_rounds" (defScope (topS 24)) f cdv A0 outer s H E
  have hp := @hpD P w K mg base ["value"] "need_rounds" (defScope (topS 24)) f cdv A0 outer s H E
  have hc : (cxOf (L2N.CX P w) P w K mg base ["value"] "need_rounds" (defScope (topS 24)) f cdv A0 outer s H E).calm = true := rfl
  exact (ds_one (ds_if (dt_not (dt_val (de_callD (A := ⟨T, G0, F0⟩) d_is_int (hr.mono (by decide)) tk lk (da_cons (de_var 0 rfl (.inl rfl)) (da_cons de_int (da_cons (de_const c_HIGH) da_nil)))))) (ds_one (ds_raise hc tk lk PySem.F.excBase_ValueError x_InvalidNumber.q x_InvalidNumber.g x_InvalidNumber.k (raises_own x_InvalidNumber.b x_InvalidNumber.t))) ds_nil))
theorem sc_need_place : FnScope ["n", "value"] ["n", "value"] (defScope (topS 25)) := ⟨rfl, rfl, rfl, by decide +kernel, rfl, by decide +kernel, by decide +kernel⟩
theorem dv_need_place {a : Ads} (d_is_int : Def P w K mg base T 1 "is_int" ["value", "low", "high"] (sp_is_int a)) (x_InvalidPlace : ExcT K mg "InvalidPlace" (a.c "InvalidPlace"))
    (f : Addr) (cdv : Value) (A0 : Around) (outer : List Env) (s : Shared) (H : Hp) (E : XK) (G0 F0 : Hp) (Wd : WD) (hr : Room 1 (A0.deeper (envOfC "need_place" (defScope (topS 25)) s.heap.objs.size f cdv))) (lk : LinkW K ⟨T, G0, F0⟩ (fun cls d _ H => E cls d H) Wd) :
    PSs (cxOf (L2N.CX P w) P w K mg base ["n", "value"] "need_place" (defScope (topS 25)) f cdv A0 outer s H E) (defBody (topS 25)) (lS K ⟨T, G0, F0⟩ (td_need_place a Wd)) := by
  have sc := sc_need_place
  have tk := @tkD P w K mg base ["n", "value"] "need_place" (defScope (topS 25)) f cdv A0 outer s H E
  have hp := @hpD P w K mg base ["n", "value"] "need_place" (defScope (topS 25)) f cdv A0 outer s H E
  have hc : (cxOf (L2N.CX P w) P w K mg base ["n", "value"] "need_place" (defScope (topS 25)) f cdv A0 outer s H E).calm = true := rfl
  exact (ds_cons (ds_if (dt_not (dt_val (de_callD (A := ⟨T, G0, F0⟩) d_is_int (hr.mono (by decide)) tk lk (da_cons (de_var 1 rfl (.inl rfl)) (da_cons (de_neg (de_var 0 rfl (.inl rfl))) (da_cons (de_op od_sub (de_var 0 rfl (.inl rfl)) de_int) da_nil)))))) (ds_one (ds_raise hc tk lk PySem.F.excBase_ValueError x_InvalidPlace.q x_InvalidPlace.g x_InvalidPlace.k (raises_own x_InvalidPlace.b x_InvalidPlace.t))) ds_nil) (ds_one (ds_ret (de_if (dt_cmp od_ge (de_var 1 rfl (.inl rfl)) de_int (nomark _)) (de_var 1 rfl (.inl rfl)) (de_op od_add (de_var 0 rfl (.inl rfl)) (de_var 1 rfl (.inl rfl)))))))
theorem sc_once : FnScope ["script", "n", "place", "over", "flip", "block"] ["script", "n", "place"] (defScope (topS 28)) := ⟨rfl, rfl, rfl, by decide +kernel, rfl, by decide +kernel, by decide +kernel⟩
theorem dv_once {a : Ads} (d_block_of : Def P w K mg base T 1 "block_of" ["flip", "n"] (sp_block_of a))
    (f : Addr) (cdv : Value) (A0 : Around) (outer : List Env) (s : Shared) (H : Hp) (E : XK) (G0 F0 : Hp) (Wd : WD) (hr : Room 1 (A0.deeper (envOfC "once" (defScope (topS 28)) s.heap.objs.size f cdv))) (lk : LinkW K ⟨T, G0, F0⟩ (fun cls d _ H => E cls d H) Wd) :
    PSs (cxOf (L2N.CX P w) P w K mg base ["script", "n", "place", "over", "flip", "block"] "once" (defScope (topS 28)) f cdv A0 outer s H E) (defBody (topS 28)) (lS K ⟨T, G0, F0⟩ (td_once a Wd)) := by
  have sc := sc_once
  have tk := @tkD P w K mg base ["script", "n", "place", "over", "flip", "block"] "once" (defScope (topS 28)) f cdv A0 outer s H E
  have hp := @hpD P w K mg base ["script", "n", "place", "over", "flip", "block"] "once" (defScope (topS 28)) f cdv A0 outer s H E
  have hc : (cxOf (L2N.CX P w) P w K mg base ["script", "n", "place", "over", "flip", "block"] "once" (defScope (topS 28)) f cdv A0 outer s H E).calm = true := rfl
  exact (ds_cons (ds_set (i := 3) sc.nd rfl (.inl rfl) de_bl) (ds_cons (ds_for hp hc (di_seq (de_var 0 rfl (.inl rfl))) (dg_name (i := 4) sc.nd rfl (.inl rfl)) (ds_cons (ds_set (i := 5) sc.nd rfl (.inl rfl) (de_callD (A := ⟨T, G0, F0⟩) d_block_of (hr.mono (by decide)) tk lk (da_cons (de_var 4 rfl (.inl rfl)) (da_cons (de_var 1 rfl (.inl rfl)) da_nil)))) (ds_one (ds_if (dt_cmp od_lt (de_var 2 rfl (.inl rfl)) (de_var 5 rfl (.inl rfl)) (nomark _)) (ds_one (ds_par (i := 2) (j := 3) hc sc.nd rfl rfl (by decide) rfl rfl (da_cons (de_op od_sub (de_op od_sub (de_var 5 rfl (.inl rfl)) de_int) (de_var 2 rfl (.inl rfl))) (da_cons (de_not (de_var 3 rfl (.inl rfl))) da_nil)))) ds_nil)))) (ds_one (ds_ret (de_tup (da_cons (de_var 2 rfl (.inl rfl)) (da_cons (de_var 3 rfl (.inl rfl)) da_nil)))))))
theorem sc_reach_of : FnScope ["script"] ["script"] (defScope (topS 29)) := ⟨rfl, rfl, rfl, by decide +kernel, rfl, by decide +kernel, by decide +kernel⟩
theorem dv_reach_of {a : Ads} (nb : Blt mg)
    (f : Addr) (cdv : Value) (A0 : Around) (outer : List Env) (s : Shared) (H : Hp) (E : XK) (G0 F0 : Hp) (Wd : WD) (hr : Room 0 (A0.deeper (envOfC "reach_of" (defScope (topS 29)) s.heap.objs.size f cdv))) (lk : LinkW K ⟨T, G0, F0⟩ (fun cls d _ H => E cls d H) Wd) :
    PSs (cxOf (L2N.CX P w) P w K mg base ["script"] "reach_of" (defScope (topS 29)) f cdv A0 outer s H E) (defBody (topS 29)) (lS K ⟨T, G0, F0⟩ (td_reach_of a Wd)) := by
  have sc := sc_reach_of
  have tk := @tkD P w K mg base ["script"] "reach_of" (defScope (topS 29)) f cdv A0 outer s H E
  have hp := @hpD P w K mg base ["script"] "reach_of" (defScope (topS 29)) f cdv A0 outer s H E
  have hc : (cxOf (L2N.CX P w) P w K mg base ["script"] "reach_of" (defScope (topS 29)) f cdv A0 outer s H E).calm = true := rfl
  exact (ds_one (ds_ret (de_op od_add (de_op od_mul de_int (de_callB cd_len nb.len (by decide +kernel) (da_cons (de_var 0 rfl (.inl rfl)) da_nil))) de_int)))
theorem sc_middle_of : FnScope ["script", "turned", "step", "word", "many"] ["script"] (defScope (topS 30)) := ⟨rfl, rfl, rfl, by decide +kernel, rfl, by decide +kernel, by decide +kernel⟩
theorem dv_middle_of {a : Ads} 
    (f : Addr) (cdv : Value) (A0 : Around) (outer : List Env) (s : Shared) (H : Hp) (E : XK) (G0 F0 : Hp) (Wd : WD) (hr : Room 0 (A0.deeper (envOfC "middle_of" (defScope (topS 30)) s.heap.objs.size f cdv))) (lk : LinkW K ⟨T, G0, F0⟩ (fun cls d _ H => E cls d H) Wd) :
    PSs (cxOf (L2N.CX P w) P w K mg base ["script", "turned", "step", "word", "many"] "middle_of" (defScope (topS 30)) f cdv A0 outer s H E) (defBody (topS 30)) (lS K ⟨T, G0, F0⟩ (td_middle_of a Wd)) := by
  have sc := sc_middle_of
  have tk := @tkD P w K mg base ["script", "turned", "step", "word", "many"] "middle_of" (defScope (topS 30)) f cdv A0 outer s H E
  have hp := @hpD P w K mg base ["script", "turned", "step", "word", "many"] "middle_of" (defScope (topS 30)) f cdv A0 outer s H E
  have hc : (cxOf (L2N.CX P w) P w K mg base ["script", "turned", "step", "word", "many"] "middle_of" (defScope (topS 30)) f cdv A0 outer s H E).calm = true := rfl
  exact (ds_cons (ds_asg (de_tup (da_cons de_bl (da_cons de_int da_nil))) (dg_tup hc (dgs_cons (dg_name (i := 1) sc.nd rfl (.inl rfl)) (dgs_cons (dg_name (i := 2) sc.nd rfl (.inl rfl)) dgs_nil)))) (ds_cons (ds_for hp hc (di_seq (de_var 0 rfl (.inl rfl))) (dg_tup hc (dgs_cons (dg_name (i := 3) sc.nd rfl (.inl rfl)) (dgs_cons (dg_name (i := 4) sc.nd rfl (.inl rfl)) dgs_nil))) (ds_one (ds_if (dt_cmp (od_eq hr.units) (de_var 3 rfl (.inl rfl)) de_str (nomark _)) (ds_one (ds_par (i := 1) (j := 2) hc sc.nd rfl rfl (by decide) rfl rfl (da_cons (de_not (de_var 1 rfl (.inl rfl))) (da_cons (de_op od_sub (de_neg (de_var 4 rfl (.inl rfl))) (de_var 2 rfl (.inl rfl))) da_nil)))) ds_nil))) (ds_one (ds_ret (de_tup (da_cons (de_var 1 rfl (.inl rfl)) (da_cons (de_var 2 rfl (.inl rfl)) da_nil)))))))
theorem sc_is_amid : FnScope ["script", "n", "place"] ["script", "n", "place"] (defScope (topS 31)) := ⟨rfl, rfl, rfl, by decide +kernel, rfl, by decide +kernel, by decide +kernel⟩
theorem dv_is_amid {a : Ads} (d_reach_of : Def P w K mg base T 1 "reach_of" ["script"] (sp_reach_of a))
    (f : Addr) (cdv : Value) (A0 : Around) (outer : List Env) (s : Shared) (H : Hp) (E : XK) (G0 F0 : Hp) (Wd : WD) (hr : Room 1 (A0.deeper (envOfC "is_amid" (defScope (topS 31)) s.heap.objs.size f cdv))) (lk : LinkW K ⟨T, G0, F0⟩ (fun cls d _ H => E cls d H) Wd) :
    PSs (cxOf (L2N.CX P w) P w K mg base ["script", "n", "place"] "is_amid" (defScope (topS 31)) f cdv A0 outer s H E) (defBody (topS 31)) (lS K ⟨T, G0, F0⟩ (td_is_amid a Wd)) := by
  have sc := sc_is_amid
  have tk := @tkD P w K mg base ["script", "n", "place"] "is_amid" (defScope (topS 31)) f cdv A0 outer s H E
  have hp := @hpD P w K mg base ["script", "n", "place"] "is_amid" (defScope (topS 31)) f cdv A0 outer s H E
  have hc : (cxOf (L2N.CX P w) P w K mg base ["script", "n", "place"] "is_amid" (defScope (topS 31)) f cdv A0 outer s H E).calm = true := rfl
  exact (ds_one (ds_ret (de_chain od_le od_le (de_callD (A := ⟨T, G0, F0⟩) d_reach_of (hr.mono (by decide)) tk lk (da_cons (de_var 0 rfl (.inl rfl)) da_nil)) (de_var 2 rfl (.inl rfl)) (de_op od_sub (de_op od_sub (de_var 1 rfl (.inl rfl)) de_int) (de_callD (A := ⟨T, G0, F0⟩) d_reach_of (hr.mono (by decide)) tk lk (da_cons (de_var 0 rfl (.inl rfl)) da_nil))))))
theorem sc_ride : FnScope ["script", "n", "place", "most", "turned", "step", "found", "far", "many"] ["script", "n", "place", "most"] (defScope (topS 32)) := ⟨rfl, rfl, rfl, by decide +kernel, rfl, by decide +kernel, by decide +kernel⟩
theorem dv_ride {a : Ads} (nb : Blt mg) (d_is_amid : Def P w K mg base T 2 "is_amid" ["script", "n", "place"] (sp_is_amid a)) (d_middle_of : Def P w K mg base T 1 "middle_of" ["script"] (sp_middle_of a)) (d_once : Def P w K mg base T 2 "once" ["script", "n", "place"] (sp_once a)) (d_reach_of : Def P w K mg base T 1 "reach_of" ["script"] (sp_reach_of a))
    (f : Addr) (cdv : Value) (A0 : Around) (outer : List Env) (s : Shared) (H : Hp) (E : XK) (G0 F0 : Hp) (Wd : WD) (hr : Room 2 (A0.deeper (envOfC "ride" (defScope (topS 32)) s.heap.objs.size f cdv))) (lk : LinkW K ⟨T, G0, F0⟩ (fun cls d _ H => E cls d H) Wd) :
    PSs (cxOf (L2N.CX P w) P w K mg base ["script", "n", "place", "most", "turned", "step", "found", "far", "many"] "ride" (defScope (topS 32)) f cdv A0 outer s H E) (defBody (topS 32)) (lS K ⟨T, G0, F0⟩ (td_ride a Wd)) := by
  have sc := sc_ride
  have tk := @tkD P w K mg base ["script", "n", "place", "most", "turned", "step", "found", "far", "many"] "ride" (defScope (topS 32)) f cdv A0 outer s H E
  have hp := @hpD P w K mg base ["script", "n", "place", "most", "turned", "step", "found", "far", "many"] "ride" (defScope (topS 32)) f cdv A0 outer s H E
  have hc : (cxOf (L2N.CX P w) P w K mg base ["script", "n", "place", "most", "turned", "step", "found", "far", "many"] "ride" (defScope (topS 32)) f cdv A0 outer s H E).calm = true := rfl
  exact (ds_cons (ds_asg (de_callD (A := ⟨T, G0, F0⟩) d_middle_of (hr.mono (by decide)) tk lk (da_cons (de_var 0 rfl (.inl rfl)) da_nil)) (dg_tup hc (dgs_cons (dg_name (i := 4) sc.nd rfl (.inl rfl)) (dgs_cons (dg_name (i := 5) sc.nd rfl (.inl rfl)) dgs_nil)))) (ds_cons (ds_if (PW.pt (dw_or (dt_val (de_var 4 rfl (.inl rfl))) (dw_or1 (dt_not (dt_val (de_callD (A := ⟨T, G0, F0⟩) d_is_amid (hr.mono (by decide)) tk lk (da_cons (de_var 0 rfl (.inl rfl)) (da_cons (de_var 1 rfl (.inl rfl)) (da_cons (de_var 2 rfl (.inl rfl)) da_nil))))))))) (ds_cons (ds_set (i := 6) sc.nd rfl (.inl rfl) (de_callD (A := ⟨T, G0, F0⟩) d_once (hr.mono (by decide)) tk lk (da_cons (de_var 0 rfl (.inl rfl)) (da_cons (de_var 1 rfl (.inl rfl)) (da_cons (de_var 2 rfl (.inl rfl)) da_nil))))) (ds_one (ds_ret (de_tup (da_cons (de_ix (de_var 6 rfl (.inl rfl)) de_int) (da_cons (de_ix (de_var 6 rfl (.inl rfl)) de_int) (da_cons de_int da_nil))))))) ds_nil) (ds_cons (ds_if (dt_cmp (od_eq hr.units) (de_var 5 rfl (.inl rfl)) de_int (nomark _)) (ds_one (ds_ret (de_tup (da_cons (de_var 2 rfl (.inl rfl)) (da_cons de_bl (da_cons (de_var 3 rfl (.inl rfl)) da_nil)))))) ds_nil) (ds_cons (ds_set (i := 7) sc.nd rfl (.inl rfl) (de_if (dt_cmp od_gt (de_var 5 rfl (.inl rfl)) de_int (nomark _)) (de_op od_sub (de_op od_sub (de_op od_sub (de_var 1 rfl (.inl rfl)) de_int) (de_callD (A := ⟨T, G0, F0⟩) d_reach_of (hr.mono (by decide)) tk lk (da_cons (de_var 0 rfl (.inl rfl)) da_nil))) (de_var 2 rfl (.inl rfl))) (de_op od_sub (de_var 2 rfl (.inl rfl)) (de_callD (A := ⟨T, G0, F0⟩) d_reach_of (hr.mono (by decide)) tk lk (da_cons (de_var 0 rfl (.inl rfl)) da_nil))))) (ds_cons (ds_set (i := 8) sc.nd rfl (.inl rfl) (de_callB (cd_min hc) nb.min (by decide +kernel) (da_cons (de_var 3 rfl (.inl rfl)) (da_cons (de_op od_add (de_op od_fdiv (de_var 7 rfl (.inl rfl)) (de_callB cd_abs nb.abs (by decide +kernel) (da_cons (de_var 5 rfl (.inl rfl)) da_nil))) de_int) da_nil)))) (ds_one (ds_ret (de_tup (da_cons (de_op od_add (de_var 2 rfl (.inl rfl)) (de_op od_mul (de_var 8 rfl (.inl rfl)) (de_var 5 rfl (.inl rfl)))) (da_cons de_bl (da_cons (de_var 8 rfl (.inl rfl)) da_nil)))))))))))
theorem sc_rides : FnScope ["script", "n", "place", "rounds", "over", "side", "many"] ["script", "n", "place", "rounds"] (defScope (topS 33)) := ⟨rfl, rfl, rfl, by decide +kernel, rfl, by decide +kernel, by decide +kernel⟩
theorem dv_rides {a : Ads} (d_ride : Def P w K mg base T 3 "ride" ["script", "n", "place", "most"] (sp_ride a))
    (f : Addr) (cdv : Value) (A0 : Around) (outer : List Env) (s : Shared) (H : Hp) (E : XK) (G0 F0 : Hp) (Wd : WD) (hr : Room 3 (A0.deeper (envOfC "rides" (defScope (topS 33)) s.heap.objs.size f cdv))) (lk : LinkW K ⟨T, G0, F0⟩ (fun cls d _ H => E cls d H) Wd) :
    PSs (cxOf (L2N.CX P w) P w K mg base ["script", "n", "place", "rounds", "over", "side", "many"] "rides" (defScope (topS 33)) f cdv A0 outer s H E) (defBody (topS 33)) (lS K ⟨T, G0, F0⟩ (td_rides a Wd)) := by
  have sc := sc_rides
  have tk := @tkD P w K mg base ["script", "n", "place", "rounds", "over", "side", "many"] "rides" (defScope (topS 33)) f cdv A0 outer s H E
  have hp := @hpD P w K mg base ["script", "n", "place", "rounds", "over", "side", "many"] "rides" (defScope (topS 33)) f cdv A0 outer s H E
  have hc : (cxOf (L2N.CX P w) P w K mg base ["script", "n", "place", "rounds", "over", "side", "many"] "rides" (defScope (topS 33)) f cdv A0 outer s H E).calm = true := rfl
  exact (ds_cons (ds_set (i := 4) sc.nd rfl (.inl rfl) de_bl) (ds_cons (ds_while hp (dt_cmp od_gt (de_var 3 rfl (.inl rfl)) de_int (nomark _)) (ds_cons (ds_asg (de_callD (A := ⟨T, G0, F0⟩) d_ride (hr.mono (by decide)) tk lk (da_cons (de_var 0 rfl (.inl rfl)) (da_cons (de_var 1 rfl (.inl rfl)) (da_cons (de_var 2 rfl (.inl rfl)) (da_cons (de_var 3 rfl (.inl rfl)) da_nil))))) (dg_tup hc (dgs_cons (dg_name (i := 2) sc.nd rfl (.inl rfl)) (dgs_cons (dg_name (i := 5) sc.nd rfl (.inl rfl)) (dgs_cons (dg_name (i := 6) sc.nd rfl (.inl rfl)) dgs_nil))))) (ds_one (ds_par (i := 4) (j := 3) hc sc.nd rfl rfl (by decide) rfl rfl (da_cons (de_cmp (od_ne hr.units) (de_var 4 rfl (.inl rfl)) (de_var 5 rfl (.inl rfl)) (nomark _)) (da_cons (de_op od_sub (de_var 3 rfl (.inl rfl)) (de_var 6 rfl (.inl rfl))) da_nil)))))) (ds_one (ds_ret (de_tup (da_cons (de_var 2 rfl (.inl rfl)) (da_cons (de_var 4 rfl (.inl rfl)) da_nil)))))))
theorem sc_short_cycle : FnScope ["script", "n", "place", "turned", "step", "there"] ["script", "n", "place"] (defScope (topS 34)) := ⟨rfl, rfl, rfl, by decide +kernel, rfl, by decide +kernel, by decide +kernel⟩
theorem dv_short_cycle {a : Ads} (d_is_amid : Def P w K mg base T 2 "is_amid" ["script", "n", "place"] (sp_is_amid a)) (d_middle_of : Def P w K mg base T 1 "middle_of" ["script"] (sp_middle_of a))
    (f : Addr) (cdv : Value) (A0 : Around) (outer : List Env) (s : Shared) (H : Hp) (E : XK) (G0 F0 : Hp) (Wd : WD) (hr : Room 2 (A0.deeper (envOfC "short_cycle" (defScope (topS 34)) s.heap.objs.size f cdv))) (lk : LinkW K ⟨T, G0, F0⟩ (fun cls d _ H => E cls d H) Wd) :
    PSs (cxOf (L2N.CX P w) P w K mg base ["script", "n", "place", "turned", "step", "there"] "short_cycle" (defScope (topS 34)) f cdv A0 outer s H E) (defBody (topS 34)) (lS K ⟨T, G0, F0⟩ (td_short_cycle a Wd)) := by
  have sc := sc_short_cycle
  have tk := @tkD P w K mg base ["script", "n", "place", "turned", "step", "there"] "short_cycle" (defScope (topS 34)) f cdv A0 outer s H E
  have hp := @hpD P w K mg base ["script", "n", "place", "turned", "step", "there"] "short_cycle" (defScope (topS 34)) f cdv A0 outer s H E
  have hc : (cxOf (L2N.CX P w) P w K mg base ["script", "n", "place", "turned", "step", "there"] "short_cycle" (defScope (topS 34)) f cdv A0 outer s H E).calm = true := rfl
  exact (ds_cons (ds_asg (de_callD (A := ⟨T, G0, F0⟩) d_middle_of (hr.mono (by decide)) tk lk (da_cons (de_var 0 rfl (.inl rfl)) da_nil)) (dg_tup hc (dgs_cons (dg_name (i := 3) sc.nd rfl (.inl rfl)) (dgs_cons (dg_name (i := 4) sc.nd rfl (.inl rfl)) dgs_nil)))) (ds_cons (ds_if (dt_not (dt_val (de_callD (A := ⟨T, G0, F0⟩) d_is_amid (hr.mono (by decide)) tk lk (da_cons (de_var 0 rfl (.inl rfl)) (da_cons (de_var 1 rfl (.inl rfl)) (da_cons (de_var 2 rfl (.inl rfl)) da_nil)))))) (ds_one (ds_ret de_non)) ds_nil) (ds_cons (ds_if (dt_not (dt_val (de_var 3 rfl (.inl rfl)))) (ds_one (ds_ret (de_if (dt_cmp (od_eq hr.units) (de_var 4 rfl (.inl rfl)) de_int (nomark _)) (de_tup (da_cons de_int (da_cons de_bl da_nil))) de_non))) ds_nil) (ds_cons (ds_set (i := 5) sc.nd rfl (.inl rfl) (de_op od_add (de_op od_sub (de_op od_sub (de_var 1 rfl (.inl rfl)) de_int) (de_var 2 rfl (.inl rfl))) (de_var 4 rfl (.inl rfl)))) (ds_cons (ds_if (dt_cmp (od_eq hr.units) (de_var 5 rfl (.inl rfl)) (de_var 2 rfl (.inl rfl)) (nomark _)) (ds_one (ds_ret (de_tup (da_cons de_int (da_cons de_bl da_nil))))) ds_nil) (ds_one (ds_ret (de_if (dt_val (de_callD (A := ⟨T, G0, F0⟩) d_is_amid (hr.mono (by decide)) tk lk (da_cons (de_var 0 rfl (.inl rfl)) (da_cons (de_var 1 rfl (.inl rfl)) (da_cons (de_var 5 rfl (.inl rfl)) da_nil))))) (de_tup (da_cons de_int (da_cons de_bl da_nil))) de_non))))))))
theorem sc_cycle_of : FnScope ["script", "n", "place", "short", "here", "over", "length", "side", "many"] ["script", "n", "place"] (defScope (topS 35)) := ⟨rfl, rfl, rfl, by decide +kernel, rfl, by decide +kernel, by decide +kernel⟩
theorem dv_cycle_of {a : Ads} (d_is_amid : Def P w K mg base T 2 "is_amid" ["script", "n", "place"] (sp_is_amid a)) (d_ride : Def P w K mg base T 3 "ride" ["script", "n", "place", "most"] (sp_ride a)) (d_short_cycle : Def P w K mg base T 3 "short_cycle" ["script", "n", "place"] (sp_short_cycle a))
    (f : Addr) (cdv : Value) (A0 : Around) (outer : List Env) (s : Shared) (H : Hp) (E : XK) (G0 F0 : Hp) (Wd : WD) (hr : Room 3 (A0.deeper (envOfC "cycle_of" (defScope (topS 35)) s.heap.objs.size f cdv))) (lk : LinkW K ⟨T, G0, F0⟩ (fun cls d _ H => E cls d H) Wd) :
    PSs (cxOf (L2N.CX P w) P w K mg base ["script", "n", "place", "short", "here", "over", "length", "side", "many"] "cycle_of" (defScope (topS 35)) f cdv A0 outer s H E) (defBody (topS 35)) (lS K ⟨T, G0, F0⟩ (td_cycle_of a Wd)) := by
  have sc := sc_cycle_of
  have tk := @tkD P w K mg base ["script", "n", "place", "short", "here", "over", "length", "side", "many"] "cycle_of" (defScope (topS 35)) f cdv A0 outer s H E
  have hp := @hpD P w K mg base ["script", "n", "place", "short", "here", "over", "length", "side", "many"] "cycle_of" (defScope (topS 35)) f cdv A0 outer s H E
  have hc : (cxOf (L2N.CX P w) P w K mg base ["script", "n", "place", "short", "here", "over", "length", "side", "many"] "cycle_of" (defScope (topS 35)) f cdv A0 outer s H E).calm = true := rfl
  exact (ds_cons (ds_set (i := 3) sc.nd rfl (.inl rfl) (de_callD (A := ⟨T, G0, F0⟩) d_short_cycle (hr.mono (by decide)) tk lk (da_cons (de_var 0 rfl (.inl rfl)) (da_cons (de_var 1 rfl (.inl rfl)) (da_cons (de_var 2 rfl (.inl rfl)) da_nil))))) (ds_cons (ds_if (dt_cmp od_isnot (de_var 3 rfl (.inl rfl)) de_non (nomark _)) (ds_one (ds_ret (de_var 3 rfl (.inl rfl)))) ds_nil) (ds_cons (ds_while hp (dt_val (de_callD (A := ⟨T, G0, F0⟩) d_is_amid (hr.mono (by decide)) tk lk (da_cons (de_var 0 rfl (.inl rfl)) (da_cons (de_var 1 rfl (.inl rfl)) (da_cons (de_var 2 rfl (.inl rfl)) da_nil))))) (ds_one (ds_set (i := 2) sc.nd rfl (.inl rfl) (de_ix (de_callD (A := ⟨T, G0, F0⟩) d_ride (hr.mono (by decide)) tk lk (da_cons (de_var 0 rfl (.inl rfl)) (da_cons (de_var 1 rfl (.inl rfl)) (da_cons (de_var 2 rfl (.inl rfl)) (da_cons (de_var 1 rfl (.inl rfl)) da_nil))))) de_int)))) (ds_cons (ds_asg (de_callD (A := ⟨T, G0, F0⟩) d_ride (hr.mono (by decide)) tk lk (da_cons (de_var 0 rfl (.inl rfl)) (da_cons (de_var 1 rfl (.inl rfl)) (da_cons (de_var 2 rfl (.inl rfl)) (da_cons (de_var 1 rfl (.inl rfl)) da_nil))))) (dg_tup hc (dgs_cons (dg_name (i := 4) sc.nd rfl (.inl rfl)) (dgs_cons (dg_name (i := 5) sc.nd rfl (.inl rfl)) (dgs_cons (dg_name (i := 6) sc.nd rfl (.inl rfl)) dgs_nil))))) (ds_cons (ds_while hp (dt_cmp (od_ne hr.units) (de_var 4 rfl (.inl rfl)) (de_var 2 rfl (.inl rfl)) (nomark _)) (ds_cons (ds_asg (de_callD (A := ⟨T, G0, F0⟩) d_ride (hr.mono (by decide)) tk lk (da_cons (de_var 0 rfl (.inl rfl)) (da_cons (de_var 1 rfl (.inl rfl)) (da_cons (de_var 4 rfl (.inl rfl)) (da_cons (de_var 1 rfl (.inl rfl)) da_nil))))) (dg_tup hc (dgs_cons (dg_name (i := 4) sc.nd rfl (.inl rfl)) (dgs_cons (dg_name (i := 7) sc.nd rfl (.inl rfl)) (dgs_cons (dg_name (i := 8) sc.nd rfl (.inl rfl)) dgs_nil))))) (ds_one (ds_par (i := 5) (j := 6) hc sc.nd rfl rfl (by decide) rfl rfl (da_cons (de_cmp (od_ne hr.units) (de_var 5 rfl (.inl rfl)) (de_var 7 rfl (.inl rfl)) (nomark _)) (da_cons (de_op od_add (de_var 6 rfl (.inl rfl)) (de_var 8 rfl (.inl rfl))) da_nil)))))) (ds_one (ds_ret (de_tup (da_cons (de_var 6 rfl (.inl rfl)) (da_cons (de_var 5 rfl (.inl rfl)) da_nil))))))))))
theorem sc_after_rounds : FnScope ["script", "n", "place", "rounds", "length", "side", "there", "over"] ["script", "n", "place", "rounds"] (defScope (topS 36)) := ⟨rfl, rfl, rfl, by decide +kernel, rfl, by decide +kernel, by decide +kernel⟩
theorem dv_after_rounds {a : Ads} (d_cycle_of : Def P w K mg base T 4 "cycle_of" ["script", "n", "place"] (sp_cycle_of a)) (d_rides : Def P w K mg base T 4 "rides" ["script", "n", "place", "rounds"] (sp_rides a))
    (f : Addr) (cdv : Value) (A0 : Around) (outer : List Env) (s : Shared) (H : Hp) (E : XK) (G0 F0 : Hp) (Wd : WD) (hr : Room 4 (A0.deeper (envOfC "after_rounds" (defScope (topS 36)) s.heap.objs.size f cdv))) (lk : LinkW K ⟨T, G0, F0⟩ (fun cls d _ H => E cls d H) Wd) :
    PSs (cxOf (L2N.CX P w) P w K mg base ["script", "n", "place", "rounds", "length", "side", "there", "over"] "after_rounds" (defScope (topS 36)) f cdv A0 outer s H E) (defBody (topS 36)) (lS K ⟨T, G0, F0⟩ (td_after_rounds a Wd)) := by
  have sc := sc_after_rounds
  have tk := @tkD P w K mg base ["script", "n", "place", "rounds", "length", "side", "there", "over"] "after_rounds" (defScope (topS 36)) f cdv A0 outer s H E
  have hp := @hpD P w K mg base ["script", "n", "place", "rounds", "length", "side", "there", "over"] "after_rounds" (defScope (topS 36)) f cdv A0 outer s H E
  have hc : (cxOf (L2N.CX P w) P w K mg base ["script", "n", "place", "rounds", "length", "side", "there", "over"] "after_rounds" (defScope (topS 36)) f cdv A0 outer s H E).calm = true := rfl
  exact (ds_cons (ds_asg (de_callD (A := ⟨T, G0, F0⟩) d_cycle_of (hr.mono (by decide)) tk lk (da_cons (de_var 0 rfl (.inl rfl)) (da_cons (de_var 1 rfl (.inl rfl)) (da_cons (de_var 2 rfl (.inl rfl)) da_nil)))) (dg_tup hc (dgs_cons (dg_name (i := 4) sc.nd rfl (.inl rfl)) (dgs_cons (dg_name (i := 5) sc.nd rfl (.inl rfl)) dgs_nil)))) (ds_cons (ds_asg (de_callD (A := ⟨T, G0, F0⟩) d_rides (hr.mono (by decide)) tk lk (da_cons (de_var 0 rfl (.inl rfl)) (da_cons (de_var 1 rfl (.inl rfl)) (da_cons (de_var 2 rfl (.inl rfl)) (da_cons (de_op od_mod (de_var 3 rfl (.inl rfl)) (de_var 4 rfl (.inl rfl))) da_nil))))) (dg_tup hc (dgs_cons (dg_name (i := 6) sc.nd rfl (.inl rfl)) (dgs_cons (dg_name (i := 7) sc.nd rfl (.inl rfl)) dgs_nil)))) (ds_one (ds_ret (de_tup (da_cons (de_var 6 rfl (.inl rfl)) (da_cons (de_cmp (od_ne hr.units) (de_var 7 rfl (.inl rfl)) (de_and (de_var 5 rfl (.inl rfl)) (de_one (de_cmp (od_eq hr.units) (de_op od_mod (de_op od_fdiv (de_var 3 rfl (.inl rfl)) (de_var 4 rfl (.inl rfl))) de_int) de_int (nomark _)))) (nomark _)) da_nil)))))))
theorem sc_after : FnScope ["script", "n", "place", "rounds", "at"] ["script", "n", "place", "rounds"] (defScope (topS 37)) := ⟨rfl, rfl, rfl, by decide +kernel, rfl, by decide +kernel, by decide +kernel⟩
theorem dv_after {a : Ads} (c_HIGH : ∃ t, mg "HIGH" = some (.int (10 ^ 30) t)) (d_after_rounds : Def P w K mg base T 5 "after_rounds" ["script", "n", "place", "rounds"] (sp_after_rounds a)) (d_need_height : Def P w K mg base T 2 "need_height" ["value", "most"] (sp_need_height a)) (d_need_place : Def P w K mg base T 2 "need_place" ["n", "value"] (sp_need_place a)) (d_need_rounds : Def P w K mg base T 2 "need_rounds" ["value"] (sp_need_rounds a)) (d_need_script : Def P w K mg base T 5 "need_script" ["value"] (sp_need_script a))
    (f : Addr) (cdv : Value) (A0 : Around) (outer : List Env) (s : Shared) (H : Hp) (E : XK) (G0 F0 : Hp) (Wd : WD) (hr : Room 5 (A0.deeper (envOfC "after" (defScope (topS 37)) s.heap.objs.size f cdv))) (lk : LinkW K ⟨T, G0, F0⟩ (fun cls d _ H => E cls d H) Wd) :
    PSs (cxOf (L2N.CX P w) P w K mg base ["script", "n", "place", "rounds", "at"] "after" (defScope (topS 37)) f cdv A0 outer s H E) (defBody (topS 37)) (lS K ⟨T, G0, F0⟩ (td_after a Wd)) := by
  have sc := sc_after
  have tk := @tkD P w K mg base ["script", "n", "place", "rounds", "at"] "after" (defScope (topS 37)) f cdv A0 outer s H E
  have hp := @hpD P w K mg base ["script", "n", "place", "rounds", "at"] "after" (defScope (topS 37)) f cdv A0 outer s H E
  have hc : (cxOf (L2N.CX P w) P w K mg base ["script", "n", "place", "rounds", "at"] "after" (defScope (topS 37)) f cdv A0 outer s H E).calm = true := rfl
  exact (ds_cons (ds_expr (de_callD (A := ⟨T, G0, F0⟩) d_need_script (hr.mono (by decide)) tk lk (da_cons (de_var 0 rfl (.inl rfl)) da_nil))) (ds_cons (ds_expr (de_callD (A := ⟨T, G0, F0⟩) d_need_height (hr.mono (by decide)) tk lk (da_cons (de_var 1 rfl (.inl rfl)) (da_cons (de_const c_HIGH) da_nil)))) (ds_cons (ds_set (i := 4) sc.nd rfl (.inl rfl) (de_callD (A := ⟨T, G0, F0⟩) d_need_place (hr.mono (by decide)) tk lk (da_cons (de_var 1 rfl (.inl rfl)) (da_cons (de_var 2 rfl (.inl rfl)) da_nil)))) (ds_cons (ds_expr (de_callD (A := ⟨T, G0, F0⟩) d_need_rounds (hr.mono (by decide)) tk lk (da_cons (de_var 3 rfl (.inl rfl)) da_nil))) (ds_one (ds_ret (de_callD (A := ⟨T, G0, F0⟩) d_after_rounds (hr.mono (by decide)) tk lk (da_cons (de_var 0 rfl (.inl rfl)) (da_cons (de_var 1 rfl (.inl rfl)) (da_cons (de_var 4 rfl (.inl rfl)) (da_cons (de_var 3 rfl (.inl rfl)) da_nil)))))))))))
theorem sc_order : FnScope ["script", "n", "found", "place", "there", "over", "number"] ["script", "n"] (defScope (topS 38)) := ⟨rfl, rfl, rfl, by decide +kernel, rfl, by decide +kernel, by decide +kernel⟩
theorem dv_order {a : Ads} (nb : Blt mg) (c_FEW : ∃ t, mg "FEW" = some (.int (60) t)) (d_need_height : Def P w K mg base T 2 "need_height" ["value", "most"] (sp_need_height a)) (d_need_script : Def P w K mg base T 5 "need_script" ["value"] (sp_need_script a)) (d_once : Def P w K mg base T 2 "once" ["script", "n", "place"] (sp_once a))
    (f : Addr) (cdv : Value) (A0 : Around) (outer : List Env) (s : Shared) (H : Hp) (E : XK) (G0 F0 : Hp) (Wd : WD) (hr : Room 5 (A0.deeper (envOfC "order" (defScope (topS 38)) s.heap.objs.size f cdv))) (lk : LinkW K ⟨T, G0, F0⟩ (fun cls d _ H => E cls d H) Wd) :
    PSs (cxOf (L2N.CX P w) P w K mg base ["script", "n", "found", "place", "there", "over", "number"] "order" (defScope (topS 38)) f cdv A0 outer s H E) (defBody (topS 38)) (lS K ⟨T, G0, F0⟩ (td_order a Wd)) := by
  have sc := sc_order
  have tk := @tkD P w K mg base ["script", "n", "found", "place", "there", "over", "number"] "order" (defScope (topS 38)) f cdv A0 outer s H E
  have hp := @hpD P w K mg base ["script", "n", "found", "place", "there", "over", "number"] "order" (defScope (topS 38)) f cdv A0 outer s H E
  have hc : (cxOf (L2N.CX P w) P w K mg base ["script", "n", "found", "place", "there", "over", "number"] "order" (defScope (topS 38)) f cdv A0 outer s H E).calm = true := rfl
  exact (ds_cons (ds_expr (de_callD (A := ⟨T, G0, F0⟩) d_need_script (hr.mono (by decide)) tk lk (da_cons (de_var 0 rfl (.inr (.inl rfl))) da_nil))) (ds_cons (ds_expr (de_callD (A := ⟨T, G0, F0⟩) d_need_height (hr.mono (by decide)) tk lk (da_cons (de_var 1 rfl (.inr (.inl rfl))) (da_cons (de_const c_FEW) da_nil)))) (ds_cons (ds_set (i := 2) sc.nd rfl (.inl rfl) (de_callB (cd_sorted hr.units) nb.sorted (by decide +kernel) (da_cons (de_lc (own := [("place", 3)]) hc sc.nd (di_range1 nb.range (da_cons (de_var 1 rfl (.inr (.inl rfl))) da_nil)) (blkOk_by (own := [("place", 3)]) (N := ["script", "n", "found", "place", "there", "over", "number"]) (sc := defScope (topS 38)) (by decide +kernel)) (tg_name (i := 3) (by decide)) (fun _ _ _ _ _ => (pg_name (i := 3) sc.nd rfl (Or.inl rfl))) (fun _ _ _ _ _ => dts_nil) (fun _ _ _ _ _ => (de_op od_add (de_callD (A := ⟨T, G0, F0⟩) d_once (hr.mono (by decide)) tk0 lk0 (da_cons (de_var 0 rfl (.inr (.inl rfl))) (da_cons (de_var 1 rfl (.inr (.inl rfl))) (da_cons (de_var 3 rfl (.inl rfl)) da_nil)))) (de_tup (da_cons (de_var 3 rfl (.inl rfl)) da_nil))))) da_nil))) (ds_one (ds_ret (de_callTy cd_tuple nb.tuple (by decide +kernel) (da_cons (de_lc (own := [("there", 4), ("over", 5), ("number", 6)]) hc sc.nd (di_seq (de_var 2 rfl (.inl rfl))) (blkOk_by (own := [("there", 4), ("over", 5), ("number", 6)]) (N := ["script", "n", "found", "place", "there", "over", "number"]) (sc := defScope (topS 38)) (by decide +kernel)) (tg_tup (is := [4, 5, 6]) (n := 3) (by decide)) (fun _ _ _ _ _ => (pg_tup hc (pgs_cons (pg_name (i := 4) sc.nd rfl (Or.inl rfl)) (pgs_cons (pg_name (i := 5) sc.nd rfl (Or.inl rfl)) (pgs_cons (pg_name (i := 6) sc.nd rfl (Or.inl rfl)) pgs_nil))))) (fun _ _ _ _ _ => dts_nil) (fun _ _ _ _ _ => (de_tup (da_cons (de_var 6 rfl (.inl rfl)) (da_cons (de_var 5 rfl (.inl rfl)) da_nil))))) da_nil)))))))
theorem sc_law_source : FnScope ["_law_script_here", "_law_k", "_law_number", "_law_start"] ["_law_script_here", "_law_k"] (defScope (topS 40)) := ⟨rfl, rfl, rfl, by decide +kernel, rfl, by decide +kernel, by decide +kernel⟩
theorem dv_law_source {a : Ads} (nb : Blt mg)
    (f : Addr) (cdv : Value) (A0 : Around) (outer : List Env) (s : Shared) (H : Hp) (E : XK) (G0 F0 : Hp) (Wd : WD) (hr : Room 0 (A0.deeper (envOfC "_law_source" (defScope (topS 40)) s.heap.objs.size f cdv))) (lk : LinkW K ⟨T, G0, F0⟩ (fun cls d _ H => E cls d H) Wd) :
    PSs (cxOf (L2N.CX P w) P w K mg base ["_law_script_here", "_law_k", "_law_number", "_law_start"] "_law_source" (defScope (topS 40)) f cdv A0 outer s H E) (defBody (topS 40)) (lS K ⟨T, G0, F0⟩ (td_law_source a Wd)) := by
  have sc := sc_law_source
  have tk := @tkD P w K mg base ["_law_script_here", "_law_k", "_law_number", "_law_start"] "_law_source" (defScope (topS 40)) f cdv A0 outer s H E
  have hp := @hpD P w K mg base ["_law_script_here", "_law_k", "_law_number", "_law_start"] "_law_source" (defScope (topS 40)) f cdv A0 outer s H E
  have hc : (cxOf (L2N.CX P w) P w K mg base ["_law_script_here", "_law_k", "_law_number", "_law_start"] "_law_source" (defScope (topS 40)) f cdv A0 outer s H E).calm = true := rfl
  exact (ds_cons (ds_set (i := 2) sc.nd rfl (.inl rfl) de_int) (ds_cons (ds_if (dt_cmp od_gt (de_callB cd_len nb.len (by decide +kernel) (da_cons (de_var 0 rfl (.inl rfl)) da_nil)) (de_var 1 rfl (.inl rfl)) (nomark _)) (ds_one (ds_set (i := 2) sc.nd rfl (.inl rfl) (de_callTy cd_int nb.int (by decide +kernel) (da_cons (de_ix (de_var 0 rfl (.inl rfl)) (de_var 1 rfl (.inl rfl))) da_nil)))) ds_nil) (ds_cons (ds_set (i := 3) sc.nd rfl (.inl rfl) (de_op od_mod (de_op od_add (de_op od_add (de_op od_mul (de_var 2 rfl (.inl rfl)) de_int) (de_op od_mul de_int (de_var 1 rfl (.inl rfl)))) de_int) de_int)) (ds_cons (ds_set (i := 3) sc.nd rfl (.inl rfl) (de_op od_add (de_op od_add (de_op od_mod (de_op od_mul (de_var 3 rfl (.inl rfl)) (de_var 3 rfl (.inl rfl))) de_int) (de_op od_mul de_int (de_var 1 rfl (.inl rfl)))) de_int)) (ds_one (ds_ret (de_lstM (da_cons (de_if (dt_cmp od_ge (de_var 2 rfl (.inl rfl)) (de_op od_pow de_int de_int) (nomark _)) (de_var 2 rfl (.inl rfl)) de_int) (da_cons (de_var 3 rfl (.inl rfl)) da_nil)))))))))
theorem sc_law_pick : FnScope ["_law_source_here", "_law_many", "_law_found"] ["_law_source_here", "_law_many"] (defScope (topS 41)) := ⟨rfl, rfl, rfl, by decide +kernel, rfl, by decide +kernel, by decide +kernel⟩
theorem dv_law_pick {a : Ads} (nb : Blt mg)
    (f : Addr) (cdv : Value) (A0 : Around) (outer : List Env) (s : Shared) (H : Hp) (E : XK) (G0 F0 : Hp) (Wd : WD) (hr : Room 0 (A0.deeper (envOfC "_law_pick" (defScope (topS 41)) s.heap.objs.size f cdv))) (lk : LinkW K ⟨T, G0, F0⟩ (fun cls d _ H => E cls d H) Wd) :
    PSs (cxOf (L2N.CX P w) P w K mg base ["_law_source_here", "_law_many", "_law_found"] "_law_pick" (defScope (topS 41)) f cdv A0 outer s H E) (defBody (topS 41)) (lS K ⟨T, G0, F0⟩ (td_law_pick a Wd)) := by
  have sc := sc_law_pick
  have tk := @tkD P w K mg base ["_law_source_here", "_law_many", "_law_found"] "_law_pick" (defScope (topS 41)) f cdv A0 outer s H E
  have hp := @hpD P w K mg base ["_law_source_here", "_law_many", "_law_found"] "_law_pick" (defScope (topS 41)) f cdv A0 outer s H E
  have hc : (cxOf (L2N.CX P w) P w K mg base ["_law_source_here", "_law_many", "_law_found"] "_law_pick" (defScope (topS 41)) f cdv A0 outer s H E).calm = true := rfl
  exact (ds_cons (ds_if (dt_cmp od_gt (de_ix (de_var 0 rfl (.inl rfl)) de_int) de_int (nomark _)) (ds_cons (ds_set (i := 2) sc.nd rfl (.inl rfl) (de_op od_mod (de_callTy cd_int nb.int (by decide +kernel) (da_cons (de_ix (de_var 0 rfl (.inl rfl)) de_int) da_nil)) (de_var 1 rfl (.inl rfl)))) (ds_cons (ds_asg (de_op od_fdiv (de_callTy cd_int nb.int (by decide +kernel) (da_cons (de_ix (de_var 0 rfl (.inl rfl)) de_int) da_nil)) (de_var 1 rfl (.inl rfl))) (dg_sub (de_var 0 rfl (.inl rfl)) de_int)) (ds_one (ds_ret (de_var 2 rfl (.inl rfl)))))) ds_nil) (ds_cons (ds_asg (de_op od_mod (de_callTy cd_int nb.int (by decide +kernel) (da_cons (de_op od_add (de_op od_mul (de_ix (de_var 0 rfl (.inl rfl)) de_int) de_int) de_int) da_nil)) de_int) (dg_sub (de_var 0 rfl (.inl rfl)) de_int)) (ds_one (ds_ret (de_op od_mod (de_op od_fdiv (de_op od_mod (de_callTy cd_int nb.int (by decide +kernel) (da_cons (de_op od_mul (de_ix (de_var 0 rfl (.inl rfl)) de_int) (de_ix (de_var 0 rfl (.inl rfl)) de_int)) da_nil)) de_int) de_int) (de_var 1 rfl (.inl rfl)))))))
theorem sc_law_chosen : FnScope ["_law_source_here", "_law_things"] ["_law_source_here", "_law_things"] (defScope (topS 42)) := ⟨rfl, rfl, rfl, by decide +kernel, rfl, by decide +kernel, by decide +kernel⟩
theorem dv_law_chosen {a : Ads} (nb : Blt mg) (d__law_pick : Def P w K mg base T 1 "_law_pick" ["_law_source_here", "_law_many"] (sp_law_pick a))
    (f : Addr) (cdv : Value) (A0 : Around) (outer : List Env) (s : Shared) (H : Hp) (E : XK) (G0 F0 : Hp) (Wd : WD) (hr : Room 1 (A0.deeper (envOfC "_law_chosen" (defScope (topS 42)) s.heap.objs.size f cdv))) (lk : LinkW K ⟨T, G0, F0⟩ (fun cls d _ H => E cls d H) Wd) :
    PSs (cxOf (L2N.CX P w) P w K mg base ["_law_source_here", "_law_things"] "_law_chosen" (defScope (topS 42)) f cdv A0 outer s H E) (defBody (topS 42)) (lS K ⟨T, G0, F0⟩ (td_law_chosen a Wd)) := by
  have sc := sc_law_chosen
  have tk := @tkD P w K mg base ["_law_source_here", "_law_things"] "_law_chosen" (defScope (topS 42)) f cdv A0 outer s H E
  have hp := @hpD P w K mg base ["_law_source_here", "_law_things"] "_law_chosen" (defScope (topS 42)) f cdv A0 outer s H E
  have hc : (cxOf (L2N.CX P w) P w K mg base ["_law_source_here", "_law_things"] "_law_chosen" (defScope (topS 42)) f cdv A0 outer s H E).calm = true := rfl
  exact (ds_one (ds_ret (de_ix (de_var 1 rfl (.inl rfl)) (de_callD (A := ⟨T, G0, F0⟩) d__law_pick (hr.mono (by decide)) tk lk (da_cons (de_var 0 rfl (.inl rfl)) (da_cons (de_callB cd_len nb.len (by decide +kernel) (da_cons (de_var 1 rfl (.inl rfl)) da_nil)) da_nil))))))
theorem sc_law_by_two : FnScope ["_law_call", "_law_one", "_law_other"] ["_law_call", "_law_one", "_law_other"] (defScope (topS 43)) := ⟨rfl, rfl, rfl, by decide +kernel, rfl, by decide +kernel, by decide +kernel⟩
theorem dv_law_by_two {a : Ads} (hS : Holds P w K mg base T 6 (heldS a)) {c Pt : Addr} (TB : LamX.TabB base mg c Pt) (hmT : (Pt, Str.ofString "_law_by_two.<locals>.<lambda>") ∈ T) (hu : ∀ p ∈ T, p.1 = Pt → p.2 = Str.ofString "_law_by_two.<locals>.<lambda>") (r__law_refused : RefD P w K mg base T 7 "_law_refused" (wordA a))
    (f : Addr) (cdv : Value) (A0 : Around) (outer : List Env) (s : Shared) (H : Hp) (E : XK) (G0 F0 : Hp) (Wd : WD) (hcode : cdv = .ref c) (hr : Room 8 (A0.deeper (envOfC "_law_by_two" (defScope (topS 43)) s.heap.objs.size f cdv))) (lk : LinkW K ⟨T, G0, F0⟩ (fun cls d _ H => E cls d H) Wd) :
    PSs (cxOf (L2N.CX P w) P w K mg base ["_law_call", "_law_one", "_law_other"] "_law_by_two" (defScope (topS 43)) f cdv A0 outer s H E) (defBody (topS 43)) (lS K ⟨T, G0, F0⟩ (td_law_by_two a Wd)) := by
  have sc := sc_law_by_two
  have tk := @tkD P w K mg base ["_law_call", "_law_one", "_law_other"] "_law_by_two" (defScope (topS 43)) f cdv A0 outer s H E
  have hp := @hpD P w K mg base ["_law_call", "_law_one", "_law_other"] "_law_by_two" (defScope (topS 43)) f cdv A0 outer s H E
  have hc : (cxOf (L2N.CX P w) P w K mg base ["_law_call", "_law_one", "_law_other"] "_law_by_two" (defScope (topS 43)) f cdv A0 outer s H E).calm = true := rfl
  exact (ds_one (ds_ret (de_refused (A := ⟨T, G0, F0⟩) r__law_refused TB hcode hmT hu (hr.mono (by decide)) (LamX.lamS_by (sc := defScope (topS 43)) (by decide +kernel)) fun A1 o1 s1 H1 E1 f1 c1 G1 F1 Wl hrl lkl => (de_callV (A := ⟨T, G1, F1⟩) (i := 0) hS (hrl.mono (by decide)) tkL lkl (da_cons (de_var 1 rfl (.inr (.inr rfl))) (da_cons (de_var 2 rfl (.inr (.inr rfl))) da_nil)) rfl (.inr (.inr rfl))))))
theorem sc_law_by_four : FnScope ["_law_call", "_law_one", "_law_other", "_law_third", "_law_last"] ["_law_call", "_law_one", "_law_other", "_law_third", "_law_last"] (defScope (topS 44)) := ⟨rfl, rfl, rfl, by decide +kernel, rfl, by decide +kernel, by decide +kernel⟩
theorem dv_law_by_four {a : Ads} (hS : Holds P w K mg base T 6 (heldS a)) {c Pt : Addr} (TB : LamX.TabB base mg c Pt) (hmT : (Pt, Str.ofString "_law_by_four.<locals>.<lambda>") ∈ T) (hu : ∀ p ∈ T, p.1 = Pt → p.2 = Str.ofString "_law_by_four.<locals>.<lambda>") (r__law_refused : RefD P w K mg base T 7 "_law_refused" (wordA a))
    (f : Addr) (cdv : Value) (A0 : Around) (outer : List Env) (s : Shared) (H : Hp) (E : XK) (G0 F0 : Hp) (Wd : WD) (hcode : cdv = .ref c) (hr : Room 8 (A0.deeper (envOfC "_law_by_four" (defScope (topS 44)) s.heap.objs.size f cdv))) (lk : LinkW K ⟨T, G0, F0⟩ (fun cls d _ H => E cls d H) Wd) :
    PSs (cxOf (L2N.CX P w) P w K mg base ["_law_call", "_law_one", "_law_other", "_law_third", "_law_last"] "_law_by_four" (defScope (topS 44)) f cdv A0 outer s H E) (defBody (topS 44)) (lS K ⟨T, G0, F0⟩ (td_law_by_four a Wd)) := by
  have sc := sc_law_by_four
  have tk := @tkD P w K mg base ["_law_call", "_law_one", "_law_other", "_law_third", "_law_last"] "_law_by_four" (defScope (topS 44)) f cdv A0 outer s H E
  have hp := @hpD P w K mg base ["_law_call", "_law_one", "_law_other", "_law_third", "_law_last"] "_law_by_four" (defScope (topS 44)) f cdv A0 outer s H E
  have hc : (cxOf (L2N.CX P w) P w K mg base ["_law_call", "_law_one", "_law_other", "_law_third", "_law_last"] "_law_by_four" (defScope (topS 44)) f cdv A0 outer s H E).calm = true := rfl
  exact (ds_one (ds_ret (de_refused (A := ⟨T, G0, F0⟩) r__law_refused TB hcode hmT hu (hr.mono (by decide)) (LamX.lamS_by (sc := defScope (topS 44)) (by decide +kernel)) fun A1 o1 s1 H1 E1 f1 c1 G1 F1 Wl hrl lkl => (de_callV (A := ⟨T, G1, F1⟩) (i := 0) hS (hrl.mono (by decide)) tkL lkl (da_cons (de_var 1 rfl (.inr (.inr rfl))) (da_cons (de_var 2 rfl (.inr (.inr rfl))) (da_cons (de_var 3 rfl (.inr (.inr rfl))) (da_cons (de_var 4 rfl (.inr (.inr rfl))) da_nil)))) rfl (.inr (.inr rfl))))))
theorem sc_law_refused : FnScope ["_law_call", "_law_e"] ["_law_call"] (defScope (topS 45)) := ⟨rfl, rfl, rfl, by decide +kernel, rfl, by decide +kernel, by decide +kernel⟩
theorem sc_law_error : FnScope ["_law_e", "_law_some", "_law_word_so", "_law_good"] ["_law_e"] (defScope (topS 46)) := ⟨rfl, rfl, rfl, by decide +kernel, rfl, by decide +kernel, by decide +kernel⟩
theorem dv_law_error {a : Ads} (nb : Blt mg) (k_InvalidFlip : mg "InvalidFlip" = some (.ref (a.c "InvalidFlip"))) (k_InvalidHeight : mg "InvalidHeight" = some (.ref (a.c "InvalidHeight"))) (k_InvalidIndex : mg "InvalidIndex" = some (.ref (a.c "InvalidIndex"))) (k_InvalidNumber : mg "InvalidNumber" = some (.ref (a.c "InvalidNumber"))) (k_InvalidPlace : mg "InvalidPlace" = some (.ref (a.c "InvalidPlace"))) (k_InvalidScript : mg "InvalidScript" = some (.ref (a.c "InvalidScript"))) (k_InvalidStack : mg "InvalidStack" = some (.ref (a.c "InvalidStack"))) (k_InvalidText : mg "InvalidText" = some (.ref (a.c "InvalidText"))) (k_NothingToUndo : mg "NothingToUndo" = some (.ref (a.c "NothingToUndo"))) (k_TooMany : mg "TooMany" = some (.ref (a.c "TooMany"))) (k_Unlike : mg "Unlike" = some (.ref (a.c "Unlike")))
    (f : Addr) (cdv : Value) (A0 : Around) (outer : List Env) (s : Shared) (H : Hp) (E : XK) (G0 F0 : Hp) (p : Addr × Obj) (D : Addr) (hr : RoomH 0 (A0.deeper (envOfC "_law_error" (defScope (topS 46)) s.heap.objs.size f cdv))) (hot : Hot1 A0 p) (ho : ErrO K D p.2) :
    PSs (cxH (L2N.CX P w) P w K mg base ["_law_e", "_law_some", "_law_word_so", "_law_good"] "_law_error" (defScope (topS 46)) f cdv A0 outer s H E p) (defBody (topS 46)) (lS K ⟨T, G0, F0⟩ (td_law_error a p.1 fun c => PySem.W.kitOne K (.ref D) (.ref c))) := by
  have sc := sc_law_error
  have hc : HotC (cxH (L2N.CX P w) P w K mg base ["_law_e", "_law_some", "_law_word_so", "_law_good"] "_law_error" (defScope (topS 46)) f cdv A0 outer s H E p) := ⟨p, hot, List.mem_singleton_self p⟩
  have hp : p ∈ (cxH (L2N.CX P w) P w K mg base ["_law_e", "_law_some", "_law_word_so", "_law_good"] "_law_error" (defScope (topS 46)) f cdv A0 outer s H E p).pn := List.mem_singleton_self p
  exact (ds_cons (ds_set (i := 1) sc.nd rfl (.inl rfl) (de_lst (da_cons (de_tup (da_cons de_str (da_cons (de_callB (cd_isP hp ho) nb.isinstance (by decide +kernel) (da_cons (de_var 0 rfl (.inl rfl)) (da_cons (de_fun k_InvalidFlip) da_nil))) da_nil))) (da_cons (de_tup (da_cons de_str (da_cons (de_callB (cd_isP hp ho) nb.isinstance (by decide +kernel) (da_cons (de_var 0 rfl (.inl rfl)) (da_cons (de_fun k_InvalidScript) da_nil))) da_nil))) da_nil)))) (ds_cons (ds_set (i := 1) sc.nd rfl (.inl rfl) (de_op od_add (de_var 1 rfl (.inl rfl)) (de_lst (da_cons (de_tup (da_cons de_str (da_cons (de_callB (cd_isP hp ho) nb.isinstance (by decide +kernel) (da_cons (de_var 0 rfl (.inl rfl)) (da_cons (de_fun k_InvalidHeight) da_nil))) da_nil))) (da_cons (de_tup (da_cons de_str (da_cons (de_callB (cd_isP hp ho) nb.isinstance (by decide +kernel) (da_cons (de_var 0 rfl (.inl rfl)) (da_cons (de_fun k_InvalidPlace) da_nil))) da_nil))) da_nil))))) (ds_cons (ds_set (i := 1) sc.nd rfl (.inl rfl) (de_op od_add (de_var 1 rfl (.inl rfl)) (de_lst (da_cons (de_tup (da_cons de_str (da_cons (de_callB (cd_isP hp ho) nb.isinstance (by decide +kernel) (da_cons (de_var 0 rfl (.inl rfl)) (da_cons (de_fun k_InvalidNumber) da_nil))) da_nil))) (da_cons (de_tup (da_cons de_str (da_cons (de_callB (cd_isP hp ho) nb.isinstance (by decide +kernel) (da_cons (de_var 0 rfl (.inl rfl)) (da_cons (de_fun k_InvalidIndex) da_nil))) da_nil))) da_nil))))) (ds_cons (ds_set (i := 1) sc.nd rfl (.inl rfl) (de_op od_add (de_var 1 rfl (.inl rfl)) (de_lst (da_cons (de_tup (da_cons de_str (da_cons (de_callB (cd_isP hp ho) nb.isinstance (by decide +kernel) (da_cons (de_var 0 rfl (.inl rfl)) (da_cons (de_fun k_InvalidStack) da_nil))) da_nil))) (da_cons (de_tup (da_cons de_str (da_cons (de_callB (cd_isP hp ho) nb.isinstance (by decide +kernel) (da_cons (de_var 0 rfl (.inl rfl)) (da_cons (de_fun k_Unlike) da_nil))) da_nil))) da_nil))))) (ds_cons (ds_set (i := 1) sc.nd rfl (.inl rfl) (de_op od_add (de_var 1 rfl (.inl rfl)) (de_lst (da_cons (de_tup (da_cons de_str (da_cons (de_callB (cd_isP hp ho) nb.isinstance (by decide +kernel) (da_cons (de_var 0 rfl (.inl rfl)) (da_cons (de_fun k_NothingToUndo) da_nil))) da_nil))) (da_cons (de_tup (da_cons de_str (da_cons (de_callB (cd_isP hp ho) nb.isinstance (by decide +kernel) (da_cons (de_var 0 rfl (.inl rfl)) (da_cons (de_fun k_TooMany) da_nil))) da_nil))) da_nil))))) (ds_cons (ds_set (i := 1) sc.nd rfl (.inl rfl) (de_op od_add (de_var 1 rfl (.inl rfl)) (de_lst (da_cons (de_tup (da_cons de_str (da_cons (de_callB (cd_isP hp ho) nb.isinstance (by decide +kernel) (da_cons (de_var 0 rfl (.inl rfl)) (da_cons (de_fun k_InvalidText) da_nil))) da_nil))) da_nil)))) (ds_one (ds_ret (de_join de_str (de_lcH (own := [("_law_word_so", 2), ("_law_good", 3)]) hc sc.nd (di_lstH (de_var 1 rfl (.inl rfl))) (blkOk_by (own := [("_law_word_so", 2), ("_law_good", 3)]) (N := ["_law_e", "_law_some", "_law_word_so", "_law_good"]) (sc := defScope (topS 46)) (by decide +kernel)) (tg_tup (is := [2, 3]) (n := 2) (by decide)) (fun p hot _ _ _ _ _ => (pg_tupH ⟨p, hot, List.mem_singleton_self p⟩ (pgs_cons (pg_name (i := 2) sc.nd rfl (Or.inl rfl)) (pgs_cons (pg_name (i := 3) sc.nd rfl (Or.inl rfl)) pgs_nil)))) (fun p hot _ _ _ _ _ => (dts_one (dt_val (de_var 3 rfl (.inl rfl))))) (fun p hot _ _ _ _ _ => (de_var 2 rfl (.inl rfl)))))))))))))
theorem sc_law_flip : FnScope ["_law_source_here", "_law_way"] ["_law_source_here"] (defScope (topS 47)) := ⟨rfl, rfl, rfl, by decide +kernel, rfl, by decide +kernel, by decide +kernel⟩
theorem dv_law_flip {a : Ads} (d__law_pick : Def P w K mg base T 1 "_law_pick" ["_law_source_here", "_law_many"] (sp_law_pick a))
    (f : Addr) (cdv : Value) (A0 : Around) (outer : List Env) (s : Shared) (H : Hp) (E : XK) (G0 F0 : Hp) (Wd : WD) (hr : Room 1 (A0.deeper (envOfC "_law_flip" (defScope (topS 47)) s.heap.objs.size f cdv))) (lk : LinkW K ⟨T, G0, F0⟩ (fun cls d _ H => E cls d H) Wd) :
    PSs (cxOf (L2N.CX P w) P w K mg base ["_law_source_here", "_law_way"] "_law_flip" (defScope (topS 47)) f cdv A0 outer s H E) (defBody (topS 47)) (lS K ⟨T, G0, F0⟩ (td_law_flip a Wd)) := by
  have sc := sc_law_flip
  have tk := @tkD P w K mg base ["_law_source_here", "_law_way"] "_law_flip" (defScope (topS 47)) f cdv A0 outer s H E
  have hp := @hpD P w K mg base ["_law_source_here", "_law_way"] "_law_flip" (defScope (topS 47)) f cdv A0 outer s H E
  have hc : (cxOf (L2N.CX P w) P w K mg base ["_law_source_here", "_law_way"] "_law_flip" (defScope (topS 47)) f cdv A0 outer s H E).calm = true := rfl
  exact (ds_cons (ds_set (i := 1) sc.nd rfl (.inl rfl) (de_callD (A := ⟨T, G0, F0⟩) d__law_pick (hr.mono (by decide)) tk lk (da_cons (de_var 0 rfl (.inl rfl)) (da_cons de_int da_nil)))) (ds_one (ds_ret (de_if (dt_cmp od_lt (de_var 1 rfl (.inl rfl)) de_int (nomark _)) (de_tup (da_cons de_str (da_cons (de_var 1 rfl (.inl rfl)) da_nil))) (de_tup (da_cons de_str (da_cons (de_op od_sub (de_var 1 rfl (.inl rfl)) de_int) da_nil)))))))
theorem sc_law_script : FnScope ["_law_source_here", "_law_most_so", "_law_turn"] ["_law_source_here", "_law_most_so"] (defScope (topS 48)) := ⟨rfl, rfl, rfl, by decide +kernel, rfl, by decide +kernel, by decide +kernel⟩
theorem dv_law_script {a : Ads} (nb : Blt mg) (d__law_flip : Def P w K mg base T 2 "_law_flip" ["_law_source_here"] (sp_law_flip a)) (d__law_pick : Def P w K mg base T 1 "_law_pick" ["_law_source_here", "_law_many"] (sp_law_pick a))
    (f : Addr) (cdv : Value) (A0 : Around) (outer : List Env) (s : Shared) (H : Hp) (E : XK) (G0 F0 : Hp) (Wd : WD) (hr : Room 2 (A0.deeper (envOfC "_law_script" (defScope (topS 48)) s.heap.objs.size f cdv))) (lk : LinkW K ⟨T, G0, F0⟩ (fun cls d _ H => E cls d H) Wd) :
    PSs (cxOf (L2N.CX P w) P w K mg base ["_law_source_here", "_law_most_so", "_law_turn"] "_law_script" (defScope (topS 48)) f cdv A0 outer s H E) (defBody (topS 48)) (lS K ⟨T, G0, F0⟩ (td_law_script a Wd)) := by
  have sc := sc_law_script
  have tk := @tkD P w K mg base ["_law_source_here", "_law_most_so", "_law_turn"] "_law_script" (defScope (topS 48)) f cdv A0 outer s H E
  have hp := @hpD P w K mg base ["_law_source_here", "_law_most_so", "_law_turn"] "_law_script" (defScope (topS 48)) f cdv A0 outer s H E
  have hc : (cxOf (L2N.CX P w) P w K mg base ["_law_source_here", "_law_most_so", "_law_turn"] "_law_script" (defScope (topS 48)) f cdv A0 outer s H E).calm = true := rfl
  exact (ds_one (ds_ret (de_callTy cd_tuple nb.tuple (by decide +kernel) (da_cons (de_lc (own := [("_law_turn", 2)]) hc sc.nd (di_range1 nb.range (da_cons (de_callD (A := ⟨T, G0, F0⟩) d__law_pick (hr.mono (by decide)) tk lk (da_cons (de_var 0 rfl (.inr (.inl rfl))) (da_cons (de_op od_add (de_var 1 rfl (.inl rfl)) de_int) da_nil))) da_nil)) (blkOk_by (own := [("_law_turn", 2)]) (N := ["_law_source_here", "_law_most_so", "_law_turn"]) (sc := defScope (topS 48)) (by decide +kernel)) (tg_name (i := 2) (by decide)) (fun _ _ _ _ _ => (pg_name (i := 2) sc.nd rfl (Or.inl rfl))) (fun _ _ _ _ _ => dts_nil) (fun _ _ _ _ _ => (de_callD (A := ⟨T, G0, F0⟩) d__law_flip (hr.mono (by decide)) tk0 lk0 (da_cons (de_var 0 rfl (.inr (.inl rfl))) da_nil)))) da_nil))))
theorem sc_law_flipped : FnScope ["_law_lying_here", "_law_flip_here", "_law_block", "_law_number", "_law_over"] ["_law_lying_here", "_law_flip_here"] (defScope (topS 49)) := ⟨rfl, rfl, rfl, by decide +kernel, rfl, by decide +kernel, by decide +kernel⟩
theorem dv_law_flipped {a : Ads} (nb : Blt mg)
    (f : Addr) (cdv : Value) (A0 : Around) (outer : List Env) (s : Shared) (H : Hp) (E : XK) (G0 F0 : Hp) (Wd : WD) (hr : Room 0 (A0.deeper (envOfC "_law_flipped" (defScope (topS 49)) s.heap.objs.size f cdv))) (lk : LinkW K ⟨T, G0, F0⟩ (fun cls d _ H => E cls d H) Wd) :
    PSs (cxOf (L2N.CX P w) P w K mg base ["_law_lying_here", "_law_flip_here", "_law_block", "_law_number", "_law_over"] "_law_flipped" (defScope (topS 49)) f cdv A0 outer s H E) (defBody (topS 49)) (lS K ⟨T, G0, F0⟩ (td_law_flipped a Wd)) := by
  have sc := sc_law_flipped
  have tk := @tkD P w K mg base ["_law_lying_here", "_law_flip_here", "_law_block", "_law_number", "_law_over"] "_law_flipped" (defScope (topS 49)) f cdv A0 outer s H E
  have hp := @hpD P w K mg base ["_law_lying_here", "_law_flip_here", "_law_block", "_law_number", "_law_over"] "_law_flipped" (defScope (topS 49)) f cdv A0 outer s H E
  have hc : (cxOf (L2N.CX P w) P w K mg base ["_law_lying_here", "_law_flip_here", "_law_block", "_law_number", "_law_over"] "_law_flipped" (defScope (topS 49)) f cdv A0 outer s H E).calm = true := rfl
  exact (ds_cons (ds_set (i := 2) sc.nd rfl (.inl rfl) (de_if (dt_cmp (od_eq hr.units) (de_ix (de_var 1 rfl (.inl rfl)) de_int) de_str (nomark _)) (de_ix (de_var 1 rfl (.inl rfl)) de_int) (de_op od_sub (de_callB cd_len nb.len (by decide +kernel) (da_cons (de_var 0 rfl (.inl rfl)) da_nil)) (de_ix (de_var 1 rfl (.inl rfl)) de_int)))) (ds_one (ds_ret (de_op od_add (de_rev (de_lc (own := [("_law_number", 3), ("_law_over", 4)]) hc sc.nd (di_seq (de_slice (de_var 0 rfl (.inl rfl)) do_none (do_some (de_var 2 rfl (.inl rfl))))) (blkOk_by (own := [("_law_number", 3), ("_law_over", 4)]) (N := ["_law_lying_here", "_law_flip_here", "_law_block", "_law_number", "_law_over"]) (sc := defScope (topS 49)) (by decide +kernel)) (tg_tup (is := [3, 4]) (n := 2) (by decide)) (fun _ _ _ _ _ => (pg_tup hc (pgs_cons (pg_name (i := 3) sc.nd rfl (Or.inl rfl)) (pgs_cons (pg_name (i := 4) sc.nd rfl (Or.inl rfl)) pgs_nil)))) (fun _ _ _ _ _ => dts_nil) (fun _ _ _ _ _ => (de_tup (da_cons (de_var 3 rfl (.inl rfl)) (da_cons (de_not (de_var 4 rfl (.inl rfl))) da_nil)))))) (de_slice (de_var 0 rfl (.inl rfl)) (do_some (de_var 2 rfl (.inl rfl))) do_none)))))
theorem sc_law_lying : FnScope ["_law_script_so", "_law_n", "_law_lying_here", "_law_flip_here", "_law_number"] ["_law_script_so", "_law_n"] (defScope (topS 50)) := ⟨rfl, rfl, rfl, by decide +kernel, rfl, by decide +kernel, by decide +kernel⟩
theorem dv_law_lying {a : Ads} (nb : Blt mg) (d__law_flipped : Def P w K mg base T 1 "_law_flipped" ["_law_lying_here", "_law_flip_here"] (sp_law_flipped a))
    (f : Addr) (cdv : Value) (A0 : Around) (outer : List Env) (s : Shared) (H : Hp) (E : XK) (G0 F0 : Hp) (Wd : WD) (hr : Room 1 (A0.deeper (envOfC "_law_lying" (defScope (topS 50)) s.heap.objs.size f cdv))) (lk : LinkW K ⟨T, G0, F0⟩ (fun cls d _ H => E cls d H) Wd) :
    PSs (cxOf (L2N.CX P w) P w K mg base ["_law_script_so", "_law_n", "_law_lying_here", "_law_flip_here", "_law_number"] "_law_lying" (defScope (topS 50)) f cdv A0 outer s H E) (defBody (topS 50)) (lS K ⟨T, G0, F0⟩ (td_law_lying a Wd)) := by
  have sc := sc_law_lying
  have tk := @tkD P w K mg base ["_law_script_so", "_law_n", "_law_lying_here", "_law_flip_here", "_law_number"] "_law_lying" (defScope (topS 50)) f cdv A0 outer s H E
  have hp := @hpD P w K mg base ["_law_script_so", "_law_n", "_law_lying_here", "_law_flip_here", "_law_number"] "_law_lying" (defScope (topS 50)) f cdv A0 outer s H E
  have hc : (cxOf (L2N.CX P w) P w K mg base ["_law_script_so", "_law_n", "_law_lying_here", "_law_flip_here", "_law_number"] "_law_lying" (defScope (topS 50)) f cdv A0 outer s H E).calm = true := rfl
  exact (ds_cons (ds_setLc (i := 2) (own := [("_law_number", 4)]) hc sc.nd rfl rfl (sw_true rfl rfl rfl (by decide +kernel)) (di_range1 nb.range (da_cons (de_var 1 rfl (.inl rfl)) da_nil)) (blkOk_by (own := [("_law_number", 4)]) (N := ["_law_script_so", "_law_n", "_law_lying_here", "_law_flip_here", "_law_number"]) (sc := defScope (topS 50)) (by decide +kernel)) (tg_name (i := 4) (by decide)) (fun _ _ _ _ _ => (pg_name (i := 4) sc.nd rfl (Or.inl rfl))) (fun _ _ _ _ _ => dts_nil) (fun _ _ _ _ _ => (de_tup (da_cons (de_var 4 rfl (.inl rfl)) (da_cons de_bl da_nil))))) (ds_cons (ds_for hp hc (di_seq (de_var 0 rfl (.inl rfl))) (dg_name (i := 3) sc.nd rfl (.inl rfl)) (ds_one (ds_set (i := 2) sc.nd rfl (.inl rfl) (de_callD (A := ⟨T, G0, F0⟩) d__law_flipped (hr.mono (by decide)) tk lk (da_cons (de_var 2 rfl (.inl rfl)) (da_cons (de_var 3 rfl (.inl rfl)) da_nil)))))) (ds_one (ds_ret (de_var 2 rfl (.inl rfl))))))
theorem sc_law_goes : FnScope ["_law_script_so", "_law_n", "_law_found", "_law_place_so", "_law_row_so"] ["_law_script_so", "_law_n"] (defScope (topS 51)) := ⟨rfl, rfl, rfl, by decide +kernel, rfl, by decide +kernel, by decide +kernel⟩
theorem dv_law_goes {a : Ads} (nb : Blt mg) (d__law_lying : Def P w K mg base T 2 "_law_lying" ["_law_script_so", "_law_n"] (sp_law_lying a))
    (f : Addr) (cdv : Value) (A0 : Around) (outer : List Env) (s : Shared) (H : Hp) (E : XK) (G0 F0 : Hp) (Wd : WD) (hr : Room 2 (A0.deeper (envOfC "_law_goes" (defScope (topS 51)) s.heap.objs.size f cdv))) (lk : LinkW K ⟨T, G0, F0⟩ (fun cls d _ H => E cls d H) Wd) :
    PSs (cxOf (L2N.CX P w) P w K mg base ["_law_script_so", "_law_n", "_law_found", "_law_place_so", "_law_row_so"] "_law_goes" (defScope (topS 51)) f cdv A0 outer s H E) (defBody (topS 51)) (lS K ⟨T, G0, F0⟩ (td_law_goes a Wd)) := by
  have sc := sc_law_goes
  have tk := @tkD P w K mg base ["_law_script_so", "_law_n", "_law_found", "_law_place_so", "_law_row_so"] "_law_goes" (defScope (topS 51)) f cdv A0 outer s H E
  have hp := @hpD P w K mg base ["_law_script_so", "_law_n", "_law_found", "_law_place_so", "_law_row_so"] "_law_goes" (defScope (topS 51)) f cdv A0 outer s H E
  have hc : (cxOf (L2N.CX P w) P w K mg base ["_law_script_so", "_law_n", "_law_found", "_law_place_so", "_law_row_so"] "_law_goes" (defScope (topS 51)) f cdv A0 outer s H E).calm = true := rfl
  exact (ds_cons (ds_set (i := 2) sc.nd rfl (.inl rfl) (de_op od_mulM (de_lst (da_cons de_non da_nil)) (de_var 1 rfl (.inl rfl)))) (ds_cons (ds_for hp hc (di_enum nb.enumerate (de_callD (A := ⟨T, G0, F0⟩) d__law_lying (hr.mono (by decide)) tk lk (da_cons (de_var 0 rfl (.inl rfl)) (da_cons (de_var 1 rfl (.inl rfl)) da_nil)))) (dg_tup hc (dgs_cons (dg_name (i := 3) sc.nd rfl (.inl rfl)) (dgs_cons (dg_name (i := 4) sc.nd rfl (.inl rfl)) dgs_nil))) (ds_one (ds_asg (de_tup (da_cons (de_var 3 rfl (.inl rfl)) (da_cons (de_ix (de_var 4 rfl (.inl rfl)) de_int) da_nil))) (dg_sub (de_var 2 rfl (.inl rfl)) (de_ix (de_var 4 rfl (.inl rfl)) de_int))))) (ds_one (ds_ret (de_var 2 rfl (.inl rfl))))))
theorem sc_law_step : FnScope ["_law_script_so", "_law_n", "_law_place_so", "_law_over", "_law_word_so", "_law_many", "_law_block"] ["_law_script_so", "_law_n", "_law_place_so"] (defScope (topS 52)) := ⟨rfl, rfl, rfl, by decide +kernel, rfl, by decide +kernel, by decide +kernel⟩
theorem dv_law_step {a : Ads} 
    (f : Addr) (cdv : Value) (A0 : Around) (outer : List Env) (s : Shared) (H : Hp) (E : XK) (G0 F0 : Hp) (Wd : WD) (hr : Room 0 (A0.deeper (envOfC "_law_step" (defScope (topS 52)) s.heap.objs.size f cdv))) (lk : LinkW K ⟨T, G0, F0⟩ (fun cls d _ H => E cls d H) Wd) :
    PSs (cxOf (L2N.CX P w) P w K mg base ["_law_script_so", "_law_n", "_law_place_so", "_law_over", "_law_word_so", "_law_many", "_law_block"] "_law_step" (defScope (topS 52)) f cdv A0 outer s H E) (defBody (topS 52)) (lS K ⟨T, G0, F0⟩ (td_law_step a Wd)) := by
  have sc := sc_law_step
  have tk := @tkD P w K mg base ["_law_script_so", "_law_n", "_law_place_so", "_law_over", "_law_word_so", "_law_many", "_law_block"] "_law_step" (defScope (topS 52)) f cdv A0 outer s H E
  have hp := @hpD P w K mg base ["_law_script_so", "_law_n", "_law_place_so", "_law_over", "_law_word_so", "_law_many", "_law_block"] "_law_step" (defScope (topS 52)) f cdv A0 outer s H E
  have hc : (cxOf (L2N.CX P w) P w K mg base ["_law_script_so", "_law_n", "_law_place_so", "_law_over", "_law_word_so", "_law_many", "_law_block"] "_law_step" (defScope (topS 52)) f cdv A0 outer s H E).calm = true := rfl
  exact (ds_cons (ds_set (i := 3) sc.nd rfl (.inl rfl) de_bl) (ds_cons (ds_for hp hc (di_seq (de_var 0 rfl (.inl rfl))) (dg_tup hc (dgs_cons (dg_name (i := 4) sc.nd rfl (.inl rfl)) (dgs_cons (dg_name (i := 5) sc.nd rfl (.inl rfl)) dgs_nil))) (ds_cons (ds_set (i := 6) sc.nd rfl (.inl rfl) (de_if (dt_cmp (od_eq hr.units) (de_var 4 rfl (.inl rfl)) de_str (nomark _)) (de_var 5 rfl (.inl rfl)) (de_op od_sub (de_var 1 rfl (.inl rfl)) (de_var 5 rfl (.inl rfl))))) (ds_one (ds_if (dt_cmp od_lt (de_var 2 rfl (.inl rfl)) (de_var 6 rfl (.inl rfl)) (nomark _)) (ds_one (ds_par (i := 2) (j := 3) hc sc.nd rfl rfl (by decide) rfl rfl (da_cons (de_op od_sub (de_op od_sub (de_var 6 rfl (.inl rfl)) de_int) (de_var 2 rfl (.inl rfl))) (da_cons (de_not (de_var 3 rfl (.inl rfl))) da_nil)))) ds_nil)))) (ds_one (ds_ret (de_tup (da_cons (de_var 2 rfl (.inl rfl)) (da_cons (de_var 3 rfl (.inl rfl)) da_nil)))))))
theorem sc_law_run : FnScope ["_law_script_so", "_law_n", "_law_place_so", "_law_rounds", "_law_over", "_law_left", "_law_anchor", "_law_there", "_law_side", "_law_by", "_law_far", "_law_length", "_law_many"] ["_law_script_so", "_law_n", "_law_place_so", "_law_rounds"] (defScope (topS 53)) := ⟨rfl, rfl, rfl, by decide +kernel, rfl, by decide +kernel, by decide +kernel⟩
theorem dv_law_run {a : Ads} (nb : Blt mg) (d__law_step : Def P w K mg base T 1 "_law_step" ["_law_script_so", "_law_n", "_law_place_so"] (sp_law_step a))
    (f : Addr) (cdv : Value) (A0 : Around) (outer : List Env) (s : Shared) (H : Hp) (E : XK) (G0 F0 : Hp) (Wd : WD) (hr : Room 1 (A0.deeper (envOfC "_law_run" (defScope (topS 53)) s.heap.objs.size f cdv))) (lk : LinkW K ⟨T, G0, F0⟩ (fun cls d _ H => E cls d H) Wd) :
    PSs (cxOf (L2N.CX P w) P w K mg base ["_law_script_so", "_law_n", "_law_place_so", "_law_rounds", "_law_over", "_law_left", "_law_anchor", "_law_there", "_law_side", "_law_by", "_law_far", "_law_length", "_law_many"] "_law_run" (defScope (topS 53)) f cdv A0 outer s H E) (defBody (topS 53)) (lS K ⟨T, G0, F0⟩ (td_law_run a Wd)) := by
  have sc := sc_law_run
  have tk := @tkD P w K mg base ["_law_script_so", "_law_n", "_law_place_so", "_law_rounds", "_law_over", "_law_left", "_law_anchor", "_law_there", "_law_side", "_law_by", "_law_far", "_law_length", "_law_many"] "_law_run" (defScope (topS 53)) f cdv A0 outer s H E
  have hp := @hpD P w K mg base ["_law_script_so", "_law_n", "_law_place_so", "_law_rounds", "_law_over", "_law_left", "_law_anchor", "_law_there", "_law_side", "_law_by", "_law_far", "_law_length", "_law_many"] "_law_run" (defScope (topS 53)) f cdv A0 outer s H E
  have hc : (cxOf (L2N.CX P w) P w K mg base ["_law_script_so", "_law_n", "_law_place_so", "_law_rounds", "_law_over", "_law_left", "_law_anchor", "_law_there", "_law_side", "_law_by", "_law_far", "_law_length", "_law_many"] "_law_run" (defScope (topS 53)) f cdv A0 outer s H E).calm = true := rfl
  exact (ds_cons (ds_par3 (i := 4) (j := 5) (l := 6) hc sc.nd rfl rfl rfl (by decide) (by decide) (by decide) rfl rfl rfl (da_cons de_bl (da_cons (de_var 3 rfl (.inl rfl)) (da_cons de_non da_nil)))) (ds_cons (ds_while hp (dt_cmp od_gt (de_var 5 rfl (.inl rfl)) de_int (nomark _)) (ds_cons (ds_asg (de_callD (A := ⟨T, G0, F0⟩) d__law_step (hr.mono (by decide)) tk lk (da_cons (de_var 0 rfl (.inl rfl)) (da_cons (de_var 1 rfl (.inl rfl)) (da_cons (de_var 2 rfl (.inl rfl)) da_nil)))) (dg_tup hc (dgs_cons (dg_name (i := 7) sc.nd rfl (.inl rfl)) (dgs_cons (dg_name (i := 8) sc.nd rfl (.inl rfl)) dgs_nil)))) (ds_cons (ds_par (i := 9) (j := 10) hc sc.nd rfl rfl (by decide) rfl rfl (da_cons (de_op od_sub (de_var 7 rfl (.inl rfl)) (de_var 2 rfl (.inl rfl))) (da_cons de_int da_nil))) (ds_cons (ds_if (dt_cmp (od_eq hr.units) (de_var 9 rfl (.inl rfl)) de_int (nomark _)) (ds_one (ds_ret (de_tup (da_cons (de_var 2 rfl (.inl rfl)) (da_cons (de_cmp (od_ne hr.units) (de_var 4 rfl (.inl rfl)) (de_and (de_var 8 rfl (.inl rfl)) (de_one (de_cmp (od_eq hr.units) (de_op od_mod (de_var 5 rfl (.inl rfl)) de_int) de_int (nomark _)))) (nomark _)) da_nil))))) ds_nil) (ds_cons (ds_if (PW.pt (dw_and (dt_not (dt_val (de_var 8 rfl (.inl rfl)))) (dw_and (dt_chain od_le od_lt de_int (de_var 2 rfl (.inl rfl)) (de_op od_sub (de_var 1 rfl (.inl rfl)) de_int)) (dw_and1 (dt_cmp (od_eq hr.units) (de_callD (A := ⟨T, G0, F0⟩) d__law_step (hr.mono (by decide)) tk lk (da_cons (de_var 0 rfl (.inl rfl)) (da_cons (de_var 1 rfl (.inl rfl)) (da_cons (de_var 7 rfl (.inl rfl)) da_nil)))) (de_tup (da_cons (de_op od_add (de_var 7 rfl (.inl rfl)) (de_var 9 rfl (.inl rfl))) (da_cons de_bl da_nil))) (nomark _)))))) (ds_one (ds_set (i := 10) sc.nd rfl (.inl rfl) (de_op od_fdiv (de_if (dt_cmp od_gt (de_var 9 rfl (.inl rfl)) de_int (nomark _)) (de_op od_sub (de_op od_sub (de_var 1 rfl (.inl rfl)) de_int) (de_var 2 rfl (.inl rfl))) (de_op od_sub (de_var 2 rfl (.inl rfl)) de_int)) (de_callB cd_abs nb.abs (by decide +kernel) (da_cons (de_var 9 rfl (.inl rfl)) da_nil))))) ds_nil) (ds_cons (ds_if (PW.pt (dw_and (dt_cmp (od_eq hr.units) (de_var 10 rfl (.inl rfl)) de_int (nomark _)) (dw_and1 (dt_cmp od_is (de_var 6 rfl (.inl rfl)) de_non (nomark _))))) (ds_one (ds_set (i := 6) sc.nd rfl (.inl rfl) (de_tup (da_cons (de_var 2 rfl (.inl rfl)) (da_cons (de_var 4 rfl (.inl rfl)) (da_cons (de_var 5 rfl (.inl rfl)) da_nil)))))) (ds_one (ds_if (PW.pt (dw_and (dt_cmp (od_eq hr.units) (de_var 10 rfl (.inl rfl)) de_int (nomark _)) (dw_and1 (dt_cmp (od_eq hr.units) (de_ix (de_var 6 rfl (.inl rfl)) de_int) (de_var 2 rfl (.inl rfl)) (nomark _))))) (ds_cons (ds_set (i := 11) sc.nd rfl (.inl rfl) (de_op od_sub (de_ix (de_var 6 rfl (.inl rfl)) de_int) (de_var 5 rfl (.inl rfl)))) (ds_cons (ds_set (i := 4) sc.nd rfl (.inl rfl) (de_cmp (od_ne hr.units) (de_var 4 rfl (.inl rfl)) (de_and (de_cmp (od_ne hr.units) (de_var 4 rfl (.inl rfl)) (de_ix (de_var 6 rfl (.inl rfl)) de_int) (nomark _)) (de_one (de_cmp (od_eq hr.units) (de_op od_mod (de_op od_fdiv (de_var 5 rfl (.inl rfl)) (de_var 11 rfl (.inl rfl))) de_int) de_int (nomark _)))) (nomark _))) (ds_one (ds_par (i := 5) (j := 6) hc sc.nd rfl rfl (by decide) rfl rfl (da_cons (de_op od_mod (de_var 5 rfl (.inl rfl)) (de_var 11 rfl (.inl rfl))) (da_cons (de_tup (da_cons (de_neg de_int) (da_cons de_bl (da_cons de_int da_nil)))) da_nil)))))) ds_nil))) (ds_one (ds_if (dt_cmp od_gt (de_var 5 rfl (.inl rfl)) de_int (nomark _)) (ds_cons (ds_set (i := 12) sc.nd rfl (.inl rfl) (de_callB (cd_min hc) nb.min (by decide +kernel) (da_cons (de_callB (cd_max hc) nb.max (by decide +kernel) (da_cons de_int (da_cons (de_var 10 rfl (.inl rfl)) da_nil))) (da_cons (de_var 5 rfl (.inl rfl)) da_nil)))) (ds_one (ds_par3 (i := 2) (j := 4) (l := 5) hc sc.nd rfl rfl rfl (by decide) (by decide) (by decide) rfl rfl rfl (da_cons (de_op od_add (de_var 2 rfl (.inl rfl)) (de_op od_mul (de_var 12 rfl (.inl rfl)) (de_var 9 rfl (.inl rfl)))) (da_cons (de_cmp (od_ne hr.units) (de_var 4 rfl (.inl rfl)) (de_and (de_var 8 rfl (.inl rfl)) (de_one (de_cmp (od_eq hr.units) (de_op od_mod (de_var 12 rfl (.inl rfl)) de_int) de_int (nomark _)))) (nomark _)) (da_cons (de_op od_sub (de_var 5 rfl (.inl rfl)) (de_var 12 rfl (.inl rfl))) da_nil)))))) ds_nil)))))))) (ds_one (ds_ret (de_tup (da_cons (de_var 2 rfl (.inl rfl)) (da_cons (de_var 4 rfl (.inl rfl)) da_nil)))))))
theorem sc_law_low_right : FnScope ["_law_source_here", "_law_script_so", "_law_n", "_law_goes_here", "_law_place_so", "_law_rounds", "_law_here", "_law_over", "_law_turn"] ["_law_source_here", "_law_script_so", "_law_n"] (defScope (topS 54)) := ⟨rfl, rfl, rfl, by decide +kernel, rfl, by decide +kernel, by decide +kernel⟩
theorem dv_law_low_right {a : Ads} (nb : Blt mg) (d__law_goes : Def P w K mg base T 3 "_law_goes" ["_law_script_so", "_law_n"] (sp_law_goes a)) (d__law_lying : Def P w K mg base T 2 "_law_lying" ["_law_script_so", "_law_n"] (sp_law_lying a)) (d__law_pick : Def P w K mg base T 1 "_law_pick" ["_law_source_here", "_law_many"] (sp_law_pick a)) (d_after : Def P w K mg base T 6 "after" ["script", "n", "place", "rounds"] (sp_after a)) (d_order : Def P w K mg base T 6 "order" ["script", "n"] (sp_order a))
    (f : Addr) (cdv : Value) (A0 : Around) (outer : List Env) (s : Shared) (H : Hp) (E : XK) (G0 F0 : Hp) (Wd : WD) (hr : Room 6 (A0.deeper (envOfC "_law_low_right" (defScope (topS 54)) s.heap.objs.size f cdv))) (lk : LinkW K ⟨T, G0, F0⟩ (fun cls d _ H => E cls d H) Wd) :
    PSs (cxOf (L2N.CX P w) P w K mg base ["_law_source_here", "_law_script_so", "_law_n", "_law_goes_here", "_law_place_so", "_law_rounds", "_law_here", "_law_over", "_law_turn"] "_law_low_right" (defScope (topS 54)) f cdv A0 outer s H E) (defBody (topS 54)) (lS K ⟨T, G0, F0⟩ (td_law_low_right a Wd)) := by
  have sc := sc_law_low_right
  have tk := @tkD P w K mg base ["_law_source_here", "_law_script_so", "_law_n", "_law_goes_here", "_law_place_so", "_law_rounds", "_law_here", "_law_over", "_law_turn"] "_law_low_right" (defScope (topS 54)) f cdv A0 outer s H E
  have hp := @hpD P w K mg base ["_law_source_here", "_law_script_so", "_law_n", "_law_goes_here", "_law_place_so", "_law_rounds", "_law_here", "_law_over", "_law_turn"] "_law_low_right" (defScope (topS 54)) f cdv A0 outer s H E
  have hc : (cxOf (L2N.CX P w) P w K mg base ["_law_source_here", "_law_script_so", "_law_n", "_law_goes_here", "_law_place_so", "_law_rounds", "_law_here", "_law_over", "_law_turn"] "_law_low_right" (defScope (topS 54)) f cdv A0 outer s H E).calm = true := rfl
  exact (ds_cons (ds_set (i := 3) sc.nd rfl (.inl rfl) (de_callD (A := ⟨T, G0, F0⟩) d__law_goes (hr.mono (by decide)) tk lk (da_cons (de_var 1 rfl (.inl rfl)) (da_cons (de_var 2 rfl (.inl rfl)) da_nil)))) (ds_cons (ds_if (dt_cmp (od_ne hr.units) (de_callD (A := ⟨T, G0, F0⟩) d_order (hr.mono (by decide)) tk lk (da_cons (de_var 1 rfl (.inl rfl)) (da_cons (de_var 2 rfl (.inl rfl)) da_nil))) (de_callTy cd_tuple nb.tuple (by decide +kernel) (da_cons (de_callD (A := ⟨T, G0, F0⟩) d__law_lying (hr.mono (by decide)) tk lk (da_cons (de_var 1 rfl (.inl rfl)) (da_cons (de_var 2 rfl (.inl rfl)) da_nil))) da_nil)) (nomark _)) (ds_one (ds_ret de_bl)) ds_nil) (ds_cons (ds_for hp hc (di_range1 nb.range (da_cons (de_var 2 rfl (.inl rfl)) da_nil)) (dg_name (i := 4) sc.nd rfl (.inl rfl)) (ds_cons (ds_if (dt_cmp (od_ne hr.units) (de_callD (A := ⟨T, G0, F0⟩) d_after (hr.mono (by decide)) tk lk (da_cons (de_var 1 rfl (.inl rfl)) (da_cons (de_var 2 rfl (.inl rfl)) (da_cons (de_var 4 rfl (.inl rfl)) (da_cons de_int da_nil))))) (de_ix (de_var 3 rfl (.inl rfl)) (de_var 4 rfl (.inl rfl))) (nomark _)) (ds_one (ds_ret de_bl)) ds_nil) (ds_one (ds_if (dt_cmp (od_ne hr.units) (de_callD (A := ⟨T, G0, F0⟩) d_after (hr.mono (by decide)) tk lk (da_cons (de_var 1 rfl (.inl rfl)) (da_cons (de_var 2 rfl (.inl rfl)) (da_cons (de_op od_sub (de_var 4 rfl (.inl rfl)) (de_var 2 rfl (.inl rfl))) (da_cons de_int da_nil))))) (de_tup (da_cons (de_var 4 rfl (.inl rfl)) (da_cons de_bl da_nil))) (nomark _)) (ds_one (ds_ret de_bl)) ds_nil)))) (ds_cons (ds_par (i := 4) (j := 5) hc sc.nd rfl rfl (by decide) rfl rfl (da_cons (de_callD (A := ⟨T, G0, F0⟩) d__law_pick (hr.mono (by decide)) tk lk (da_cons (de_var 0 rfl (.inl rfl)) (da_cons (de_var 2 rfl (.inl rfl)) da_nil))) (da_cons (de_callD (A := ⟨T, G0, F0⟩) d__law_pick (hr.mono (by decide)) tk lk (da_cons (de_var 0 rfl (.inl rfl)) (da_cons de_int da_nil))) da_nil))) (ds_cons (ds_par (i := 6) (j := 7) hc sc.nd rfl rfl (by decide) rfl rfl (da_cons (de_var 4 rfl (.inl rfl)) (da_cons de_bl da_nil))) (ds_cons (ds_for hp hc (di_range1 nb.range (da_cons (de_var 5 rfl (.inl rfl)) da_nil)) (dg_name (i := 8) sc.nd rfl (.inl rfl)) (ds_one (ds_par (i := 6) (j := 7) hc sc.nd rfl rfl (by decide) rfl rfl (da_cons (de_ix (de_ix (de_var 3 rfl (.inl rfl)) (de_var 6 rfl (.inl rfl))) de_int) (da_cons (de_cmp (od_ne hr.units) (de_var 7 rfl (.inl rfl)) (de_ix (de_ix (de_var 3 rfl (.inl rfl)) (de_var 6 rfl (.inl rfl))) de_int) (nomark _)) da_nil))))) (ds_one (ds_ret (de_cmp (od_eq hr.units) (de_callD (A := ⟨T, G0, F0⟩) d_after (hr.mono (by decide)) tk lk (da_cons (de_var 1 rfl (.inl rfl)) (da_cons (de_var 2 rfl (.inl rfl)) (da_cons (de_var 4 rfl (.inl rfl)) (da_cons (de_var 5 rfl (.inl rfl)) da_nil))))) (de_tup (da_cons (de_var 6 rfl (.inl rfl)) (da_cons (de_var 7 rfl (.inl rfl)) da_nil))) (nomark _))))))))))
theorem sc_law_high_right : FnScope ["_law_source_here", "_law_script_so", "_law_n", "_law_places_so", "_law_place_so", "_law_spot", "_law_odds", "_law_rounds", "_law_due", "_law_back"] ["_law_source_here", "_law_script_so", "_law_n"] (defScope (topS 55)) := ⟨rfl, rfl, rfl, by decide +kernel, rfl, by decide +kernel, by decide +kernel⟩
theorem dv_law_high_right {a : Ads} (d__law_pick : Def P w K mg base T 1 "_law_pick" ["_law_source_here", "_law_many"] (sp_law_pick a)) (d__law_run : Def P w K mg base T 2 "_law_run" ["_law_script_so", "_law_n", "_law_place_so", "_law_rounds"] (sp_law_run a)) (d_after : Def P w K mg base T 6 "after" ["script", "n", "place", "rounds"] (sp_after a))
    (f : Addr) (cdv : Value) (A0 : Around) (outer : List Env) (s : Shared) (H : Hp) (E : XK) (G0 F0 : Hp) (Wd : WD) (hr : Room 6 (A0.deeper (envOfC "_law_high_right" (defScope (topS 55)) s.heap.objs.size f cdv))) (lk : LinkW K ⟨T, G0, F0⟩ (fun cls d _ H => E cls d H) Wd) :
    PSs (cxOf (L2N.CX P w) P w K mg base ["_law_source_here", "_law_script_so", "_law_n", "_law_places_so", "_law_place_so", "_law_spot", "_law_odds", "_law_rounds", "_law_due", "_law_back"] "_law_high_right" (defScope (topS 55)) f cdv A0 outer s H E) (defBody (topS 55)) (lS K ⟨T, G0, F0⟩ (td_law_high_right a Wd)) := by
  have sc := sc_law_high_right
  have tk := @tkD P w K mg base ["_law_source_here", "_law_script_so", "_law_n", "_law_places_so", "_law_place_so", "_law_spot", "_law_odds", "_law_rounds", "_law_due", "_law_back"] "_law_high_right" (defScope (topS 55)) f cdv A0 outer s H E
  have hp := @hpD P w K mg base ["_law_source_here", "_law_script_so", "_law_n", "_law_places_so", "_law_place_so", "_law_spot", "_law_odds", "_law_rounds", "_law_due", "_law_back"] "_law_high_right" (defScope (topS 55)) f cdv A0 outer s H E
  have hc : (cxOf (L2N.CX P w) P w K mg base ["_law_source_here", "_law_script_so", "_law_n", "_law_places_so", "_law_place_so", "_law_spot", "_law_odds", "_law_rounds", "_law_due", "_law_back"] "_law_high_right" (defScope (topS 55)) f cdv A0 outer s H E).calm = true := rfl
  exact (ds_cons (ds_set (i := 3) sc.nd rfl (.inl rfl) (de_lst (da_cons (de_callD (A := ⟨T, G0, F0⟩) d__law_pick (hr.mono (by decide)) tk lk (da_cons (de_var 0 rfl (.inl rfl)) (da_cons de_int da_nil))) (da_cons (de_op od_sub (de_neg de_int) (de_callD (A := ⟨T, G0, F0⟩) d__law_pick (hr.mono (by decide)) tk lk (da_cons (de_var 0 rfl (.inl rfl)) (da_cons de_int da_nil)))) da_nil)))) (ds_cons (ds_set (i := 3) sc.nd rfl (.inl rfl) (de_op od_add (de_var 3 rfl (.inl rfl)) (de_lst (da_cons (de_op od_add (de_op od_fdiv (de_var 2 rfl (.inl rfl)) de_int) (de_callD (A := ⟨T, G0, F0⟩) d__law_pick (hr.mono (by decide)) tk lk (da_cons (de_var 0 rfl (.inl rfl)) (da_cons de_int da_nil)))) (da_cons (de_callD (A := ⟨T, G0, F0⟩) d__law_pick (hr.mono (by decide)) tk lk (da_cons (de_var 0 rfl (.inl rfl)) (da_cons (de_var 2 rfl (.inl rfl)) da_nil))) da_nil))))) (ds_cons (ds_for hp hc (di_seq (de_var 3 rfl (.inl rfl))) (dg_name (i := 4) sc.nd rfl (.inl rfl)) (ds_cons (ds_set (i := 5) sc.nd rfl (.inl rfl) (de_if (dt_cmp od_ge (de_var 4 rfl (.inl rfl)) de_int (nomark _)) (de_var 4 rfl (.inl rfl)) (de_op od_add (de_var 2 rfl (.inl rfl)) (de_var 4 rfl (.inl rfl))))) (ds_one (ds_if (dt_chain od_le od_lt de_int (de_var 5 rfl (.inl rfl)) (de_var 2 rfl (.inl rfl))) (ds_cons (ds_set (i := 6) sc.nd rfl (.inl rfl) (de_lst (da_cons de_int (da_cons (de_callD (A := ⟨T, G0, F0⟩) d__law_pick (hr.mono (by decide)) tk lk (da_cons (de_var 0 rfl (.inl rfl)) (da_cons de_int da_nil))) da_nil)))) (ds_cons (ds_for hp hc (di_seq (de_op od_add (de_var 6 rfl (.inl rfl)) (de_lst (da_cons (de_callD (A := ⟨T, G0, F0⟩) d__law_pick (hr.mono (by decide)) tk lk (da_cons (de_var 0 rfl (.inl rfl)) (da_cons (de_var 2 rfl (.inl rfl)) da_nil))) (da_cons (de_op od_sub (de_op od_pow de_int de_int) (de_callD (A := ⟨T, G0, F0⟩) d__law_pick (hr.mono (by decide)) tk lk (da_cons (de_var 0 rfl (.inl rfl)) (da_cons (de_op od_pow de_int de_int) da_nil)))) da_nil))))) (dg_name (i := 7) sc.nd rfl (.inl rfl)) (ds_cons (ds_set (i := 8) sc.nd rfl (.inl rfl) (de_callD (A := ⟨T, G0, F0⟩) d__law_run (hr.mono (by decide)) tk lk (da_cons (de_var 1 rfl (.inl rfl)) (da_cons (de_var 2 rfl (.inl rfl)) (da_cons (de_var 5 rfl (.inl rfl)) (da_cons (de_var 7 rfl (.inl rfl)) da_nil)))))) (ds_one (ds_if (dt_cmp (od_ne hr.units) (de_callD (A := ⟨T, G0, F0⟩) d_after (hr.mono (by decide)) tk lk (da_cons (de_var 1 rfl (.inl rfl)) (da_cons (de_var 2 rfl (.inl rfl)) (da_cons (de_var 4 rfl (.inl rfl)) (da_cons (de_var 7 rfl (.inl rfl)) da_nil))))) (de_var 8 rfl (.inl rfl)) (nomark _)) (ds_one (ds_ret de_bl)) ds_nil)))) (ds_cons (ds_set (i := 9) sc.nd rfl (.inl rfl) (de_callD (A := ⟨T, G0, F0⟩) d_after (hr.mono (by decide)) tk lk (da_cons (de_rev (de_var 1 rfl (.inl rfl))) (da_cons (de_var 2 rfl (.inl rfl)) (da_cons (de_ix (de_callD (A := ⟨T, G0, F0⟩) d_after (hr.mono (by decide)) tk lk (da_cons (de_var 1 rfl (.inl rfl)) (da_cons (de_var 2 rfl (.inl rfl)) (da_cons (de_var 4 rfl (.inl rfl)) (da_cons de_int da_nil))))) de_int) (da_cons de_int da_nil)))))) (ds_one (ds_if (dt_cmp (od_ne hr.units) (de_var 9 rfl (.inl rfl)) (de_tup (da_cons (de_var 5 rfl (.inl rfl)) (da_cons (de_ix (de_callD (A := ⟨T, G0, F0⟩) d_after (hr.mono (by decide)) tk lk (da_cons (de_var 1 rfl (.inl rfl)) (da_cons (de_var 2 rfl (.inl rfl)) (da_cons (de_var 4 rfl (.inl rfl)) (da_cons de_int da_nil))))) de_int) da_nil))) (nomark _)) (ds_one (ds_ret de_bl)) ds_nil))))) ds_nil)))) (ds_one (ds_ret de_bl)))))
theorem sc_law_refusals : FnScope ["_law_script_so", "_law_n", "_law_odd"] ["_law_script_so", "_law_n"] (defScope (topS 56)) := ⟨rfl, rfl, rfl, by decide +kernel, rfl, by decide +kernel, by decide +kernel⟩
theorem dv_law_refusals {a : Ads} (d__law_by_four : Def P w K mg base T 9 "_law_by_four" ["_law_call", "_law_one", "_law_other", "_law_third", "_law_last"] (sp_law_by_four a)) (d__law_by_two : Def P w K mg base T 9 "_law_by_two" ["_law_call", "_law_one", "_law_other"] (sp_law_by_two a)) (v_after : mg "after" = some (.ref (a.f "after"))) (v_order : mg "order" = some (.ref (a.f "order")))
    (f : Addr) (cdv : Value) (A0 : Around) (outer : List Env) (s : Shared) (H : Hp) (E : XK) (G0 F0 : Hp) (Wd : WD) (hr : Room 9 (A0.deeper (envOfC "_law_refusals" (defScope (topS 56)) s.heap.objs.size f cdv))) (lk : LinkW K ⟨T, G0, F0⟩ (fun cls d _ H => E cls d H) Wd) :
    PSs (cxOf (L2N.CX P w) P w K mg base ["_law_script_so", "_law_n", "_law_odd"] "_law_refusals" (defScope (topS 56)) f cdv A0 outer s H E) (defBody (topS 56)) (lS K ⟨T, G0, F0⟩ (td_law_refusals a Wd)) := by
  have sc := sc_law_refusals
  have tk := @tkD P w K mg base ["_law_script_so", "_law_n", "_law_odd"] "_law_refusals" (defScope (topS 56)) f cdv A0 outer s H E
  have hp := @hpD P w K mg base ["_law_script_so", "_law_n", "_law_odd"] "_law_refusals" (defScope (topS 56)) f cdv A0 outer s H E
  have hc : (cxOf (L2N.CX P w) P w K mg base ["_law_script_so", "_law_n", "_law_odd"] "_law_refusals" (defScope (topS 56)) f cdv A0 outer s H E).calm = true := rfl
  exact (ds_cons (ds_for hp hc (di_seq (de_lst (da_cons de_non (da_cons (de_var 1 rfl (.inl rfl)) (da_cons (de_op od_sub (de_neg (de_var 1 rfl (.inl rfl))) de_int) (da_cons de_bl (da_cons de_str da_nil))))))) (dg_name (i := 2) sc.nd rfl (.inl rfl)) (ds_one (ds_if (dt_cmp (od_ne hr.units) (de_callD (A := ⟨T, G0, F0⟩) d__law_by_four (hr.mono (by decide)) tk lk (da_cons (de_fun v_after) (da_cons (de_var 0 rfl (.inl rfl)) (da_cons (de_var 1 rfl (.inl rfl)) (da_cons (de_var 2 rfl (.inl rfl)) (da_cons de_non da_nil)))))) de_str (nomark _)) (ds_one (ds_ret de_bl)) ds_nil))) (ds_cons (ds_for hp hc (di_seq (de_lst (da_cons de_non (da_cons de_int (da_cons (de_op od_add (de_op od_pow de_int de_int) de_int) (da_cons de_bl (da_cons de_str da_nil))))))) (dg_name (i := 2) sc.nd rfl (.inl rfl)) (ds_cons (ds_if (dt_cmp (od_ne hr.units) (de_callD (A := ⟨T, G0, F0⟩) d__law_by_four (hr.mono (by decide)) tk lk (da_cons (de_fun v_after) (da_cons (de_var 0 rfl (.inl rfl)) (da_cons (de_var 2 rfl (.inl rfl)) (da_cons de_non (da_cons de_non da_nil)))))) de_str (nomark _)) (ds_one (ds_ret de_bl)) ds_nil) (ds_one (ds_if (dt_cmp (od_ne hr.units) (de_callD (A := ⟨T, G0, F0⟩) d__law_by_two (hr.mono (by decide)) tk lk (da_cons (de_fun v_order) (da_cons (de_var 0 rfl (.inl rfl)) (da_cons (de_var 2 rfl (.inl rfl)) da_nil)))) de_str (nomark _)) (ds_one (ds_ret de_bl)) ds_nil)))) (ds_cons (ds_for hp hc (di_seq (de_lst (da_cons de_non (da_cons (de_neg de_int) (da_cons (de_op od_add (de_op od_pow de_int de_int) de_int) (da_cons de_bl da_nil)))))) (dg_name (i := 2) sc.nd rfl (.inl rfl)) (ds_one (ds_if (dt_cmp (od_ne hr.units) (de_callD (A := ⟨T, G0, F0⟩) d__law_by_four (hr.mono (by decide)) tk lk (da_cons (de_fun v_after) (da_cons (de_var 0 rfl (.inl rfl)) (da_cons de_int (da_cons (de_neg de_int) (da_cons (de_var 2 rfl (.inl rfl)) da_nil)))))) de_str (nomark _)) (ds_one (ds_ret de_bl)) ds_nil))) (ds_cons (ds_if (PW.pt (dw_or (dt_cmp (od_ne hr.units) (de_callD (A := ⟨T, G0, F0⟩) d__law_by_two (hr.mono (by decide)) tk lk (da_cons (de_fun v_order) (da_cons (de_var 0 rfl (.inl rfl)) (da_cons de_int da_nil)))) de_str (nomark _)) (dw_or1 (dt_cmp (od_ne hr.units) (de_callD (A := ⟨T, G0, F0⟩) d__law_by_two (hr.mono (by decide)) tk lk (da_cons (de_fun v_order) (da_cons (de_lst da_nil) (da_cons de_non da_nil)))) de_str (nomark _))))) (ds_one (ds_ret de_bl)) ds_nil) (ds_one (ds_ret (de_cmp (od_eq hr.units) (de_callD (A := ⟨T, G0, F0⟩) d__law_by_four (hr.mono (by decide)) tk lk (da_cons (de_fun v_after) (da_cons (de_tup (da_cons (de_tup (da_cons de_str (da_cons de_int da_nil))) da_nil)) (da_cons de_non (da_cons de_non (da_cons de_non da_nil)))))) de_str (nomark _))))))))
theorem sc_law_written : FnScope ["_law_one", "_law_down", "_law_about", "_law_found", "_law_far", "_law_six", "_law_number"] [] (defScope (topS 57)) := ⟨rfl, rfl, rfl, by decide +kernel, rfl, by decide +kernel, by decide +kernel⟩
theorem dv_law_written {a : Ads} (nb : Blt mg) (d_after : Def P w K mg base T 6 "after" ["script", "n", "place", "rounds"] (sp_after a)) (d_order : Def P w K mg base T 6 "order" ["script", "n"] (sp_order a))
    (f : Addr) (cdv : Value) (A0 : Around) (outer : List Env) (s : Shared) (H : Hp) (E : XK) (G0 F0 : Hp) (Wd : WD) (hr : Room 6 (A0.deeper (envOfC "_law_written" (defScope (topS 57)) s.heap.objs.size f cdv))) (lk : LinkW K ⟨T, G0, F0⟩ (fun cls d _ H => E cls d H) Wd) :
    PSs (cxOf (L2N.CX P w) P w K mg base ["_law_one", "_law_down", "_law_about", "_law_found", "_law_far", "_law_six", "_law_number"] "_law_written" (defScope (topS 57)) f cdv A0 outer s H E) (defBody (topS 57)) (lS K ⟨T, G0, F0⟩ (td_law_written a Wd)) := by
  have sc := sc_law_written
  have tk := @tkD P w K mg base ["_law_one", "_law_down", "_law_about", "_law_found", "_law_far", "_law_six", "_law_number"] "_law_written" (defScope (topS 57)) f cdv A0 outer s H E
  have hp := @hpD P w K mg base ["_law_one", "_law_down", "_law_about", "_law_found", "_law_far", "_law_six", "_law_number"] "_law_written" (defScope (topS 57)) f cdv A0 outer s H E
  have hc : (cxOf (L2N.CX P w) P w K mg base ["_law_one", "_law_down", "_law_about", "_law_found", "_law_far", "_law_six", "_law_number"] "_law_written" (defScope (topS 57)) f cdv A0 outer s H E).calm = true := rfl
  exact (ds_cons (ds_asg (de_tup (da_cons (de_tup (da_cons (de_tup (da_cons de_str (da_cons de_int da_nil))) (da_cons (de_tup (da_cons de_str (da_cons de_int da_nil))) da_nil))) (da_cons (de_tup (da_cons (de_tup (da_cons de_str (da_cons de_int da_nil))) (da_cons (de_tup (da_cons de_str (da_cons de_int da_nil))) da_nil))) (da_cons (de_tup (da_cons (de_tup (da_cons de_str (da_cons de_int da_nil))) da_nil)) da_nil)))) (dg_tup hc (dgs_cons (dg_name (i := 0) sc.nd rfl (.inl rfl)) (dgs_cons (dg_name (i := 1) sc.nd rfl (.inl rfl)) (dgs_cons (dg_name (i := 2) sc.nd rfl (.inl rfl)) dgs_nil))))) (ds_cons (ds_set (i := 3) sc.nd rfl (.inl rfl) (de_lst (da_cons (de_callD (A := ⟨T, G0, F0⟩) d_after (hr.mono (by decide)) tk lk (da_cons (de_var 0 rfl (.inl rfl)) (da_cons de_int (da_cons de_int (da_cons de_int da_nil))))) (da_cons (de_callD (A := ⟨T, G0, F0⟩) d_after (hr.mono (by decide)) tk lk (da_cons (de_var 0 rfl (.inl rfl)) (da_cons de_int (da_cons de_int (da_cons de_int da_nil))))) (da_cons (de_callD (A := ⟨T, G0, F0⟩) d_after (hr.mono (by decide)) tk lk (da_cons (de_var 0 rfl (.inl rfl)) (da_cons de_int (da_cons (de_neg de_int) (da_cons de_int da_nil))))) (da_cons (de_callD (A := ⟨T, G0, F0⟩) d_after (hr.mono (by decide)) tk lk (da_cons (de_var 2 rfl (.inl rfl)) (da_cons de_int (da_cons de_int (da_cons de_int da_nil))))) da_nil)))))) (ds_cons (ds_if (dt_cmp (od_ne hr.units) (de_var 3 rfl (.inl rfl)) (de_lst (da_cons (de_tup (da_cons de_int (da_cons de_bl da_nil))) (da_cons (de_tup (da_cons de_int (da_cons de_bl da_nil))) (da_cons (de_tup (da_cons de_int (da_cons de_bl da_nil))) (da_cons (de_tup (da_cons de_int (da_cons de_bl da_nil))) da_nil))))) (nomark _)) (ds_one (ds_ret de_bl)) ds_nil) (ds_cons (ds_if (dt_cmp (od_ne hr.units) (de_callD (A := ⟨T, G0, F0⟩) d_after (hr.mono (by decide)) tk lk (da_cons (de_var 2 rfl (.inl rfl)) (da_cons (de_op od_pow de_int de_int) (da_cons de_int (da_cons (de_op od_pow de_int de_int) da_nil))))) (de_tup (da_cons de_int (da_cons de_bl da_nil))) (nomark _)) (ds_one (ds_ret de_bl)) ds_nil) (ds_cons (ds_if (PW.pt (dw_or (dt_cmp (od_ne hr.units) (de_callD (A := ⟨T, G0, F0⟩) d_after (hr.mono (by decide)) tk lk (da_cons (de_var 1 rfl (.inl rfl)) (da_cons (de_op od_pow de_int de_int) (da_cons de_int (da_cons de_int da_nil))))) (de_tup (da_cons (de_op od_sub (de_op od_pow de_int de_int) de_int) (da_cons de_bl da_nil))) (nomark _)) (dw_or1 (dt_cmp (od_ne hr.units) (de_callD (A := ⟨T, G0, F0⟩) d_after (hr.mono (by decide)) tk lk (da_cons (de_var 1 rfl (.inl rfl)) (da_cons de_int (da_cons de_int (da_cons de_int da_nil))))) (de_tup (da_cons de_int (da_cons de_bl da_nil))) (nomark _))))) (ds_one (ds_ret de_bl)) ds_nil) (ds_cons (ds_if (dt_cmp (od_ne hr.units) (de_callD (A := ⟨T, G0, F0⟩) d_after (hr.mono (by decide)) tk lk (da_cons (de_var 1 rfl (.inl rfl)) (da_cons de_int (da_cons de_int (da_cons de_int da_nil))))) (de_tup (da_cons de_int (da_cons de_bl da_nil))) (nomark _)) (ds_one (ds_ret de_bl)) ds_nil) (ds_cons (ds_set (i := 4) sc.nd rfl (.inl rfl) (de_op od_pow de_int de_int)) (ds_cons (ds_if (PW.pt (dw_or (dt_cmp (od_ne hr.units) (de_callD (A := ⟨T, G0, F0⟩) d_after (hr.mono (by decide)) tk lk (da_cons (de_var 1 rfl (.inl rfl)) (da_cons (de_var 4 rfl (.inl rfl)) (da_cons de_int (da_cons (de_var 4 rfl (.inl rfl)) da_nil))))) (de_tup (da_cons de_int (da_cons de_bl da_nil))) (nomark _)) (dw_or1 (dt_cmp (od_ne hr.units) (de_callD (A := ⟨T, G0, F0⟩) d_after (hr.mono (by decide)) tk lk (da_cons (de_var 1 rfl (.inl rfl)) (da_cons (de_var 4 rfl (.inl rfl)) (da_cons (de_op od_sub (de_var 4 rfl (.inl rfl)) de_int) (da_cons (de_op od_sub (de_var 4 rfl (.inl rfl)) de_int) da_nil))))) (de_tup (da_cons de_int (da_cons de_bl da_nil))) (nomark _))))) (ds_one (ds_ret de_bl)) ds_nil) (ds_cons (ds_if (dt_cmp (od_ne hr.units) (de_callD (A := ⟨T, G0, F0⟩) d_after (hr.mono (by decide)) tk lk (da_cons (de_var 1 rfl (.inl rfl)) (da_cons (de_var 4 rfl (.inl rfl)) (da_cons (de_op od_pow de_int de_int) (da_cons (de_op od_add (de_op od_pow de_int de_int) de_int) da_nil))))) (de_tup (da_cons (de_op od_sub (de_var 4 rfl (.inl rfl)) de_int) (da_cons de_bl da_nil))) (nomark _)) (ds_one (ds_ret de_bl)) ds_nil) (ds_cons (ds_if (dt_cmp (od_ne hr.units) (de_callD (A := ⟨T, G0, F0⟩) d_after (hr.mono (by decide)) tk lk (da_cons (de_rev (de_var 1 rfl (.inl rfl))) (da_cons (de_var 4 rfl (.inl rfl)) (da_cons de_int (da_cons (de_op od_pow de_int de_int) da_nil))))) (de_tup (da_cons (de_op od_pow de_int de_int) (da_cons de_bl da_nil))) (nomark _)) (ds_one (ds_ret de_bl)) ds_nil) (ds_cons (ds_set (i := 5) sc.nd rfl (.inl rfl) (de_tup (da_cons (de_tup (da_cons de_str (da_cons de_int da_nil))) (da_cons (de_tup (da_cons de_str (da_cons de_int da_nil))) da_nil)))) (ds_cons (ds_if (dt_cmp (od_ne hr.units) (de_callD (A := ⟨T, G0, F0⟩) d_after (hr.mono (by decide)) tk lk (da_cons (de_var 5 rfl (.inl rfl)) (da_cons (de_var 4 rfl (.inl rfl)) (da_cons (de_op od_pow de_int de_int) (da_cons (de_op od_pow de_int de_int) da_nil))))) (de_tup (da_cons (de_op od_sub (de_op od_pow de_int de_int) (de_op od_mul de_int (de_op od_pow de_int de_int))) (da_cons de_bl da_nil))) (nomark _)) (ds_one (ds_ret de_bl)) ds_nil) (ds_cons (ds_if (dt_cmp (od_ne hr.units) (de_callD (A := ⟨T, G0, F0⟩) d_after (hr.mono (by decide)) tk lk (da_cons (de_var 5 rfl (.inl rfl)) (da_cons (de_var 4 rfl (.inl rfl)) (da_cons de_int (da_cons de_int da_nil))))) (de_tup (da_cons (de_op od_sub (de_var 4 rfl (.inl rfl)) de_int) (da_cons de_bl da_nil))) (nomark _)) (ds_one (ds_ret de_bl)) ds_nil) (ds_one (ds_ret (de_and (de_cmp (od_eq hr.units) (de_ix (de_callD (A := ⟨T, G0, F0⟩) d_order (hr.mono (by decide)) tk lk (da_cons (de_var 1 rfl (.inl rfl)) (da_cons de_int da_nil))) (de_neg de_int)) (de_tup (da_cons de_int (da_cons de_bl da_nil))) (nomark _)) (de_one (de_cmp (od_eq hr.units) (de_callD (A := ⟨T, G0, F0⟩) d_order (hr.mono (by decide)) tk lk (da_cons (de_tup da_nil) (da_cons de_int da_nil))) (de_callTy cd_tuple nb.tuple (by decide +kernel) (da_cons (de_lc (own := [("_law_number", 6)]) hc sc.nd (di_range1 nb.range (da_cons de_int da_nil)) (blkOk_by (own := [("_law_number", 6)]) (N := ["_law_one", "_law_down", "_law_about", "_law_found", "_law_far", "_law_six", "_law_number"]) (sc := defScope (topS 57)) (by decide +kernel)) (tg_name (i := 6) (by decide)) (fun _ _ _ _ _ => (pg_name (i := 6) sc.nd rfl (Or.inl rfl))) (fun _ _ _ _ _ => dts_nil) (fun _ _ _ _ _ => (de_tup (da_cons (de_var 6 rfl (.inl rfl)) (da_cons de_bl da_nil))))) da_nil)) (nomark _)))))))))))))))))))
theorem sc_law : FnScope ["_law_script_here", "_law_k", "_law_source_here", "_law_script_so", "_law_n"] ["_law_script_here"] (defScope (topS 58)) := ⟨rfl, rfl, rfl, by decide +kernel, rfl, by decide +kernel, by decide +kernel⟩
theorem dv_law {a : Ads} (nb : Blt mg) (d__law_chosen : Def P w K mg base T 2 "_law_chosen" ["_law_source_here", "_law_things"] (sp_law_chosen a)) (d__law_high_right : Def P w K mg base T 7 "_law_high_right" ["_law_source_here", "_law_script_so", "_law_n"] (sp_law_high_right a)) (d__law_low_right : Def P w K mg base T 7 "_law_low_right" ["_law_source_here", "_law_script_so", "_law_n"] (sp_law_low_right a)) (d__law_pick : Def P w K mg base T 1 "_law_pick" ["_law_source_here", "_law_many"] (sp_law_pick a)) (d__law_refusals : Def P w K mg base T 10 "_law_refusals" ["_law_script_so", "_law_n"] (sp_law_refusals a)) (d__law_script : Def P w K mg base T 3 "_law_script" ["_law_source_here", "_law_most_so"] (sp_law_script a)) (d__law_source : Def P w K mg base T 1 "_law_source" ["_law_script_here", "_law_k"] (sp_law_source a)) (d__law_written : Def P w K mg base T 7 "_law_written" [] (sp_law_written a))
    (f : Addr) (cdv : Value) (A0 : Around) (outer : List Env) (s : Shared) (H : Hp) (E : XK) (G0 F0 : Hp) (Wd : WD) (hr : Room 10 (A0.deeper (envOfC "law" (defScope (topS 58)) s.heap.objs.size f cdv))) (lk : LinkW K ⟨T, G0, F0⟩ (fun cls d _ H => E cls d H) Wd) :
    PSs (cxOf (L2N.CX P w) P w K mg base ["_law_script_here", "_law_k", "_law_source_here", "_law_script_so", "_law_n"] "law" (defScope (topS 58)) f cdv A0 outer s H E) (defBody (topS 58)) (lS K ⟨T, G0, F0⟩ (td_law a Wd)) := by
  have sc := sc_law
  have tk := @tkD P w K mg base ["_law_script_here", "_law_k", "_law_source_here", "_law_script_so", "_law_n"] "law" (defScope (topS 58)) f cdv A0 outer s H E
  have hp := @hpD P w K mg base ["_law_script_here", "_law_k", "_law_source_here", "_law_script_so", "_law_n"] "law" (defScope (topS 58)) f cdv A0 outer s H E
  have hc : (cxOf (L2N.CX P w) P w K mg base ["_law_script_here", "_law_k", "_law_source_here", "_law_script_so", "_law_n"] "law" (defScope (topS 58)) f cdv A0 outer s H E).calm = true := rfl
  exact (ds_cons (ds_for hp hc (di_range1 nb.range (da_cons (de_callB (cd_max hc) nb.max (by decide +kernel) (da_cons de_int (da_cons (de_callB (cd_min hc) nb.min (by decide +kernel) (da_cons de_int (da_cons (de_callB cd_len nb.len (by decide +kernel) (da_cons (de_var 0 rfl (.inl rfl)) da_nil)) da_nil))) da_nil))) da_nil)) (dg_name (i := 1) sc.nd rfl (.inl rfl)) (ds_cons (ds_set (i := 2) sc.nd rfl (.inl rfl) (de_callD (A := ⟨T, G0, F0⟩) d__law_source (hr.mono (by decide)) tk lk (da_cons (de_var 0 rfl (.inl rfl)) (da_cons (de_var 1 rfl (.inl rfl)) da_nil)))) (ds_cons (ds_set (i := 3) sc.nd rfl (.inl rfl) (de_callD (A := ⟨T, G0, F0⟩) d__law_script (hr.mono (by decide)) tk lk (da_cons (de_var 2 rfl (.inl rfl)) (da_cons (de_callD (A := ⟨T, G0, F0⟩) d__law_chosen (hr.mono (by decide)) tk lk (da_cons (de_var 2 rfl (.inl rfl)) (da_cons (de_lst (da_cons de_int (da_cons de_int (da_cons de_int da_nil)))) da_nil))) da_nil)))) (ds_cons (ds_if (dt_not (dt_val (de_callD (A := ⟨T, G0, F0⟩) d__law_low_right (hr.mono (by decide)) tk lk (da_cons (de_var 2 rfl (.inl rfl)) (da_cons (de_var 3 rfl (.inl rfl)) (da_cons (de_op od_add de_int (de_callD (A := ⟨T, G0, F0⟩) d__law_pick (hr.mono (by decide)) tk lk (da_cons (de_var 2 rfl (.inl rfl)) (da_cons de_int da_nil)))) da_nil)))))) (ds_one (ds_ret de_bl)) ds_nil) (ds_one (ds_for hp hc (di_seq (de_lst (da_cons (de_op od_add de_int (de_callD (A := ⟨T, G0, F0⟩) d__law_pick (hr.mono (by decide)) tk lk (da_cons (de_var 2 rfl (.inl rfl)) (da_cons de_int da_nil)))) (da_cons (de_op od_sub (de_op od_pow de_int de_int) (de_callD (A := ⟨T, G0, F0⟩) d__law_pick (hr.mono (by decide)) tk lk (da_cons (de_var 2 rfl (.inl rfl)) (da_cons de_int da_nil)))) da_nil)))) (dg_name (i := 4) sc.nd rfl (.inl rfl)) (ds_one (ds_if (PW.pt (dw_or (dt_not (dt_val (de_callD (A := ⟨T, G0, F0⟩) d__law_high_right (hr.mono (by decide)) tk lk (da_cons (de_var 2 rfl (.inl rfl)) (da_cons (de_var 3 rfl (.inl rfl)) (da_cons (de_var 4 rfl (.inl rfl)) da_nil)))))) (dw_or1 (dt_not (dt_val (de_callD (A := ⟨T, G0, F0⟩) d__law_refusals (hr.mono (by decide)) tk lk (da_cons (de_var 3 rfl (.inl rfl)) (da_cons (de_var 4 rfl (.inl rfl)) da_nil)))))))) (ds_one (ds_ret de_bl)) ds_nil)))))))) (ds_one (ds_ret (de_callD0 (A := ⟨T, G0, F0⟩) d__law_written (hr.mono (by decide)) tk lk))))
end
theorem chain {P : Program} {w : World} {K : PySem.W.Frag} {mg : Str → Option Value} {base : Heap} (a : Ads) (CS : Addr) (nb : Blt mg)
    (x_InvalidHeight : ExcT K mg "InvalidHeight" (a.c "InvalidHeight"))
    (x_InvalidNumber : ExcT K mg "InvalidNumber" (a.c "InvalidNumber"))
    (x_InvalidPlace : ExcT K mg "InvalidPlace" (a.c "InvalidPlace"))
    (x_InvalidScript : ExcT K mg "InvalidScript" (a.c "InvalidScript"))
    (c_FEW : ∃ t, mg "FEW" = some (.int (60) t))
    (c_HIGH : ∃ t, mg "HIGH" = some (.int (10 ^ 30) t))
    (c_LEAST : ∃ t, mg "LEAST" = some (.int (12) t))
    (c_MOST_FLIPS : ∃ t, mg "MOST_FLIPS" = some (.int (8) t))
    (k_InvalidFlip : mg "InvalidFlip" = some (.ref (a.c "InvalidFlip")))
    (k_InvalidHeight : mg "InvalidHeight" = some (.ref (a.c "InvalidHeight")))
    (k_InvalidIndex : mg "InvalidIndex" = some (.ref (a.c "InvalidIndex")))
    (k_InvalidNumber : mg "InvalidNumber" = some (.ref (a.c "InvalidNumber")))
    (k_InvalidPlace : mg "InvalidPlace" = some (.ref (a.c "InvalidPlace")))
    (k_InvalidScript : mg "InvalidScript" = some (.ref (a.c "InvalidScript")))
    (k_InvalidStack : mg "InvalidStack" = some (.ref (a.c "InvalidStack")))
    (k_InvalidText : mg "InvalidText" = some (.ref (a.c "InvalidText")))
    (k_NothingToUndo : mg "NothingToUndo" = some (.ref (a.c "NothingToUndo")))
    (k_TooMany : mg "TooMany" = some (.ref (a.c "TooMany")))
    (k_Unlike : mg "Unlike" = some (.ref (a.c "Unlike")))
    (v_after : mg "after" = some (.ref (a.f "after")))
    (v_order : mg "order" = some (.ref (a.f "order")))
    (t_is_int : Top K mg "is_int" (topS 17) ["value", "low", "high"])
    (t_is_right_flip : Top K mg "is_right_flip" (topS 18) ["value"])
    (t_are_flips : Top K mg "are_flips" (topS 19) ["value", "most"])
    (t_is_right_script : Top K mg "is_right_script" (topS 20) ["value"])
    (t_block_of : Top K mg "block_of" (topS 21) ["flip", "n"])
    (t_need_script : Top K mg "need_script" (topS 22) ["value"])
    (t_need_height : Top K mg "need_height" (topS 23) ["value", "most"])
    (t_need_rounds : Top K mg "need_rounds" (topS 24) ["value"])
    (t_need_place : Top K mg "need_place" (topS 25) ["n", "value"])
    (t_once : Top K mg "once" (topS 28) ["script", "n", "place"])
    (t_reach_of : Top K mg "reach_of" (topS 29) ["script"])
    (t_middle_of : Top K mg "middle_of" (topS 30) ["script"])
    (t_is_amid : Top K mg "is_amid" (topS 31) ["script", "n", "place"])
    (t_ride : Top K mg "ride" (topS 32) ["script", "n", "place", "most"])
    (t_rides : Top K mg "rides" (topS 33) ["script", "n", "place", "rounds"])
    (t_short_cycle : Top K mg "short_cycle" (topS 34) ["script", "n", "place"])
    (t_cycle_of : Top K mg "cycle_of" (topS 35) ["script", "n", "place"])
    (t_after_rounds : Top K mg "after_rounds" (topS 36) ["script", "n", "place", "rounds"])
    (t_after : Top K mg "after" (topS 37) ["script", "n", "place", "rounds"])
    (t_order : Top K mg "order" (topS 38) ["script", "n"])
    (t__law_source : Top K mg "_law_source" (topS 40) ["_law_script_here", "_law_k"])
    (t__law_pick : Top K mg "_law_pick" (topS 41) ["_law_source_here", "_law_many"])
    (t__law_chosen : Top K mg "_law_chosen" (topS 42) ["_law_source_here", "_law_things"])
    {c__law_by_two P__law_by_two : Addr} (t__law_by_two : TopL K mg "_law_by_two" (topS 43) ["_law_call", "_law_one", "_law_other"] c__law_by_two) (B__law_by_two : LamX.TabB base mg c__law_by_two P__law_by_two)
    {c__law_by_four P__law_by_four : Addr} (t__law_by_four : TopL K mg "_law_by_four" (topS 44) ["_law_call", "_law_one", "_law_other", "_law_third", "_law_last"] c__law_by_four) (B__law_by_four : LamX.TabB base mg c__law_by_four P__law_by_four)
    (t__law_refused : Top K mg "_law_refused" (topS 45) ["_law_call"])
    (t__law_error : Top K mg "_law_error" (topS 46) ["_law_e"])
    (t__law_flip : Top K mg "_law_flip" (topS 47) ["_law_source_here"])
    (t__law_script : Top K mg "_law_script" (topS 48) ["_law_source_here", "_law_most_so"])
    (t__law_flipped : Top K mg "_law_flipped" (topS 49) ["_law_lying_here", "_law_flip_here"])
    (t__law_lying : Top K mg "_law_lying" (topS 50) ["_law_script_so", "_law_n"])
    (t__law_goes : Top K mg "_law_goes" (topS 51) ["_law_script_so", "_law_n"])
    (t__law_step : Top K mg "_law_step" (topS 52) ["_law_script_so", "_law_n", "_law_place_so"])
    (t__law_run : Top K mg "_law_run" (topS 53) ["_law_script_so", "_law_n", "_law_place_so", "_law_rounds"])
    (t__law_low_right : Top K mg "_law_low_right" (topS 54) ["_law_source_here", "_law_script_so", "_law_n"])
    (t__law_high_right : Top K mg "_law_high_right" (topS 55) ["_law_source_here", "_law_script_so", "_law_n"])
    (t__law_refusals : Top K mg "_law_refusals" (topS 56) ["_law_script_so", "_law_n"])
    (t__law_written : Top K mg "_law_written" (topS 57) [])
    {fl : Addr} {fdl : FuncData} (Fl : Fun K "law" "law" (topS 58) fl fdl)
    (hAp : Apart a fun D c => PySem.W.kitOne K (.ref D) (.ref c)) (hEx : ∀ x ∈ words, ExcC K (a.c x.1) ∧ PySem.W.exmOne K (.ref (a.c x.1)) (.ref CS) = some true) (hFE : mg "FlipError" = some (.ref CS))
    (hne01 : P__law_by_two ≠ P__law_by_four) :
    FnOk P w K mg base (L2N.CX P w) 11 fl fdl ["_law_script_here"] (spD K [(P__law_by_two, Str.ofString "_law_by_two.<locals>.<lambda>"), (P__law_by_four, Str.ofString "_law_by_four.<locals>.<lambda>")] (sp_law a)) := by
  generalize hT : ([(P__law_by_two, Str.ofString "_law_by_two.<locals>.<lambda>"), (P__law_by_four, Str.ofString "_law_by_four.<locals>.<lambda>")] : List (Addr × Str)) = T
  have m__law_by_two : (P__law_by_two, Str.ofString "_law_by_two.<locals>.<lambda>") ∈ T := by rw [← hT]; simp
  have m__law_by_four : (P__law_by_four, Str.ofString "_law_by_four.<locals>.<lambda>") ∈ T := by rw [← hT]; simp
  have u__law_by_two : ∀ p ∈ T, p.1 = P__law_by_two → p.2 = Str.ofString "_law_by_two.<locals>.<lambda>" := by
    rw [← hT]
    intro p hp e
    simp only [List.mem_cons, List.not_mem_nil, or_false] at hp
    rcases hp with rfl | rfl
    · rfl
    · exact absurd (Eq.symm e) hne01
  have u__law_by_four : ∀ p ∈ T, p.1 = P__law_by_four → p.2 = Str.ofString "_law_by_four.<locals>.<lambda>" := by
    rw [← hT]
    intro p hp e
    simp only [List.mem_cons, List.not_mem_nil, or_false] at hp
    rcases hp with rfl | rfl
    · exact absurd e hne01
    · rfl
  have hC : ∀ D wd, wordA a D wd → ExcC K D ∧ PySem.W.exmOne K (.ref D) (.ref CS) = some true := by
    rintro D wd ⟨x, hx, rfl⟩
    exact hEx _ hx
  have d_is_int : Def P w K mg base T 1 "is_int" ["value", "low", "high"] (sp_is_int a) := def_ok t_is_int sc_is_int (fun f cdv A0 outer s H E G0 F0 Wd hr lk => dv_is_int nb f cdv A0 outer s H E G0 F0 Wd hr lk) (fun ds μ P Pe h => by first | (obtain ⟨_, rfl, _⟩ := h; rfl) | (obtain ⟨_, _, rfl, _⟩ := h; rfl) | (obtain ⟨_, _, _, rfl, _⟩ := h; rfl) | (obtain ⟨_, _, _, _, rfl, _⟩ := h; rfl) | (obtain ⟨_, _, _, _, _, rfl, _⟩ := h; rfl) | (obtain ⟨rfl, _⟩ := h; rfl)) fun ds μ P Pe h => se_is_int a h
  have d_block_of : Def P w K mg base T 1 "block_of" ["flip", "n"] (sp_block_of a) := def_ok t_block_of sc_block_of (fun f cdv A0 outer s H E G0 F0 Wd hr lk => dv_block_of  f cdv A0 outer s H E G0 F0 Wd hr lk) (fun ds μ P Pe h => by first | (obtain ⟨_, rfl, _⟩ := h; rfl) | (obtain ⟨_, _, rfl, _⟩ := h; rfl) | (obtain ⟨_, _, _, rfl, _⟩ := h; rfl) | (obtain ⟨_, _, _, _, rfl, _⟩ := h; rfl) | (obtain ⟨_, _, _, _, _, rfl, _⟩ := h; rfl) | (obtain ⟨rfl, _⟩ := h; rfl)) fun ds μ P Pe h => se_block_of a h
  have d_reach_of : Def P w K mg base T 1 "reach_of" ["script"] (sp_reach_of a) := def_ok t_reach_of sc_reach_of (fun f cdv A0 outer s H E G0 F0 Wd hr lk => dv_reach_of nb f cdv A0 outer s H E G0 F0 Wd hr lk) (fun ds μ P Pe h => by first | (obtain ⟨_, rfl, _⟩ := h; rfl) | (obtain ⟨_, _, rfl, _⟩ := h; rfl) | (obtain ⟨_, _, _, rfl, _⟩ := h; rfl) | (obtain ⟨_, _, _, _, rfl, _⟩ := h; rfl) | (obtain ⟨_, _, _, _, _, rfl, _⟩ := h; rfl) | (obtain ⟨rfl, _⟩ := h; rfl)) fun ds μ P Pe h => se_reach_of a h
  have d_middle_of : Def P w K mg base T 1 "middle_of" ["script"] (sp_middle_of a) := def_ok t_middle_of sc_middle_of (fun f cdv A0 outer s H E G0 F0 Wd hr lk => dv_middle_of  f cdv A0 outer s H E G0 F0 Wd hr lk) (fun ds μ P Pe h => by first | (obtain ⟨_, rfl, _⟩ := h; rfl) | (obtain ⟨_, _, rfl, _⟩ := h; rfl) | (obtain ⟨_, _, _, rfl, _⟩ := h; rfl) | (obtain ⟨_, _, _, _, rfl, _⟩ := h; rfl) | (obtain ⟨_, _, _, _, _, rfl, _⟩ := h; rfl) | (obtain ⟨rfl, _⟩ := h; rfl)) fun ds μ P Pe h => se_middle_of a h
  have d__law_source : Def P w K mg base T 1 "_law_source" ["_law_script_here", "_law_k"] (sp_law_source a) := def_ok t__law_source sc_law_source (fun f cdv A0 outer s H E G0 F0 Wd hr lk => dv_law_source nb f cdv A0 outer s H E G0 F0 Wd hr lk) (fun ds μ P Pe h => by first | (obtain ⟨_, rfl, _⟩ := h; rfl) | (obtain ⟨_, _, rfl, _⟩ := h; rfl) | (obtain ⟨_, _, _, rfl, _⟩ := h; rfl) | (obtain ⟨_, _, _, _, rfl, _⟩ := h; rfl) | (obtain ⟨_, _, _, _, _, rfl, _⟩ := h; rfl) | (obtain ⟨rfl, _⟩ := h; rfl)) fun ds μ P Pe h => se_law_source a h
  have d__law_pick : Def P w K mg base T 1 "_law_pick" ["_law_source_here", "_law_many"] (sp_law_pick a) := def_ok t__law_pick sc_law_pick (fun f cdv A0 outer s H E G0 F0 Wd hr lk => dv_law_pick nb f cdv A0 outer s H E G0 F0 Wd hr lk) (fun ds μ P Pe h => by first | (obtain ⟨_, rfl, _⟩ := h; rfl) | (obtain ⟨_, _, rfl, _⟩ := h; rfl) | (obtain ⟨_, _, _, rfl, _⟩ := h; rfl) | (obtain ⟨_, _, _, _, rfl, _⟩ := h; rfl) | (obtain ⟨_, _, _, _, _, rfl, _⟩ := h; rfl) | (obtain ⟨rfl, _⟩ := h; rfl)) fun ds μ P Pe h => se_law_pick a h
  have e__law_error : ErrD P w K mg base T 7 "_law_error" "_law_e" (wordA a) := err_ok (k := 6) t__law_error sc_law_error (fun f cdv A0 outer s H E G0 F0 p D hr hot ho => dv_law_error nb k_InvalidFlip k_InvalidHeight k_InvalidIndex k_InvalidNumber k_InvalidPlace k_InvalidScript k_InvalidStack k_InvalidText k_NothingToUndo k_TooMany k_Unlike f cdv A0 outer s H E G0 F0 p D (hr.mono (by decide)) hot ho) fun e D wd μ Pd hw h => se_law_error a hAp e D wd μ Pd hw h
  have d__law_flipped : Def P w K mg base T 1 "_law_flipped" ["_law_lying_here", "_law_flip_here"] (sp_law_flipped a) := def_ok t__law_flipped sc_law_flipped (fun f cdv A0 outer s H E G0 F0 Wd hr lk => dv_law_flipped nb f cdv A0 outer s H E G0 F0 Wd hr lk) (fun ds μ P Pe h => by first | (obtain ⟨_, rfl, _⟩ := h; rfl) | (obtain ⟨_, _, rfl, _⟩ := h; rfl) | (obtain ⟨_, _, _, rfl, _⟩ := h; rfl) | (obtain ⟨_, _, _, _, rfl, _⟩ := h; rfl) | (obtain ⟨_, _, _, _, _, rfl, _⟩ := h; rfl) | (obtain ⟨rfl, _⟩ := h; rfl)) fun ds μ P Pe h => se_law_flipped a h
  have d__law_step : Def P w K mg base T 1 "_law_step" ["_law_script_so", "_law_n", "_law_place_so"] (sp_law_step a) := def_ok t__law_step sc_law_step (fun f cdv A0 outer s H E G0 F0 Wd hr lk => dv_law_step  f cdv A0 outer s H E G0 F0 Wd hr lk) (fun ds μ P Pe h => by first | (obtain ⟨_, rfl, _⟩ := h; rfl) | (obtain ⟨_, _, rfl, _⟩ := h; rfl) | (obtain ⟨_, _, _, rfl, _⟩ := h; rfl) | (obtain ⟨_, _, _, _, rfl, _⟩ := h; rfl) | (obtain ⟨_, _, _, _, _, rfl, _⟩ := h; rfl) | (obtain ⟨rfl, _⟩ := h; rfl)) fun ds μ P Pe h => se_law_step a h
  have d_is_right_flip : Def P w K mg base T 2 "is_right_flip" ["value"] (sp_is_right_flip a) := def_ok t_is_right_flip sc_is_right_flip (fun f cdv A0 outer s H E G0 F0 Wd hr lk => dv_is_right_flip nb d_is_int f cdv A0 outer s H E G0 F0 Wd hr lk) (fun ds μ P Pe h => by first | (obtain ⟨_, rfl, _⟩ := h; rfl) | (obtain ⟨_, _, rfl, _⟩ := h; rfl) | (obtain ⟨_, _, _, rfl, _⟩ := h; rfl) | (obtain ⟨_, _, _, _, rfl, _⟩ := h; rfl) | (obtain ⟨_, _, _, _, _, rfl, _⟩ := h; rfl) | (obtain ⟨rfl, _⟩ := h; rfl)) fun ds μ P Pe h => se_is_right_flip a h
  have d_need_height : Def P w K mg base T 2 "need_height" ["value", "most"] (sp_need_height a) := def_ok t_need_height sc_need_height (fun f cdv A0 outer s H E G0 F0 Wd hr lk => dv_need_height c_LEAST d_is_int x_InvalidHeight f cdv A0 outer s H E G0 F0 Wd hr lk) (fun ds μ P Pe h => by first | (obtain ⟨_, rfl, _⟩ := h; rfl) | (obtain ⟨_, _, rfl, _⟩ := h; rfl) | (obtain ⟨_, _, _, rfl, _⟩ := h; rfl) | (obtain ⟨_, _, _, _, rfl, _⟩ := h; rfl) | (obtain ⟨_, _, _, _, _, rfl, _⟩ := h; rfl) | (obtain ⟨rfl, _⟩ := h; rfl)) fun ds μ P Pe h => se_need_height a h
  have d_need_rounds : Def P w K mg base T 2 "need_rounds" ["value"] (sp_need_rounds a) := def_ok t_need_rounds sc_need_rounds (fun f cdv A0 outer s H E G0 F0 Wd hr lk => dv_need_rounds c_HIGH d_is_int x_InvalidNumber f cdv A0 outer s H E G0 F0 Wd hr lk) (fun ds μ P Pe h => by first | (obtain ⟨_, rfl, _⟩ := h; rfl) | (obtain ⟨_, _, rfl, _⟩ := h; rfl) | (obtain ⟨_, _, _, rfl, _⟩ := h; rfl) | (obtain ⟨_, _, _, _, rfl, _⟩ := h; rfl) | (obtain ⟨_, _, _, _, _, rfl, _⟩ := h; rfl) | (obtain ⟨rfl, _⟩ := h; rfl)) fun ds μ P Pe h => se_need_rounds a h
  have d_need_place : Def P w K mg base T 2 "need_place" ["n", "value"] (sp_need_place a) := def_ok t_need_place sc_need_place (fun f cdv A0 outer s H E G0 F0 Wd hr lk => dv_need_place d_is_int x_InvalidPlace f cdv A0 outer s H E G0 F0 Wd hr lk) (fun ds μ P Pe h => by first | (obtain ⟨_, rfl, _⟩ := h; rfl) | (obtain ⟨_, _, rfl, _⟩ := h; rfl) | (obtain ⟨_, _, _, rfl, _⟩ := h; rfl) | (obtain ⟨_, _, _, _, rfl, _⟩ := h; rfl) | (obtain ⟨_, _, _, _, _, rfl, _⟩ := h; rfl) | (obtain ⟨rfl, _⟩ := h; rfl)) fun ds μ P Pe h => se_need_place a h
  have d_once : Def P w K mg base T 2 "once" ["script", "n", "place"] (sp_once a) := def_ok t_once sc_once (fun f cdv A0 outer s H E G0 F0 Wd hr lk => dv_once d_block_of f cdv A0 outer s H E G0 F0 Wd hr lk) (fun ds μ P Pe h => by first | (obtain ⟨_, rfl, _⟩ := h; rfl) | (obtain ⟨_, _, rfl, _⟩ := h; rfl) | (obtain ⟨_, _, _, rfl, _⟩ := h; rfl) | (obtain ⟨_, _, _, _, rfl, _⟩ := h; rfl) | (obtain ⟨_, _, _, _, _, rfl, _⟩ := h; rfl) | (obtain ⟨rfl, _⟩ := h; rfl)) fun ds μ P Pe h => se_once a h
  have d_is_amid : Def P w K mg base T 2 "is_amid" ["script", "n", "place"] (sp_is_amid a) := def_ok t_is_amid sc_is_amid (fun f cdv A0 outer s H E G0 F0 Wd hr lk => dv_is_amid d_reach_of f cdv A0 outer s H E G0 F0 Wd hr lk) (fun ds μ P Pe h => by first | (obtain ⟨_, rfl, _⟩ := h; rfl) | (obtain ⟨_, _, rfl, _⟩ := h; rfl) | (obtain ⟨_, _, _, rfl, _⟩ := h; rfl) | (obtain ⟨_, _, _, _, rfl, _⟩ := h; rfl) | (obtain ⟨_, _, _, _, _, rfl, _⟩ := h; rfl) | (obtain ⟨rfl, _⟩ := h; rfl)) fun ds μ P Pe h => se_is_amid a h
  have d__law_chosen : Def P w K mg base T 2 "_law_chosen" ["_law_source_here", "_law_things"] (sp_law_chosen a) := def_ok t__law_chosen sc_law_chosen (fun f cdv A0 outer s H E G0 F0 Wd hr lk => dv_law_chosen nb d__law_pick f cdv A0 outer s H E G0 F0 Wd hr lk) (fun ds μ P Pe h => by first | (obtain ⟨_, rfl, _⟩ := h; rfl) | (obtain ⟨_, _, rfl, _⟩ := h; rfl) | (obtain ⟨_, _, _, rfl, _⟩ := h; rfl) | (obtain ⟨_, _, _, _, rfl, _⟩ := h; rfl) | (obtain ⟨_, _, _, _, _, rfl, _⟩ := h; rfl) | (obtain ⟨rfl, _⟩ := h; rfl)) fun ds μ P Pe h => se_law_chosen a h
  have r__law_refused : RefD P w K mg base T 7 "_law_refused" (wordA a) := ref_ok (e := "FlipError") (n := "_law_e") (er := "_law_error") (y := "_law_e") (CS := CS) t__law_refused sc_law_refused rfl e__law_error hC hFE rfl rfl (.inl rfl) rfl rfl rfl fun f => ⟨rfl, by simp [L2.start]⟩
  have d__law_flip : Def P w K mg base T 2 "_law_flip" ["_law_source_here"] (sp_law_flip a) := def_ok t__law_flip sc_law_flip (fun f cdv A0 outer s H E G0 F0 Wd hr lk => dv_law_flip d__law_pick f cdv A0 outer s H E G0 F0 Wd hr lk) (fun ds μ P Pe h => by first | (obtain ⟨_, rfl, _⟩ := h; rfl) | (obtain ⟨_, _, rfl, _⟩ := h; rfl) | (obtain ⟨_, _, _, rfl, _⟩ := h; rfl) | (obtain ⟨_, _, _, _, rfl, _⟩ := h; rfl) | (obtain ⟨_, _, _, _, _, rfl, _⟩ := h; rfl) | (obtain ⟨rfl, _⟩ := h; rfl)) fun ds μ P Pe h => se_law_flip a h
  have d__law_lying : Def P w K mg base T 2 "_law_lying" ["_law_script_so", "_law_n"] (sp_law_lying a) := def_ok t__law_lying sc_law_lying (fun f cdv A0 outer s H E G0 F0 Wd hr lk => dv_law_lying nb d__law_flipped f cdv A0 outer s H E G0 F0 Wd hr lk) (fun ds μ P Pe h => by first | (obtain ⟨_, rfl, _⟩ := h; rfl) | (obtain ⟨_, _, rfl, _⟩ := h; rfl) | (obtain ⟨_, _, _, rfl, _⟩ := h; rfl) | (obtain ⟨_, _, _, _, rfl, _⟩ := h; rfl) | (obtain ⟨_, _, _, _, _, rfl, _⟩ := h; rfl) | (obtain ⟨rfl, _⟩ := h; rfl)) fun ds μ P Pe h => se_law_lying a h
  have d__law_run : Def P w K mg base T 2 "_law_run" ["_law_script_so", "_law_n", "_law_place_so", "_law_rounds"] (sp_law_run a) := def_ok t__law_run sc_law_run (fun f cdv A0 outer s H E G0 F0 Wd hr lk => dv_law_run nb d__law_step f cdv A0 outer s H E G0 F0 Wd hr lk) (fun ds μ P Pe h => by first | (obtain ⟨_, rfl, _⟩ := h; rfl) | (obtain ⟨_, _, rfl, _⟩ := h; rfl) | (obtain ⟨_, _, _, rfl, _⟩ := h; rfl) | (obtain ⟨_, _, _, _, rfl, _⟩ := h; rfl) | (obtain ⟨_, _, _, _, _, rfl, _⟩ := h; rfl) | (obtain ⟨rfl, _⟩ := h; rfl)) fun ds μ P Pe h => se_law_run a h
  have d_are_flips : Def P w K mg base T 3 "are_flips" ["value", "most"] (sp_are_flips a) := def_ok t_are_flips sc_are_flips (fun f cdv A0 outer s H E G0 F0 Wd hr lk => dv_are_flips nb d_is_right_flip f cdv A0 outer s H E G0 F0 Wd hr lk) (fun ds μ P Pe h => by first | (obtain ⟨_, rfl, _⟩ := h; rfl) | (obtain ⟨_, _, rfl, _⟩ := h; rfl) | (obtain ⟨_, _, _, rfl, _⟩ := h; rfl) | (obtain ⟨_, _, _, _, rfl, _⟩ := h; rfl) | (obtain ⟨_, _, _, _, _, rfl, _⟩ := h; rfl) | (obtain ⟨rfl, _⟩ := h; rfl)) fun ds μ P Pe h => se_are_flips a h
  have d_ride : Def P w K mg base T 3 "ride" ["script", "n", "place", "most"] (sp_ride a) := def_ok t_ride sc_ride (fun f cdv A0 outer s H E G0 F0 Wd hr lk => dv_ride nb d_is_amid d_middle_of d_once d_reach_of f cdv A0 outer s H E G0 F0 Wd hr lk) (fun ds μ P Pe h => by first | (obtain ⟨_, rfl, _⟩ := h; rfl) | (obtain ⟨_, _, rfl, _⟩ := h; rfl) | (obtain ⟨_, _, _, rfl, _⟩ := h; rfl) | (obtain ⟨_, _, _, _, rfl, _⟩ := h; rfl) | (obtain ⟨_, _, _, _, _, rfl, _⟩ := h; rfl) | (obtain ⟨rfl, _⟩ := h; rfl)) fun ds μ P Pe h => se_ride a h
  have d_short_cycle : Def P w K mg base T 3 "short_cycle" ["script", "n", "place"] (sp_short_cycle a) := def_ok t_short_cycle sc_short_cycle (fun f cdv A0 outer s H E G0 F0 Wd hr lk => dv_short_cycle d_is_amid d_middle_of f cdv A0 outer s H E G0 F0 Wd hr lk) (fun ds μ P Pe h => by first | (obtain ⟨_, rfl, _⟩ := h; rfl) | (obtain ⟨_, _, rfl, _⟩ := h; rfl) | (obtain ⟨_, _, _, rfl, _⟩ := h; rfl) | (obtain ⟨_, _, _, _, rfl, _⟩ := h; rfl) | (obtain ⟨_, _, _, _, _, rfl, _⟩ := h; rfl) | (obtain ⟨rfl, _⟩ := h; rfl)) fun ds μ P Pe h => se_short_cycle a h
  have d__law_script : Def P w K mg base T 3 "_law_script" ["_law_source_here", "_law_most_so"] (sp_law_script a) := def_ok t__law_script sc_law_script (fun f cdv A0 outer s H E G0 F0 Wd hr lk => dv_law_script nb d__law_flip d__law_pick f cdv A0 outer s H E G0 F0 Wd hr lk) (fun ds μ P Pe h => by first | (obtain ⟨_, rfl, _⟩ := h; rfl) | (obtain ⟨_, _, rfl, _⟩ := h; rfl) | (obtain ⟨_, _, _, rfl, _⟩ := h; rfl) | (obtain ⟨_, _, _, _, rfl, _⟩ := h; rfl) | (obtain ⟨_, _, _, _, _, rfl, _⟩ := h; rfl) | (obtain ⟨rfl, _⟩ := h; rfl)) fun ds μ P Pe h => se_law_script a h
  have d__law_goes : Def P w K mg base T 3 "_law_goes" ["_law_script_so", "_law_n"] (sp_law_goes a) := def_ok t__law_goes sc_law_goes (fun f cdv A0 outer s H E G0 F0 Wd hr lk => dv_law_goes nb d__law_lying f cdv A0 outer s H E G0 F0 Wd hr lk) (fun ds μ P Pe h => by first | (obtain ⟨_, rfl, _⟩ := h; rfl) | (obtain ⟨_, _, rfl, _⟩ := h; rfl) | (obtain ⟨_, _, _, rfl, _⟩ := h; rfl) | (obtain ⟨_, _, _, _, rfl, _⟩ := h; rfl) | (obtain ⟨_, _, _, _, _, rfl, _⟩ := h; rfl) | (obtain ⟨rfl, _⟩ := h; rfl)) fun ds μ P Pe h => se_law_goes a h
  have d_is_right_script : Def P w K mg base T 4 "is_right_script" ["value"] (sp_is_right_script a) := def_ok t_is_right_script sc_is_right_script (fun f cdv A0 outer s H E G0 F0 Wd hr lk => dv_is_right_script c_MOST_FLIPS d_are_flips f cdv A0 outer s H E G0 F0 Wd hr lk) (fun ds μ P Pe h => by first | (obtain ⟨_, rfl, _⟩ := h; rfl) | (obtain ⟨_, _, rfl, _⟩ := h; rfl) | (obtain ⟨_, _, _, rfl, _⟩ := h; rfl) | (obtain ⟨_, _, _, _, rfl, _⟩ := h; rfl) | (obtain ⟨_, _, _, _, _, rfl, _⟩ := h; rfl) | (obtain ⟨rfl, _⟩ := h; rfl)) fun ds μ P Pe h => se_is_right_script a h
  have d_rides : Def P w K mg base T 4 "rides" ["script", "n", "place", "rounds"] (sp_rides a) := def_ok t_rides sc_rides (fun f cdv A0 outer s H E G0 F0 Wd hr lk => dv_rides d_ride f cdv A0 outer s H E G0 F0 Wd hr lk) (fun ds μ P Pe h => by first | (obtain ⟨_, rfl, _⟩ := h; rfl) | (obtain ⟨_, _, rfl, _⟩ := h; rfl) | (obtain ⟨_, _, _, rfl, _⟩ := h; rfl) | (obtain ⟨_, _, _, _, rfl, _⟩ := h; rfl) | (obtain ⟨_, _, _, _, _, rfl, _⟩ := h; rfl) | (obtain ⟨rfl, _⟩ := h; rfl)) fun ds μ P Pe h => se_rides a h
  have d_cycle_of : Def P w K mg base T 4 "cycle_of" ["script", "n", "place"] (sp_cycle_of a) := def_ok t_cycle_of sc_cycle_of (fun f cdv A0 outer s H E G0 F0 Wd hr lk => dv_cycle_of d_is_amid d_ride d_short_cycle f cdv A0 outer s H E G0 F0 Wd hr lk) (fun ds μ P Pe h => by first | (obtain ⟨_, rfl, _⟩ := h; rfl) | (obtain ⟨_, _, rfl, _⟩ := h; rfl) | (obtain ⟨_, _, _, rfl, _⟩ := h; rfl) | (obtain ⟨_, _, _, _, rfl, _⟩ := h; rfl) | (obtain ⟨_, _, _, _, _, rfl, _⟩ := h; rfl) | (obtain ⟨rfl, _⟩ := h; rfl)) fun ds μ P Pe h => se_cycle_of a h
  have d_need_script : Def P w K mg base T 5 "need_script" ["value"] (sp_need_script a) := def_ok t_need_script sc_need_script (fun f cdv A0 outer s H E G0 F0 Wd hr lk => dv_need_script d_is_right_script x_InvalidScript f cdv A0 outer s H E G0 F0 Wd hr lk) (fun ds μ P Pe h => by first | (obtain ⟨_, rfl, _⟩ := h; rfl) | (obtain ⟨_, _, rfl, _⟩ := h; rfl) | (obtain ⟨_, _, _, rfl, _⟩ := h; rfl) | (obtain ⟨_, _, _, _, rfl, _⟩ := h; rfl) | (obtain ⟨_, _, _, _, _, rfl, _⟩ := h; rfl) | (obtain ⟨rfl, _⟩ := h; rfl)) fun ds μ P Pe h => se_need_script a h
  have d_after_rounds : Def P w K mg base T 5 "after_rounds" ["script", "n", "place", "rounds"] (sp_after_rounds a) := def_ok t_after_rounds sc_after_rounds (fun f cdv A0 outer s H E G0 F0 Wd hr lk => dv_after_rounds d_cycle_of d_rides f cdv A0 outer s H E G0 F0 Wd hr lk) (fun ds μ P Pe h => by first | (obtain ⟨_, rfl, _⟩ := h; rfl) | (obtain ⟨_, _, rfl, _⟩ := h; rfl) | (obtain ⟨_, _, _, rfl, _⟩ := h; rfl) | (obtain ⟨_, _, _, _, rfl, _⟩ := h; rfl) | (obtain ⟨_, _, _, _, _, rfl, _⟩ := h; rfl) | (obtain ⟨rfl, _⟩ := h; rfl)) fun ds μ P Pe h => se_after_rounds a h
  have d_after : Def P w K mg base T 6 "after" ["script", "n", "place", "rounds"] (sp_after a) := def_ok t_after sc_after (fun f cdv A0 outer s H E G0 F0 Wd hr lk => dv_after c_HIGH d_after_rounds d_need_height d_need_place d_need_rounds d_need_script f cdv A0 outer s H E G0 F0 Wd hr lk) (fun ds μ P Pe h => by first | (obtain ⟨_, rfl, _⟩ := h; rfl) | (obtain ⟨_, _, rfl, _⟩ := h; rfl) | (obtain ⟨_, _, _, rfl, _⟩ := h; rfl) | (obtain ⟨_, _, _, _, rfl, _⟩ := h; rfl) | (obtain ⟨_, _, _, _, _, rfl, _⟩ := h; rfl) | (obtain ⟨rfl, _⟩ := h; rfl)) fun ds μ P Pe h => se_after a h
  have d_order : Def P w K mg base T 6 "order" ["script", "n"] (sp_order a) := def_ok t_order sc_order (fun f cdv A0 outer s H E G0 F0 Wd hr lk => dv_order nb c_FEW d_need_height d_need_script d_once f cdv A0 outer s H E G0 F0 Wd hr lk) (fun ds μ P Pe h => by first | (obtain ⟨_, rfl, _⟩ := h; rfl) | (obtain ⟨_, _, rfl, _⟩ := h; rfl) | (obtain ⟨_, _, _, rfl, _⟩ := h; rfl) | (obtain ⟨_, _, _, _, rfl, _⟩ := h; rfl) | (obtain ⟨_, _, _, _, _, rfl, _⟩ := h; rfl) | (obtain ⟨rfl, _⟩ := h; rfl)) fun ds μ P Pe h => se_order a h
  have hS : Holds P w K mg base T 6 (heldS a) := by
    rintro f spec (⟨rfl, rfl⟩ | ⟨rfl, rfl⟩)
    · exact held_of d_after v_after
    · exact held_of d_order v_order
  have d__law_low_right : Def P w K mg base T 7 "_law_low_right" ["_law_source_here", "_law_script_so", "_law_n"] (sp_law_low_right a) := def_ok t__law_low_right sc_law_low_right (fun f cdv A0 outer s H E G0 F0 Wd hr lk => dv_law_low_right nb d__law_goes d__law_lying d__law_pick d_after d_order f cdv A0 outer s H E G0 F0 Wd hr lk) (fun ds μ P Pe h => by first | (obtain ⟨_, rfl, _⟩ := h; rfl) | (obtain ⟨_, _, rfl, _⟩ := h; rfl) | (obtain ⟨_, _, _, rfl, _⟩ := h; rfl) | (obtain ⟨_, _, _, _, rfl, _⟩ := h; rfl) | (obtain ⟨_, _, _, _, _, rfl, _⟩ := h; rfl) | (obtain ⟨rfl, _⟩ := h; rfl)) fun ds μ P Pe h => se_law_low_right a h
  have d__law_high_right : Def P w K mg base T 7 "_law_high_right" ["_law_source_here", "_law_script_so", "_law_n"] (sp_law_high_right a) := def_ok t__law_high_right sc_law_high_right (fun f cdv A0 outer s H E G0 F0 Wd hr lk => dv_law_high_right d__law_pick d__law_run d_after f cdv A0 outer s H E G0 F0 Wd hr lk) (fun ds μ P Pe h => by first | (obtain ⟨_, rfl, _⟩ := h; rfl) | (obtain ⟨_, _, rfl, _⟩ := h; rfl) | (obtain ⟨_, _, _, rfl, _⟩ := h; rfl) | (obtain ⟨_, _, _, _, rfl, _⟩ := h; rfl) | (obtain ⟨_, _, _, _, _, rfl, _⟩ := h; rfl) | (obtain ⟨rfl, _⟩ := h; rfl)) fun ds μ P Pe h => se_law_high_right a h
  have d__law_written : Def P w K mg base T 7 "_law_written" [] (sp_law_written a) := def_ok t__law_written sc_law_written (fun f cdv A0 outer s H E G0 F0 Wd hr lk => dv_law_written nb d_after d_order f cdv A0 outer s H E G0 F0 Wd hr lk) (fun ds μ P Pe h => by first | (obtain ⟨_, rfl, _⟩ := h; rfl) | (obtain ⟨_, _, rfl, _⟩ := h; rfl) | (obtain ⟨_, _, _, rfl, _⟩ := h; rfl) | (obtain ⟨_, _, _, _, rfl, _⟩ := h; rfl) | (obtain ⟨_, _, _, _, _, rfl, _⟩ := h; rfl) | (obtain ⟨rfl, _⟩ := h; rfl)) fun ds μ P Pe h => se_law_written a h
  have d__law_by_two : Def P w K mg base T 9 "_law_by_two" ["_law_call", "_law_one", "_law_other"] (sp_law_by_two a) := def_okL t__law_by_two sc_law_by_two (fun f cdv A0 outer s H E G0 F0 Wd hcode hr lk => dv_law_by_two hS B__law_by_two m__law_by_two u__law_by_two r__law_refused f cdv A0 outer s H E G0 F0 Wd hcode hr lk) (fun ds μ P Pe h => by first | (obtain ⟨_, rfl, _⟩ := h; rfl) | (obtain ⟨_, _, rfl, _⟩ := h; rfl) | (obtain ⟨_, _, _, rfl, _⟩ := h; rfl) | (obtain ⟨_, _, _, _, rfl, _⟩ := h; rfl) | (obtain ⟨_, _, _, _, _, rfl, _⟩ := h; rfl) | (obtain ⟨rfl, _⟩ := h; rfl)) fun ds μ P Pe h => se_law_by_two a h
  have d__law_by_four : Def P w K mg base T 9 "_law_by_four" ["_law_call", "_law_one", "_law_other", "_law_third", "_law_last"] (sp_law_by_four a) := def_okL t__law_by_four sc_law_by_four (fun f cdv A0 outer s H E G0 F0 Wd hcode hr lk => dv_law_by_four hS B__law_by_four m__law_by_four u__law_by_four r__law_refused f cdv A0 outer s H E G0 F0 Wd hcode hr lk) (fun ds μ P Pe h => by first | (obtain ⟨_, rfl, _⟩ := h; rfl) | (obtain ⟨_, _, rfl, _⟩ := h; rfl) | (obtain ⟨_, _, _, rfl, _⟩ := h; rfl) | (obtain ⟨_, _, _, _, rfl, _⟩ := h; rfl) | (obtain ⟨_, _, _, _, _, rfl, _⟩ := h; rfl) | (obtain ⟨rfl, _⟩ := h; rfl)) fun ds μ P Pe h => se_law_by_four a h
  have d__law_refusals : Def P w K mg base T 10 "_law_refusals" ["_law_script_so", "_law_n"] (sp_law_refusals a) := def_ok t__law_refusals sc_law_refusals (fun f cdv A0 outer s H E G0 F0 Wd hr lk => dv_law_refusals d__law_by_four d__law_by_two v_after v_order f cdv A0 outer s H E G0 F0 Wd hr lk) (fun ds μ P Pe h => by first | (obtain ⟨_, rfl, _⟩ := h; rfl) | (obtain ⟨_, _, rfl, _⟩ := h; rfl) | (obtain ⟨_, _, _, rfl, _⟩ := h; rfl) | (obtain ⟨_, _, _, _, rfl, _⟩ := h; rfl) | (obtain ⟨_, _, _, _, _, rfl, _⟩ := h; rfl) | (obtain ⟨rfl, _⟩ := h; rfl)) fun ds μ P Pe h => se_law_refusals a h
  exact fn_ok Fl sc_law (fun cdv A0 outer s H E G0 F0 Wd hr lk => dv_law nb d__law_chosen d__law_high_right d__law_low_right d__law_pick d__law_refusals d__law_script d__law_source d__law_written fl cdv A0 outer s H E G0 F0 Wd hr lk) (fun ds μ P Pe h => by first | (obtain ⟨_, rfl, _⟩ := h; rfl) | (obtain ⟨_, _, rfl, _⟩ := h; rfl) | (obtain ⟨_, _, _, rfl, _⟩ := h; rfl) | (obtain ⟨_, _, _, _, rfl, _⟩ := h; rfl) | (obtain ⟨_, _, _, _, _, rfl, _⟩ := h; rfl) | (obtain ⟨rfl, _⟩ := h; rfl)) fun ds μ P Pe h => se_law a h

end G11

set_option Elab.async false
set_option linter.all false
set_option maxRecDepth 100000
set_option maxHeartbeats 4000000
namespace G11
open PySem PySem.Spec PyProof.Rows L2 HT DL GF HotX L2H HotD
theorem fin {w : World} {K : PySem.W.Frag} {mg : Str → Option Value} {fa : Addr} {h : Heap} (KX : K.In h) (G : h.Ns mainGlobals mg) (hmg : mg "law" = some (.ref fa))
    {f_is_int : Addr} {od_is_int an_is_int : Option Addr} {sl_is_int : Array (Option Value)} {oc_is_int kV_is_int dc_is_int pm_is_int cd_is_int ct_is_int : Value} (a_is_int : PySem.W.nsIn K mainGlobals "is_int" = some (some (.ref f_is_int))) (l_is_int : K.lookup f_is_int = some ⟨oc_is_int, od_is_int, .func (PySem.W.fnOf "is_int" "is_int" (defArgs (topS 17)) (defBody (topS 17)) (defScope (topS 17)) .none kV_is_int dc_is_int pm_is_int an_is_int cd_is_int ct_is_int), sl_is_int⟩) (y_is_int : PySem.W.codeIn K cd_is_int "is_int" = true) (z_is_int : PySem.W.keepIn K (.ref f_is_int) = true)
    {f_is_right_flip : Addr} {od_is_right_flip an_is_right_flip : Option Addr} {sl_is_right_flip : Array (Option Value)} {oc_is_right_flip kV_is_right_flip dc_is_right_flip pm_is_right_flip cd_is_right_flip ct_is_right_flip : Value} (a_is_right_flip : PySem.W.nsIn K mainGlobals "is_right_flip" = some (some (.ref f_is_right_flip))) (l_is_right_flip : K.lookup f_is_right_flip = some ⟨oc_is_right_flip, od_is_right_flip, .func (PySem.W.fnOf "is_right_flip" "is_right_flip" (defArgs (topS 18)) (defBody (topS 18)) (defScope (topS 18)) .none kV_is_right_flip dc_is_right_flip pm_is_right_flip an_is_right_flip cd_is_right_flip ct_is_right_flip), sl_is_right_flip⟩) (y_is_right_flip : PySem.W.codeIn K cd_is_right_flip "is_right_flip" = true) (z_is_right_flip : PySem.W.keepIn K (.ref f_is_right_flip) = true)
    {f_are_flips : Addr} {od_are_flips an_are_flips : Option Addr} {sl_are_flips : Array (Option Value)} {oc_are_flips kV_are_flips dc_are_flips pm_are_flips cd_are_flips ct_are_flips : Value} (a_are_flips : PySem.W.nsIn K mainGlobals "are_flips" = some (some (.ref f_are_flips))) (l_are_flips : K.lookup f_are_flips = some ⟨oc_are_flips, od_are_flips, .func (PySem.W.fnOf "are_flips" "are_flips" (defArgs (topS 19)) (defBody (topS 19)) (defScope (topS 19)) .none kV_are_flips dc_are_flips pm_are_flips an_are_flips cd_are_flips ct_are_flips), sl_are_flips⟩) (y_are_flips : PySem.W.codeIn K cd_are_flips "are_flips" = true) (z_are_flips : PySem.W.keepIn K (.ref f_are_flips) = true)
    {f_is_right_script : Addr} {od_is_right_script an_is_right_script : Option Addr} {sl_is_right_script : Array (Option Value)} {oc_is_right_script kV_is_right_script dc_is_right_script pm_is_right_script cd_is_right_script ct_is_right_script : Value} (a_is_right_script : PySem.W.nsIn K mainGlobals "is_right_script" = some (some (.ref f_is_right_script))) (l_is_right_script : K.lookup f_is_right_script = some ⟨oc_is_right_script, od_is_right_script, .func (PySem.W.fnOf "is_right_script" "is_right_script" (defArgs (topS 20)) (defBody (topS 20)) (defScope (topS 20)) .none kV_is_right_script dc_is_right_script pm_is_right_script an_is_right_script cd_is_right_script ct_is_right_script), sl_is_right_script⟩) (y_is_right_script : PySem.W.codeIn K cd_is_right_script "is_right_script" = true) (z_is_right_script : PySem.W.keepIn K (.ref f_is_right_script) = true)
    {f_block_of : Addr} {od_block_of an_block_of : Option Addr} {sl_block_of : Array (Option Value)} {oc_block_of kV_block_of dc_block_of pm_block_of cd_block_of ct_block_of : Value} (a_block_of : PySem.W.nsIn K mainGlobals "block_of" = some (some (.ref f_block_of))) (l_block_of : K.lookup f_block_of = some ⟨oc_block_of, od_block_of, .func (PySem.W.fnOf "block_of" "block_of" (defArgs (topS 21)) (defBody (topS 21)) (defScope (topS 21)) .none kV_block_of dc_block_of pm_block_of an_block_of cd_block_of ct_block_of), sl_block_of⟩) (y_block_of : PySem.W.codeIn K cd_block_of "block_of" = true) (z_block_of : PySem.W.keepIn K (.ref f_block_of) = true)
    {f_need_script : Addr} {od_need_script an_need_script : Option Addr} {sl_need_script : Array (Option Value)} {oc_need_script kV_need_script dc_need_script pm_need_script cd_need_script ct_need_script : Value} (a_need_script : PySem.W.nsIn K mainGlobals "need_script" = some (some (.ref f_need_script))) (l_need_script : K.lookup f_need_script = some ⟨oc_need_script, od_need_script, .func (PySem.W.fnOf "need_script" "need_script" (defArgs (topS 22)) (defBody (topS 22)) (defScope (topS 22)) .none kV_need_script dc_need_script pm_need_script an_need_script cd_need_script ct_need_script), sl_need_script⟩) (y_need_script : PySem.W.codeIn K cd_need_script "need_script" = true) (z_need_script : PySem.W.keepIn K (.ref f_need_script) = true)
    {f_need_height : Addr} {od_need_height an_need_height : Option Addr} {sl_need_height : Array (Option Value)} {oc_need_height kV_need_height dc_need_height pm_need_height cd_need_height ct_need_height : Value} (a_need_height : PySem.W.nsIn K mainGlobals "need_height" = some (some (.ref f_need_height))) (l_need_height : K.lookup f_need_height = some ⟨oc_need_height, od_need_height, .func (PySem.W.fnOf "need_height" "need_height" (defArgs (topS 23)) (defBody (topS 23)) (defScope (topS 23)) .none kV_need_height dc_need_height pm_need_height an_need_height cd_need_height ct_need_height), sl_need_height⟩) (y_need_height : PySem.W.codeIn K cd_need_height "need_height" = true) (z_need_height : PySem.W.keepIn K (.ref f_need_height) = true)
    {f_need_rounds : Addr} {od_need_rounds an_need_rounds : Option Addr} {sl_need_rounds : Array (Option Value)} {oc_need_rounds kV_need_rounds dc_need_rounds pm_need_rounds cd_need_rounds ct_need_rounds : Value} (a_need_rounds : PySem.W.nsIn K mainGlobals "need_rounds" = some (some (.ref f_need_rounds))) (l_need_rounds : K.lookup f_need_rounds = some ⟨oc_need_rounds, od_need_rounds, .func (PySem.W.fnOf "need_rounds" "need_rounds" (defArgs (topS 24)) (defBody (topS 24)) (defScope (topS 24)) .none kV_need_rounds dc_need_rounds pm_need_rounds an_need_rounds cd_need_rounds ct_need_rounds), sl_need_rounds⟩) (y_need_rounds : PySem.W.codeIn K cd_need_rounds "need_rounds" = true) (z_need_rounds : PySem.W.keepIn K (.ref f_need_rounds) = true)
    {f_need_place : Addr} {od_need_place an_need_place : Option Addr} {sl_need_place : Array (Option Value)} {oc_need_place kV_need_place dc_need_place pm_need_place cd_need_place ct_need_place : Value} (a_need_place : PySem.W.nsIn K mainGlobals "need_place" = some (some (.ref f_need_place))) (l_need_place : K.lookup f_need_place = some ⟨oc_need_place, od_need_place, .func (PySem.W.fnOf "need_place" "need_place" (defArgs (topS 25)) (defBody (topS 25)) (defScope (topS 25)) .none kV_need_place dc_need_place pm_need_place an_need_place cd_need_place ct_need_place), sl_need_place⟩) (y_need_place : PySem.W.codeIn K cd_need_place "need_place" = true) (z_need_place : PySem.W.keepIn K (.ref f_need_place) = true)
    {f_once : Addr} {od_once an_once : Option Addr} {sl_once : Array (Option Value)} {oc_once kV_once dc_once pm_once cd_once ct_once : Value} (a_once : PySem.W.nsIn K mainGlobals "once" = some (some (.ref f_once))) (l_once : K.lookup f_once = some ⟨oc_once, od_once, .func (PySem.W.fnOf "once" "once" (defArgs (topS 28)) (defBody (topS 28)) (defScope (topS 28)) .none kV_once dc_once pm_once an_once cd_once ct_once), sl_once⟩) (y_once : PySem.W.codeIn K cd_once "once" = true) (z_once : PySem.W.keepIn K (.ref f_once) = true)
    {f_reach_of : Addr} {od_reach_of an_reach_of : Option Addr} {sl_reach_of : Array (Option Value)} {oc_reach_of kV_reach_of dc_reach_of pm_reach_of cd_reach_of ct_reach_of : Value} (a_reach_of : PySem.W.nsIn K mainGlobals "reach_of" = some (some (.ref f_reach_of))) (l_reach_of : K.lookup f_reach_of = some ⟨oc_reach_of, od_reach_of, .func (PySem.W.fnOf "reach_of" "reach_of" (defArgs (topS 29)) (defBody (topS 29)) (defScope (topS 29)) .none kV_reach_of dc_reach_of pm_reach_of an_reach_of cd_reach_of ct_reach_of), sl_reach_of⟩) (y_reach_of : PySem.W.codeIn K cd_reach_of "reach_of" = true) (z_reach_of : PySem.W.keepIn K (.ref f_reach_of) = true)
    {f_middle_of : Addr} {od_middle_of an_middle_of : Option Addr} {sl_middle_of : Array (Option Value)} {oc_middle_of kV_middle_of dc_middle_of pm_middle_of cd_middle_of ct_middle_of : Value} (a_middle_of : PySem.W.nsIn K mainGlobals "middle_of" = some (some (.ref f_middle_of))) (l_middle_of : K.lookup f_middle_of = some ⟨oc_middle_of, od_middle_of, .func (PySem.W.fnOf "middle_of" "middle_of" (defArgs (topS 30)) (defBody (topS 30)) (defScope (topS 30)) .none kV_middle_of dc_middle_of pm_middle_of an_middle_of cd_middle_of ct_middle_of), sl_middle_of⟩) (y_middle_of : PySem.W.codeIn K cd_middle_of "middle_of" = true) (z_middle_of : PySem.W.keepIn K (.ref f_middle_of) = true)
    {f_is_amid : Addr} {od_is_amid an_is_amid : Option Addr} {sl_is_amid : Array (Option Value)} {oc_is_amid kV_is_amid dc_is_amid pm_is_amid cd_is_amid ct_is_amid : Value} (a_is_amid : PySem.W.nsIn K mainGlobals "is_amid" = some (some (.ref f_is_amid))) (l_is_amid : K.lookup f_is_amid = some ⟨oc_is_amid, od_is_amid, .func (PySem.W.fnOf "is_amid" "is_amid" (defArgs (topS 31)) (defBody (topS 31)) (defScope (topS 31)) .none kV_is_amid dc_is_amid pm_is_amid an_is_amid cd_is_amid ct_is_amid), sl_is_amid⟩) (y_is_amid : PySem.W.codeIn K cd_is_amid "is_amid" = true) (z_is_amid : PySem.W.keepIn K (.ref f_is_amid) = true)
    {f_ride : Addr} {od_ride an_ride : Option Addr} {sl_ride : Array (Option Value)} {oc_ride kV_ride dc_ride pm_ride cd_ride ct_ride : Value} (a_ride : PySem.W.nsIn K mainGlobals "ride" = some (some (.ref f_ride))) (l_ride : K.lookup f_ride = some ⟨oc_ride, od_ride, .func (PySem.W.fnOf "ride" "ride" (defArgs (topS 32)) (defBody (topS 32)) (defScope (topS 32)) .none kV_ride dc_ride pm_ride an_ride cd_ride ct_ride), sl_ride⟩) (y_ride : PySem.W.codeIn K cd_ride "ride" = true) (z_ride : PySem.W.keepIn K (.ref f_ride) = true)
    {f_rides : Addr} {od_rides an_rides : Option Addr} {sl_rides : Array (Option Value)} {oc_rides kV_rides dc_rides pm_rides cd_rides ct_rides : Value} (a_rides : PySem.W.nsIn K mainGlobals "rides" = some (some (.ref f_rides))) (l_rides : K.lookup f_rides = some ⟨oc_rides, od_rides, .func (PySem.W.fnOf "rides" "rides" (defArgs (topS 33)) (defBody (topS 33)) (defScope (topS 33)) .none kV_rides dc_rides pm_rides an_rides cd_rides ct_rides), sl_rides⟩) (y_rides : PySem.W.codeIn K cd_rides "rides" = true) (z_rides : PySem.W.keepIn K (.ref f_rides) = true)
    {f_short_cycle : Addr} {od_short_cycle an_short_cycle : Option Addr} {sl_short_cycle : Array (Option Value)} {oc_short_cycle kV_short_cycle dc_short_cycle pm_short_cycle cd_short_cycle ct_short_cycle : Value} (a_short_cycle : PySem.W.nsIn K mainGlobals "short_cycle" = some (some (.ref f_short_cycle))) (l_short_cycle : K.lookup f_short_cycle = some ⟨oc_short_cycle, od_short_cycle, .func (PySem.W.fnOf "short_cycle" "short_cycle" (defArgs (topS 34)) (defBody (topS 34)) (defScope (topS 34)) .none kV_short_cycle dc_short_cycle pm_short_cycle an_short_cycle cd_short_cycle ct_short_cycle), sl_short_cycle⟩) (y_short_cycle : PySem.W.codeIn K cd_short_cycle "short_cycle" = true) (z_short_cycle : PySem.W.keepIn K (.ref f_short_cycle) = true)
    {f_cycle_of : Addr} {od_cycle_of an_cycle_of : Option Addr} {sl_cycle_of : Array (Option Value)} {oc_cycle_of kV_cycle_of dc_cycle_of pm_cycle_of cd_cycle_of ct_cycle_of : Value} (a_cycle_of : PySem.W.nsIn K mainGlobals "cycle_of" = some (some (.ref f_cycle_of))) (l_cycle_of : K.lookup f_cycle_of = some ⟨oc_cycle_of, od_cycle_of, .func (PySem.W.fnOf "cycle_of" "cycle_of" (defArgs (topS 35)) (defBody (topS 35)) (defScope (topS 35)) .none kV_cycle_of dc_cycle_of pm_cycle_of an_cycle_of cd_cycle_of ct_cycle_of), sl_cycle_of⟩) (y_cycle_of : PySem.W.codeIn K cd_cycle_of "cycle_of" = true) (z_cycle_of : PySem.W.keepIn K (.ref f_cycle_of) = true)
    {f_after_rounds : Addr} {od_after_rounds an_after_rounds : Option Addr} {sl_after_rounds : Array (Option Value)} {oc_after_rounds kV_after_rounds dc_after_rounds pm_after_rounds cd_after_rounds ct_after_rounds : Value} (a_after_rounds : PySem.W.nsIn K mainGlobals "after_rounds" = some (some (.ref f_after_rounds))) (l_after_rounds : K.lookup f_after_rounds = some ⟨oc_after_rounds, od_after_rounds, .func (PySem.W.fnOf "after_rounds" "after_rounds" (defArgs (topS 36)) (defBody (topS 36)) (defScope (topS 36)) .none kV_after_rounds dc_after_rounds pm_after_rounds an_after_rounds cd_after_rounds ct_after_rounds), sl_after_rounds⟩) (y_after_rounds : PySem.W.codeIn K cd_after_rounds "after_rounds" = true) (z_after_rounds : PySem.W.keepIn K (.ref f_after_rounds) = true)
    {f_after : Addr} {od_after an_after : Option Addr} {sl_after : Array (Option Value)} {oc_after kV_after dc_after pm_after cd_after ct_after : Value} (a_after : PySem.W.nsIn K mainGlobals "after" = some (some (.ref f_after))) (l_after : K.lookup f_after = some ⟨oc_after, od_after, .func (PySem.W.fnOf "after" "after" (defArgs (topS 37)) (defBody (topS 37)) (defScope (topS 37)) .none kV_after dc_after pm_after an_after cd_after ct_after), sl_after⟩) (y_after : PySem.W.codeIn K cd_after "after" = true) (z_after : PySem.W.keepIn K (.ref f_after) = true)
    {f_order : Addr} {od_order an_order : Option Addr} {sl_order : Array (Option Value)} {oc_order kV_order dc_order pm_order cd_order ct_order : Value} (a_order : PySem.W.nsIn K mainGlobals "order" = some (some (.ref f_order))) (l_order : K.lookup f_order = some ⟨oc_order, od_order, .func (PySem.W.fnOf "order" "order" (defArgs (topS 38)) (defBody (topS 38)) (defScope (topS 38)) .none kV_order dc_order pm_order an_order cd_order ct_order), sl_order⟩) (y_order : PySem.W.codeIn K cd_order "order" = true) (z_order : PySem.W.keepIn K (.ref f_order) = true)
    {f__law_source : Addr} {od__law_source an__law_source : Option Addr} {sl__law_source : Array (Option Value)} {oc__law_source kV__law_source dc__law_source pm__law_source cd__law_source ct__law_source : Value} (a__law_source : PySem.W.nsIn K mainGlobals "_law_source" = some (some (.ref f__law_source))) (l__law_source : K.lookup f__law_source = some ⟨oc__law_source, od__law_source, .func (PySem.W.fnOf "_law_source" "_law_source" (defArgs (topS 40)) (defBody (topS 40)) (defScope (topS 40)) .none kV__law_source dc__law_source pm__law_source an__law_source cd__law_source ct__law_source), sl__law_source⟩) (y__law_source : PySem.W.codeIn K cd__law_source "_law_source" = true) (z__law_source : PySem.W.keepIn K (.ref f__law_source) = true)
    {f__law_pick : Addr} {od__law_pick an__law_pick : Option Addr} {sl__law_pick : Array (Option Value)} {oc__law_pick kV__law_pick dc__law_pick pm__law_pick cd__law_pick ct__law_pick : Value} (a__law_pick : PySem.W.nsIn K mainGlobals "_law_pick" = some (some (.ref f__law_pick))) (l__law_pick : K.lookup f__law_pick = some ⟨oc__law_pick, od__law_pick, .func (PySem.W.fnOf "_law_pick" "_law_pick" (defArgs (topS 41)) (defBody (topS 41)) (defScope (topS 41)) .none kV__law_pick dc__law_pick pm__law_pick an__law_pick cd__law_pick ct__law_pick), sl__law_pick⟩) (y__law_pick : PySem.W.codeIn K cd__law_pick "_law_pick" = true) (z__law_pick : PySem.W.keepIn K (.ref f__law_pick) = true)
    {f__law_chosen : Addr} {od__law_chosen an__law_chosen : Option Addr} {sl__law_chosen : Array (Option Value)} {oc__law_chosen kV__law_chosen dc__law_chosen pm__law_chosen cd__law_chosen ct__law_chosen : Value} (a__law_chosen : PySem.W.nsIn K mainGlobals "_law_chosen" = some (some (.ref f__law_chosen))) (l__law_chosen : K.lookup f__law_chosen = some ⟨oc__law_chosen, od__law_chosen, .func (PySem.W.fnOf "_law_chosen" "_law_chosen" (defArgs (topS 42)) (defBody (topS 42)) (defScope (topS 42)) .none kV__law_chosen dc__law_chosen pm__law_chosen an__law_chosen cd__law_chosen ct__law_chosen), sl__law_chosen⟩) (y__law_chosen : PySem.W.codeIn K cd__law_chosen "_law_chosen" = true) (z__law_chosen : PySem.W.keepIn K (.ref f__law_chosen) = true)
    {f__law_by_two : Addr} {od__law_by_two an__law_by_two : Option Addr} {sl__law_by_two : Array (Option Value)} {oc__law_by_two kV__law_by_two dc__law_by_two pm__law_by_two ct__law_by_two : Value} {c0__law_by_two : Addr} (a__law_by_two : PySem.W.nsIn K mainGlobals "_law_by_two" = some (some (.ref f__law_by_two))) (l__law_by_two : K.lookup f__law_by_two = some ⟨oc__law_by_two, od__law_by_two, .func (PySem.W.fnOf "_law_by_two" "_law_by_two" (defArgs (topS 43)) (defBody (topS 43)) (defScope (topS 43)) .none kV__law_by_two dc__law_by_two pm__law_by_two an__law_by_two (.ref c0__law_by_two) ct__law_by_two), sl__law_by_two⟩) (y__law_by_two : PySem.W.codeIn K (.ref c0__law_by_two) "_law_by_two" = true) (z__law_by_two : PySem.W.keepIn K (.ref f__law_by_two) = true)
    {f__law_by_four : Addr} {od__law_by_four an__law_by_four : Option Addr} {sl__law_by_four : Array (Option Value)} {oc__law_by_four kV__law_by_four dc__law_by_four pm__law_by_four ct__law_by_four : Value} {c0__law_by_four : Addr} (a__law_by_four : PySem.W.nsIn K mainGlobals "_law_by_four" = some (some (.ref f__law_by_four))) (l__law_by_four : K.lookup f__law_by_four = some ⟨oc__law_by_four, od__law_by_four, .func (PySem.W.fnOf "_law_by_four" "_law_by_four" (defArgs (topS 44)) (defBody (topS 44)) (defScope (topS 44)) .none kV__law_by_four dc__law_by_four pm__law_by_four an__law_by_four (.ref c0__law_by_four) ct__law_by_four), sl__law_by_four⟩) (y__law_by_four : PySem.W.codeIn K (.ref c0__law_by_four) "_law_by_four" = true) (z__law_by_four : PySem.W.keepIn K (.ref f__law_by_four) = true)
    {f__law_refused : Addr} {od__law_refused an__law_refused : Option Addr} {sl__law_refused : Array (Option Value)} {oc__law_refused kV__law_refused dc__law_refused pm__law_refused cd__law_refused ct__law_refused : Value} (a__law_refused : PySem.W.nsIn K mainGlobals "_law_refused" = some (some (.ref f__law_refused))) (l__law_refused : K.lookup f__law_refused = some ⟨oc__law_refused, od__law_refused, .func (PySem.W.fnOf "_law_refused" "_law_refused" (defArgs (topS 45)) (defBody (topS 45)) (defScope (topS 45)) .none kV__law_refused dc__law_refused pm__law_refused an__law_refused cd__law_refused ct__law_refused), sl__law_refused⟩) (y__law_refused : PySem.W.codeIn K cd__law_refused "_law_refused" = true) (z__law_refused : PySem.W.keepIn K (.ref f__law_refused) = true)
    {f__law_error : Addr} {od__law_error an__law_error : Option Addr} {sl__law_error : Array (Option Value)} {oc__law_error kV__law_error dc__law_error pm__law_error cd__law_error ct__law_error : Value} (a__law_error : PySem.W.nsIn K mainGlobals "_law_error" = some (some (.ref f__law_error))) (l__law_error : K.lookup f__law_error = some ⟨oc__law_error, od__law_error, .func (PySem.W.fnOf "_law_error" "_law_error" (defArgs (topS 46)) (defBody (topS 46)) (defScope (topS 46)) .none kV__law_error dc__law_error pm__law_error an__law_error cd__law_error ct__law_error), sl__law_error⟩) (y__law_error : PySem.W.codeIn K cd__law_error "_law_error" = true) (z__law_error : PySem.W.keepIn K (.ref f__law_error) = true)
    {f__law_flip : Addr} {od__law_flip an__law_flip : Option Addr} {sl__law_flip : Array (Option Value)} {oc__law_flip kV__law_flip dc__law_flip pm__law_flip cd__law_flip ct__law_flip : Value} (a__law_flip : PySem.W.nsIn K mainGlobals "_law_flip" = some (some (.ref f__law_flip))) (l__law_flip : K.lookup f__law_flip = some ⟨oc__law_flip, od__law_flip, .func (PySem.W.fnOf "_law_flip" "_law_flip" (defArgs (topS 47)) (defBody (topS 47)) (defScope (topS 47)) .none kV__law_flip dc__law_flip pm__law_flip an__law_flip cd__law_flip ct__law_flip), sl__law_flip⟩) (y__law_flip : PySem.W.codeIn K cd__law_flip "_law_flip" = true) (z__law_flip : PySem.W.keepIn K (.ref f__law_flip) = true)
    {f__law_script : Addr} {od__law_script an__law_script : Option Addr} {sl__law_script : Array (Option Value)} {oc__law_script kV__law_script dc__law_script pm__law_script cd__law_script ct__law_script : Value} (a__law_script : PySem.W.nsIn K mainGlobals "_law_script" = some (some (.ref f__law_script))) (l__law_script : K.lookup f__law_script = some ⟨oc__law_script, od__law_script, .func (PySem.W.fnOf "_law_script" "_law_script" (defArgs (topS 48)) (defBody (topS 48)) (defScope (topS 48)) .none kV__law_script dc__law_script pm__law_script an__law_script cd__law_script ct__law_script), sl__law_script⟩) (y__law_script : PySem.W.codeIn K cd__law_script "_law_script" = true) (z__law_script : PySem.W.keepIn K (.ref f__law_script) = true)
    {f__law_flipped : Addr} {od__law_flipped an__law_flipped : Option Addr} {sl__law_flipped : Array (Option Value)} {oc__law_flipped kV__law_flipped dc__law_flipped pm__law_flipped cd__law_flipped ct__law_flipped : Value} (a__law_flipped : PySem.W.nsIn K mainGlobals "_law_flipped" = some (some (.ref f__law_flipped))) (l__law_flipped : K.lookup f__law_flipped = some ⟨oc__law_flipped, od__law_flipped, .func (PySem.W.fnOf "_law_flipped" "_law_flipped" (defArgs (topS 49)) (defBody (topS 49)) (defScope (topS 49)) .none kV__law_flipped dc__law_flipped pm__law_flipped an__law_flipped cd__law_flipped ct__law_flipped), sl__law_flipped⟩) (y__law_flipped : PySem.W.codeIn K cd__law_flipped "_law_flipped" = true) (z__law_flipped : PySem.W.keepIn K (.ref f__law_flipped) = true)
    {f__law_lying : Addr} {od__law_lying an__law_lying : Option Addr} {sl__law_lying : Array (Option Value)} {oc__law_lying kV__law_lying dc__law_lying pm__law_lying cd__law_lying ct__law_lying : Value} (a__law_lying : PySem.W.nsIn K mainGlobals "_law_lying" = some (some (.ref f__law_lying))) (l__law_lying : K.lookup f__law_lying = some ⟨oc__law_lying, od__law_lying, .func (PySem.W.fnOf "_law_lying" "_law_lying" (defArgs (topS 50)) (defBody (topS 50)) (defScope (topS 50)) .none kV__law_lying dc__law_lying pm__law_lying an__law_lying cd__law_lying ct__law_lying), sl__law_lying⟩) (y__law_lying : PySem.W.codeIn K cd__law_lying "_law_lying" = true) (z__law_lying : PySem.W.keepIn K (.ref f__law_lying) = true)
    {f__law_goes : Addr} {od__law_goes an__law_goes : Option Addr} {sl__law_goes : Array (Option Value)} {oc__law_goes kV__law_goes dc__law_goes pm__law_goes cd__law_goes ct__law_goes : Value} (a__law_goes : PySem.W.nsIn K mainGlobals "_law_goes" = some (some (.ref f__law_goes))) (l__law_goes : K.lookup f__law_goes = some ⟨oc__law_goes, od__law_goes, .func (PySem.W.fnOf "_law_goes" "_law_goes" (defArgs (topS 51)) (defBody (topS 51)) (defScope (topS 51)) .none kV__law_goes dc__law_goes pm__law_goes an__law_goes cd__law_goes ct__law_goes), sl__law_goes⟩) (y__law_goes : PySem.W.codeIn K cd__law_goes "_law_goes" = true) (z__law_goes : PySem.W.keepIn K (.ref f__law_goes) = true)
    {f__law_step : Addr} {od__law_step an__law_step : Option Addr} {sl__law_step : Array (Option Value)} {oc__law_step kV__law_step dc__law_step pm__law_step cd__law_step ct__law_step : Value} (a__law_step : PySem.W.nsIn K mainGlobals "_law_step" = some (some (.ref f__law_step))) (l__law_step : K.lookup f__law_step = some ⟨oc__law_step, od__law_step, .func (PySem.W.fnOf "_law_step" "_law_step" (defArgs (topS 52)) (defBody (topS 52)) (defScope (topS 52)) .none kV__law_step dc__law_step pm__law_step an__law_step cd__law_step ct__law_step), sl__law_step⟩) (y__law_step : PySem.W.codeIn K cd__law_step "_law_step" = true) (z__law_step : PySem.W.keepIn K (.ref f__law_step) = true)
    {f__law_run : Addr} {od__law_run an__law_run : Option Addr} {sl__law_run : Array (Option Value)} {oc__law_run kV__law_run dc__law_run pm__law_run cd__law_run ct__law_run : Value} (a__law_run : PySem.W.nsIn K mainGlobals "_law_run" = some (some (.ref f__law_run))) (l__law_run : K.lookup f__law_run = some ⟨oc__law_run, od__law_run, .func (PySem.W.fnOf "_law_run" "_law_run" (defArgs (topS 53)) (defBody (topS 53)) (defScope (topS 53)) .none kV__law_run dc__law_run pm__law_run an__law_run cd__law_run ct__law_run), sl__law_run⟩) (y__law_run : PySem.W.codeIn K cd__law_run "_law_run" = true) (z__law_run : PySem.W.keepIn K (.ref f__law_run) = true)
    {f__law_low_right : Addr} {od__law_low_right an__law_low_right : Option Addr} {sl__law_low_right : Array (Option Value)} {oc__law_low_right kV__law_low_right dc__law_low_right pm__law_low_right cd__law_low_right ct__law_low_right : Value} (a__law_low_right : PySem.W.nsIn K mainGlobals "_law_low_right" = some (some (.ref f__law_low_right))) (l__law_low_right : K.lookup f__law_low_right = some ⟨oc__law_low_right, od__law_low_right, .func (PySem.W.fnOf "_law_low_right" "_law_low_right" (defArgs (topS 54)) (defBody (topS 54)) (defScope (topS 54)) .none kV__law_low_right dc__law_low_right pm__law_low_right an__law_low_right cd__law_low_right ct__law_low_right), sl__law_low_right⟩) (y__law_low_right : PySem.W.codeIn K cd__law_low_right "_law_low_right" = true) (z__law_low_right : PySem.W.keepIn K (.ref f__law_low_right) = true)
    {f__law_high_right : Addr} {od__law_high_right an__law_high_right : Option Addr} {sl__law_high_right : Array (Option Value)} {oc__law_high_right kV__law_high_right dc__law_high_right pm__law_high_right cd__law_high_right ct__law_high_right : Value} (a__law_high_right : PySem.W.nsIn K mainGlobals "_law_high_right" = some (some (.ref f__law_high_right))) (l__law_high_right : K.lookup f__law_high_right = some ⟨oc__law_high_right, od__law_high_right, .func (PySem.W.fnOf "_law_high_right" "_law_high_right" (defArgs (topS 55)) (defBody (topS 55)) (defScope (topS 55)) .none kV__law_high_right dc__law_high_right pm__law_high_right an__law_high_right cd__law_high_right ct__law_high_right), sl__law_high_right⟩) (y__law_high_right : PySem.W.codeIn K cd__law_high_right "_law_high_right" = true) (z__law_high_right : PySem.W.keepIn K (.ref f__law_high_right) = true)
    {f__law_refusals : Addr} {od__law_refusals an__law_refusals : Option Addr} {sl__law_refusals : Array (Option Value)} {oc__law_refusals kV__law_refusals dc__law_refusals pm__law_refusals cd__law_refusals ct__law_refusals : Value} (a__law_refusals : PySem.W.nsIn K mainGlobals "_law_refusals" = some (some (.ref f__law_refusals))) (l__law_refusals : K.lookup f__law_refusals = some ⟨oc__law_refusals, od__law_refusals, .func (PySem.W.fnOf "_law_refusals" "_law_refusals" (defArgs (topS 56)) (defBody (topS 56)) (defScope (topS 56)) .none kV__law_refusals dc__law_refusals pm__law_refusals an__law_refusals cd__law_refusals ct__law_refusals), sl__law_refusals⟩) (y__law_refusals : PySem.W.codeIn K cd__law_refusals "_law_refusals" = true) (z__law_refusals : PySem.W.keepIn K (.ref f__law_refusals) = true)
    {f__law_written : Addr} {od__law_written an__law_written : Option Addr} {sl__law_written : Array (Option Value)} {oc__law_written kV__law_written dc__law_written pm__law_written cd__law_written ct__law_written : Value} (a__law_written : PySem.W.nsIn K mainGlobals "_law_written" = some (some (.ref f__law_written))) (l__law_written : K.lookup f__law_written = some ⟨oc__law_written, od__law_written, .func (PySem.W.fnOf "_law_written" "_law_written" (defArgs (topS 57)) (defBody (topS 57)) (defScope (topS 57)) .none kV__law_written dc__law_written pm__law_written an__law_written cd__law_written ct__law_written), sl__law_written⟩) (y__law_written : PySem.W.codeIn K cd__law_written "_law_written" = true) (z__law_written : PySem.W.keepIn K (.ref f__law_written) = true)
    {f_law : Addr} {od_law an_law : Option Addr} {sl_law : Array (Option Value)} {oc_law kV_law dc_law pm_law cd_law ct_law : Value} (a_law : PySem.W.nsIn K mainGlobals "law" = some (some (.ref f_law))) (l_law : K.lookup f_law = some ⟨oc_law, od_law, .func (PySem.W.fnOf "law" "law" (defArgs (topS 58)) (defBody (topS 58)) (defScope (topS 58)) .none kV_law dc_law pm_law an_law cd_law ct_law), sl_law⟩) (y_law : PySem.W.codeIn K cd_law "law" = true) (z_law : PySem.W.keepIn K (.ref f_law) = true)
    {P__law_by_two : Addr} (hd__law_by_two : PySem.W.codeHdIn K c0__law_by_two P__law_by_two = true) (n__law_by_two : K.lookup P__law_by_two = none) (g__law_by_two : h.get? P__law_by_two = some { cls := .none, data := .fields #[] })
    {P__law_by_four : Addr} (hd__law_by_four : PySem.W.codeHdIn K c0__law_by_four P__law_by_four = true) (n__law_by_four : K.lookup P__law_by_four = none) (g__law_by_four : h.get? P__law_by_four = some { cls := .none, data := .fields #[] })
    (hne01 : P__law_by_two ≠ P__law_by_four)
    (b1 : (blts.all fun x => isNoneIn K x) = true) (b2 : ((["InvalidHeight", "InvalidNumber", "InvalidPlace", "InvalidScript"] : List Str).all fun x => isRefIn K x && excTB K (refIn K x)) = true)
    (i_FEW : isIntIn K "FEW" (60) = true)
    (i_LEAST : isIntIn K "LEAST" (12) = true)
    (i_MOST_FLIPS : isIntIn K "MOST_FLIPS" (8) = true)
    (i_HIGH : ∃ t, mg "HIGH" = some (.int (10 ^ 30) t))
    (b4 : (words.all fun x => isRefIn K x.1 && excCB K (refIn K x.1) (refIn K "FlipError")) = true) (b6 : (words.all fun x => words.all fun y => PySem.W.kitOne K (.ref (refIn K x.1)) (.ref (refIn K y.1)) == some (decide (x.1 = y.1))) = true) (b7 : ((["FlipError", "after", "order"] : List Str).all fun x => isRefIn K x) = true) :
    LamX.LawAtS PySem.Challenge.rw_griddleflips_k11_whole_rounds_of_all_sta w K (L2N.CX PySem.Challenge.pw_griddleflips_k11_whole_rounds_of_all_sta w) 11 63 "_law_script_here" mg fa h := by
  have t_is_int : Top K mg "is_int" (topS 17) ["value", "low", "high"] := top_mk KX G a_is_int l_is_int y_is_int z_is_int (fun _ _ _ _ _ _ us hl => match us, hl with | [_, _, _], _ => rfl)
  have t_is_right_flip : Top K mg "is_right_flip" (topS 18) ["value"] := top_mk KX G a_is_right_flip l_is_right_flip y_is_right_flip z_is_right_flip (fun _ _ _ _ _ _ us hl => match us, hl with | [_], _ => rfl)
  have t_are_flips : Top K mg "are_flips" (topS 19) ["value", "most"] := top_mk KX G a_are_flips l_are_flips y_are_flips z_are_flips (fun _ _ _ _ _ _ us hl => match us, hl with | [_, _], _ => rfl)
  have t_is_right_script : Top K mg "is_right_script" (topS 20) ["value"] := top_mk KX G a_is_right_script l_is_right_script y_is_right_script z_is_right_script (fun _ _ _ _ _ _ us hl => match us, hl with | [_], _ => rfl)
  have t_block_of : Top K mg "block_of" (topS 21) ["flip", "n"] := top_mk KX G a_block_of l_block_of y_block_of z_block_of (fun _ _ _ _ _ _ us hl => match us, hl with | [_, _], _ => rfl)
  have t_need_script : Top K mg "need_script" (topS 22) ["value"] := top_mk KX G a_need_script l_need_script y_need_script z_need_script (fun _ _ _ _ _ _ us hl => match us, hl with | [_], _ => rfl)
  have t_need_height : Top K mg "need_height" (topS 23) ["value", "most"] := top_mk KX G a_need_height l_need_height y_need_height z_need_height (fun _ _ _ _ _ _ us hl => match us, hl with | [_, _], _ => rfl)
  have t_need_rounds : Top K mg "need_rounds" (topS 24) ["value"] := top_mk KX G a_need_rounds l_need_rounds y_need_rounds z_need_rounds (fun _ _ _ _ _ _ us hl => match us, hl with | [_], _ => rfl)
  have t_need_place : Top K mg "need_place" (topS 25) ["n", "value"] := top_mk KX G a_need_place l_need_place y_need_place z_need_place (fun _ _ _ _ _ _ us hl => match us, hl with | [_, _], _ => rfl)
  have t_once : Top K mg "once" (topS 28) ["script", "n", "place"] := top_mk KX G a_once l_once y_once z_once (fun _ _ _ _ _ _ us hl => match us, hl with | [_, _, _], _ => rfl)
  have t_reach_of : Top K mg "reach_of" (topS 29) ["script"] := top_mk KX G a_reach_of l_reach_of y_reach_of z_reach_of (fun _ _ _ _ _ _ us hl => match us, hl with | [_], _ => rfl)
  have t_middle_of : Top K mg "middle_of" (topS 30) ["script"] := top_mk KX G a_middle_of l_middle_of y_middle_of z_middle_of (fun _ _ _ _ _ _ us hl => match us, hl with | [_], _ => rfl)
  have t_is_amid : Top K mg "is_amid" (topS 31) ["script", "n", "place"] := top_mk KX G a_is_amid l_is_amid y_is_amid z_is_amid (fun _ _ _ _ _ _ us hl => match us, hl with | [_, _, _], _ => rfl)
  have t_ride : Top K mg "ride" (topS 32) ["script", "n", "place", "most"] := top_mk KX G a_ride l_ride y_ride z_ride (fun _ _ _ _ _ _ us hl => match us, hl with | [_, _, _, _], _ => rfl)
  have t_rides : Top K mg "rides" (topS 33) ["script", "n", "place", "rounds"] := top_mk KX G a_rides l_rides y_rides z_rides (fun _ _ _ _ _ _ us hl => match us, hl with | [_, _, _, _], _ => rfl)
  have t_short_cycle : Top K mg "short_cycle" (topS 34) ["script", "n", "place"] := top_mk KX G a_short_cycle l_short_cycle y_short_cycle z_short_cycle (fun _ _ _ _ _ _ us hl => match us, hl with | [_, _, _], _ => rfl)
  have t_cycle_of : Top K mg "cycle_of" (topS 35) ["script", "n", "place"] := top_mk KX G a_cycle_of l_cycle_of y_cycle_of z_cycle_of (fun _ _ _ _ _ _ us hl => match us, hl with | [_, _, _], _ => rfl)
  have t_after_rounds : Top K mg "after_rounds" (topS 36) ["script", "n", "place", "rounds"] := top_mk KX G a_after_rounds l_after_rounds y_after_rounds z_after_rounds (fun _ _ _ _ _ _ us hl => match us, hl with | [_, _, _, _], _ => rfl)
  have t_after : Top K mg "after" (topS 37) ["script", "n", "place", "rounds"] := top_mk KX G a_after l_after y_after z_after (fun _ _ _ _ _ _ us hl => match us, hl with | [_, _, _, _], _ => rfl)
  have t_order : Top K mg "order" (topS 38) ["script", "n"] := top_mk KX G a_order l_order y_order z_order (fun _ _ _ _ _ _ us hl => match us, hl with | [_, _], _ => rfl)
  have t__law_source : Top K mg "_law_source" (topS 40) ["_law_script_here", "_law_k"] := top_mk KX G a__law_source l__law_source y__law_source z__law_source (fun _ _ _ _ _ _ us hl => match us, hl with | [_, _], _ => rfl)
  have t__law_pick : Top K mg "_law_pick" (topS 41) ["_law_source_here", "_law_many"] := top_mk KX G a__law_pick l__law_pick y__law_pick z__law_pick (fun _ _ _ _ _ _ us hl => match us, hl with | [_, _], _ => rfl)
  have t__law_chosen : Top K mg "_law_chosen" (topS 42) ["_law_source_here", "_law_things"] := top_mk KX G a__law_chosen l__law_chosen y__law_chosen z__law_chosen (fun _ _ _ _ _ _ us hl => match us, hl with | [_, _], _ => rfl)
  have t__law_by_two : TopL K mg "_law_by_two" (topS 43) ["_law_call", "_law_one", "_law_other"] c0__law_by_two := top_mkL KX G a__law_by_two l__law_by_two y__law_by_two z__law_by_two (fun _ _ _ _ _ _ us hl => match us, hl with | [_, _, _], _ => rfl)
  have t__law_by_four : TopL K mg "_law_by_four" (topS 44) ["_law_call", "_law_one", "_law_other", "_law_third", "_law_last"] c0__law_by_four := top_mkL KX G a__law_by_four l__law_by_four y__law_by_four z__law_by_four (fun _ _ _ _ _ _ us hl => match us, hl with | [_, _, _, _, _], _ => rfl)
  have t__law_refused : Top K mg "_law_refused" (topS 45) ["_law_call"] := top_mk KX G a__law_refused l__law_refused y__law_refused z__law_refused (fun _ _ _ _ _ _ us hl => match us, hl with | [_], _ => rfl)
  have t__law_error : Top K mg "_law_error" (topS 46) ["_law_e"] := top_mk KX G a__law_error l__law_error y__law_error z__law_error (fun _ _ _ _ _ _ us hl => match us, hl with | [_], _ => rfl)
  have t__law_flip : Top K mg "_law_flip" (topS 47) ["_law_source_here"] := top_mk KX G a__law_flip l__law_flip y__law_flip z__law_flip (fun _ _ _ _ _ _ us hl => match us, hl with | [_], _ => rfl)
  have t__law_script : Top K mg "_law_script" (topS 48) ["_law_source_here", "_law_most_so"] := top_mk KX G a__law_script l__law_script y__law_script z__law_script (fun _ _ _ _ _ _ us hl => match us, hl with | [_, _], _ => rfl)
  have t__law_flipped : Top K mg "_law_flipped" (topS 49) ["_law_lying_here", "_law_flip_here"] := top_mk KX G a__law_flipped l__law_flipped y__law_flipped z__law_flipped (fun _ _ _ _ _ _ us hl => match us, hl with | [_, _], _ => rfl)
  have t__law_lying : Top K mg "_law_lying" (topS 50) ["_law_script_so", "_law_n"] := top_mk KX G a__law_lying l__law_lying y__law_lying z__law_lying (fun _ _ _ _ _ _ us hl => match us, hl with | [_, _], _ => rfl)
  have t__law_goes : Top K mg "_law_goes" (topS 51) ["_law_script_so", "_law_n"] := top_mk KX G a__law_goes l__law_goes y__law_goes z__law_goes (fun _ _ _ _ _ _ us hl => match us, hl with | [_, _], _ => rfl)
  have t__law_step : Top K mg "_law_step" (topS 52) ["_law_script_so", "_law_n", "_law_place_so"] := top_mk KX G a__law_step l__law_step y__law_step z__law_step (fun _ _ _ _ _ _ us hl => match us, hl with | [_, _, _], _ => rfl)
  have t__law_run : Top K mg "_law_run" (topS 53) ["_law_script_so", "_law_n", "_law_place_so", "_law_rounds"] := top_mk KX G a__law_run l__law_run y__law_run z__law_run (fun _ _ _ _ _ _ us hl => match us, hl with | [_, _, _, _], _ => rfl)
  have t__law_low_right : Top K mg "_law_low_right" (topS 54) ["_law_source_here", "_law_script_so", "_law_n"] := top_mk KX G a__law_low_right l__law_low_right y__law_low_right z__law_low_right (fun _ _ _ _ _ _ us hl => match us, hl with | [_, _, _], _ => rfl)
  have t__law_high_right : Top K mg "_law_high_right" (topS 55) ["_law_source_here", "_law_script_so", "_law_n"] := top_mk KX G a__law_high_right l__law_high_right y__law_high_right z__law_high_right (fun _ _ _ _ _ _ us hl => match us, hl with | [_, _, _], _ => rfl)
  have t__law_refusals : Top K mg "_law_refusals" (topS 56) ["_law_script_so", "_law_n"] := top_mk KX G a__law_refusals l__law_refusals y__law_refusals z__law_refusals (fun _ _ _ _ _ _ us hl => match us, hl with | [_, _], _ => rfl)
  have t__law_written : Top K mg "_law_written" (topS 57) [] := top_mk KX G a__law_written l__law_written y__law_written z__law_written (fun _ _ _ _ _ _ us hl => match us, hl with | [], _ => rfl)
  have e := hmg.symm.trans (PySem.W.mg_of KX G a_law)
  cases e
  have Fl := fun_mk (st := topS 58) l_law y_law z_law
  have nb := blt_ok KX G b1
  have xa := fun x (hx : x ∈ (["InvalidHeight", "InvalidNumber", "InvalidPlace", "InvalidScript"] : List Str)) => (Bool.and_eq_true _ _ ▸ List.all_eq_true.mp b2 x hx : isRefIn K x = true ∧ excTB K (refIn K x) = true)
  have wa := fun x (hx : x ∈ words) => (Bool.and_eq_true _ _ ▸ List.all_eq_true.mp b4 x hx : isRefIn K x.1 = true ∧ excCB K (refIn K x.1) (refIn K "FlipError") = true)
  have ra := fun x (hx : x ∈ (["FlipError", "after", "order"] : List Str)) => PySem.W.mg_of KX G (refIn_ok (List.all_eq_true.mp b7 x hx))
  let a : Ads := ⟨refIn K, refIn K⟩
  have hAp : Apart a fun D c => PySem.W.kitOne K (.ref D) (.ref c) := fun x hx y hy => beq_iff_eq.mp (List.all_eq_true.mp (List.all_eq_true.mp b6 x hx) y hy)
  refine ⟨PySem.W.fnOf "law" "law" (defArgs (topS 58)) (defBody (topS 58)) (defScope (topS 58)) .none kV_law dc_law pm_law an_law cd_law ct_law, [(c0__law_by_two, P__law_by_two), (c0__law_by_four, P__law_by_four)], spD K [(P__law_by_two, Str.ofString "_law_by_two.<locals>.<lambda>"), (P__law_by_four, Str.ofString "_law_by_four.<locals>.<lambda>")] (sp_law a), (List.forall_mem_cons.mpr ⟨g__law_by_two, (List.forall_mem_cons.mpr ⟨g__law_by_four, (fun _ hp => nomatch hp)⟩)⟩), (List.forall_mem_cons.mpr ⟨n__law_by_two, (List.forall_mem_cons.mpr ⟨n__law_by_four, (fun _ hp => nomatch hp)⟩)⟩), (List.forall_mem_cons.mpr ⟨PySem.W.codeHd_of_K KX hd__law_by_two, (List.forall_mem_cons.mpr ⟨PySem.W.codeHd_of_K KX hd__law_by_four, (fun _ hp => nomatch hp)⟩)⟩), fun s u => .of_eq rfl, fun H b ns hlen hbits hT hS => ?_, fun base KB GB TB => ?_⟩
  · refine sp_start (fun p hp => ?_) hS fun μ => ⟨ns, rfl, hlen, fun _ => rfl⟩
    simp only [List.mem_cons, List.not_mem_nil, or_false] at hp
    rcases hp with rfl | rfl
    · exact hT (c0__law_by_two, P__law_by_two) (by simp)
    · exact hT (c0__law_by_four, P__law_by_four) (by simp)
  · exact chain a (refIn K "FlipError") nb (excT_ok KX G (xa "InvalidHeight" (by decide)).1 (xa "InvalidHeight" (by decide)).2) (excT_ok KX G (xa "InvalidNumber" (by decide)).1 (xa "InvalidNumber" (by decide)).2) (excT_ok KX G (xa "InvalidPlace" (by decide)).1 (xa "InvalidPlace" (by decide)).2) (excT_ok KX G (xa "InvalidScript" (by decide)).1 (xa "InvalidScript" (by decide)).2) (intIn_ok KX G i_FEW) i_HIGH (intIn_ok KX G i_LEAST) (intIn_ok KX G i_MOST_FLIPS) (PySem.W.mg_of KX G (refIn_ok (wa ("InvalidFlip", "flip") (by decide)).1)) (PySem.W.mg_of KX G (refIn_ok (wa ("InvalidHeight", "height") (by decide)).1)) (PySem.W.mg_of KX G (refIn_ok (wa ("InvalidIndex", "index") (by decide)).1)) (PySem.W.mg_of KX G (refIn_ok (wa ("InvalidNumber", "number") (by decide)).1)) (PySem.W.mg_of KX G (refIn_ok (wa ("InvalidPlace", "place") (by decide)).1)) (PySem.W.mg_of KX G (refIn_ok (wa ("InvalidScript", "script") (by decide)).1)) (PySem.W.mg_of KX G (refIn_ok (wa ("InvalidStack", "stack") (by decide)).1)) (PySem.W.mg_of KX G (refIn_ok (wa ("InvalidText", "text") (by decide)).1)) (PySem.W.mg_of KX G (refIn_ok (wa ("NothingToUndo", "undo") (by decide)).1)) (PySem.W.mg_of KX G (refIn_ok (wa ("TooMany", "many") (by decide)).1)) (PySem.W.mg_of KX G (refIn_ok (wa ("Unlike", "unlike") (by decide)).1)) (ra "after" (by decide)) (ra "order" (by decide)) t_is_int t_is_right_flip t_are_flips t_is_right_script t_block_of t_need_script t_need_height t_need_rounds t_need_place t_once t_reach_of t_middle_of t_is_amid t_ride t_rides t_short_cycle t_cycle_of t_after_rounds t_after t_order t__law_source t__law_pick t__law_chosen t__law_by_two (TB (c0__law_by_two, P__law_by_two) (by simp)) t__law_by_four (TB (c0__law_by_four, P__law_by_four) (by simp)) t__law_refused t__law_error t__law_flip t__law_script t__law_flipped t__law_lying t__law_goes t__law_step t__law_run t__law_low_right t__law_high_right t__law_refusals t__law_written Fl hAp (fun x hx => excC_ok (wa x hx).2) (ra "FlipError" (by decide)) hne01
end G11

set_option Elab.async false
set_option linter.all false
open PySem PySem.W PyProof.Rows
set_option maxRecDepth 100000
set_option maxHeartbeats 0
theorem PySem.Challenge.cw_griddleflips_k11_whole_rounds_of_all_sta_holds : PySem.Challenge.rw_griddleflips_k11_whole_rounds_of_all_sta.Holds := by
  w_on; o_law; k_head; (case hw => w_witness2)
  k_fill
  refine DL.walk_ofX (l := PySem.Challenge.rw_griddleflips_k11_whole_rounds_of_all_sta) (n := 63) (k := 11) (CX := fun w => L2N.CX PySem.Challenge.pw_griddleflips_k11_whole_rounds_of_all_sta w) (x := "_law_script_here") rfl (by rw [sizeLine_eq]; decide) rfl ⟨rfl, by decide, by decide⟩ (fun w h Y => PySem.W.km_in_of Y) ?F ?Z
  case Z =>
    intro w H s e s' z
    obtain ⟨_, _, _, _, _, _, _, _, _, _, _, _, z⟩ := z
    exact z
  case F =>
    intro w mg fa h XP Y KX G hmg
    have tabs := PySem.W.km_tabs_of Y
    refine' G11.fin KX G hmg ?a_is_int ?l_is_int ?y_is_int ?z_is_int ?a_is_right_flip ?l_is_right_flip ?y_is_right_flip ?z_is_right_flip ?a_are_flips ?l_are_flips ?y_are_flips ?z_are_flips ?a_is_right_script ?l_is_right_script ?y_is_right_script ?z_is_right_script ?a_block_of ?l_block_of ?y_block_of ?z_block_of ?a_need_script ?l_need_script ?y_need_script ?z_need_script ?a_need_height ?l_need_height ?y_need_height ?z_need_height ?a_need_rounds ?l_need_rounds ?y_need_rounds ?z_need_rounds ?a_need_place ?l_need_place ?y_need_place ?z_need_place ?a_once ?l_once ?y_once ?z_once ?a_reach_of ?l_reach_of ?y_reach_of ?z_reach_of ?a_middle_of ?l_middle_of ?y_middle_of ?z_middle_of ?a_is_amid ?l_is_amid ?y_is_amid ?z_is_amid ?a_ride ?l_ride ?y_ride ?z_ride ?a_rides ?l_rides ?y_rides ?z_rides ?a_short_cycle ?l_short_cycle ?y_short_cycle ?z_short_cycle ?a_cycle_of ?l_cycle_of ?y_cycle_of ?z_cycle_of ?a_after_rounds ?l_after_rounds ?y_after_rounds ?z_after_rounds ?a_after ?l_after ?y_after ?z_after ?a_order ?l_order ?y_order ?z_order ?a__law_source ?l__law_source ?y__law_source ?z__law_source ?a__law_pick ?l__law_pick ?y__law_pick ?z__law_pick ?a__law_chosen ?l__law_chosen ?y__law_chosen ?z__law_chosen ?a__law_by_two ?l__law_by_two ?y__law_by_two ?z__law_by_two ?a__law_by_four ?l__law_by_four ?y__law_by_four ?z__law_by_four ?a__law_refused ?l__law_refused ?y__law_refused ?z__law_refused ?a__law_error ?l__law_error ?y__law_error ?z__law_error ?a__law_flip ?l__law_flip ?y__law_flip ?z__law_flip ?a__law_script ?l__law_script ?y__law_script ?z__law_script ?a__law_flipped ?l__law_flipped ?y__law_flipped ?z__law_flipped ?a__law_lying ?l__law_lying ?y__law_lying ?z__law_lying ?a__law_goes ?l__law_goes ?y__law_goes ?z__law_goes ?a__law_step ?l__law_step ?y__law_step ?z__law_step ?a__law_run ?l__law_run ?y__law_run ?z__law_run ?a__law_low_right ?l__law_low_right ?y__law_low_right ?z__law_low_right ?a__law_high_right ?l__law_high_right ?y__law_high_right ?z__law_high_right ?a__law_refusals ?l__law_refusals ?y__law_refusals ?z__law_refusals ?a__law_written ?l__law_written ?y__law_written ?z__law_written ?a_law ?l_law ?y_law ?z_law ?hd__law_by_two ?n__law_by_two (tabs 336 (by simp)) ?hd__law_by_four ?n__law_by_four (tabs 343 (by simp)) (by decide) ?b1 ?b2 ?i_FEW ?i_LEAST ?i_MOST_FLIPS (DL.loose_int XP (by simp)) ?b4 ?b6 ?b7
    (case a_is_int => k_is)
    (case l_is_int => k_is)
    (case y_is_int => k_is)
    (case z_is_int => k_is)
    (case a_is_right_flip => k_is)
    (case l_is_right_flip => k_is)
    (case y_is_right_flip => k_is)
    (case z_is_right_flip => k_is)
    (case a_are_flips => k_is)
    (case l_are_flips => k_is)
    (case y_are_flips => k_is)
    (case z_are_flips => k_is)
    (case a_is_right_script => k_is)
    (case l_is_right_script => k_is)
    (case y_is_right_script => k_is)
    (case z_is_right_script => k_is)
    (case a_block_of => k_is)
    (case l_block_of => k_is)
    (case y_block_of => k_is)
    (case z_block_of => k_is)
    (case a_need_script => k_is)
    (case l_need_script => k_is)
    (case y_need_script => k_is)
    (case z_need_script => k_is)
    (case a_need_height => k_is)
    (case l_need_height => k_is)
    (case y_need_height => k_is)
    (case z_need_height => k_is)
    (case a_need_rounds => k_is)
    (case l_need_rounds => k_is)
    (case y_need_rounds => k_is)
    (case z_need_rounds => k_is)
    (case a_need_place => k_is)
    (case l_need_place => k_is)
    (case y_need_place => k_is)
    (case z_need_place => k_is)
    (case a_once => k_is)
    (case l_once => k_is)
    (case y_once => k_is)
    (case z_once => k_is)
    (case a_reach_of => k_is)
    (case l_reach_of => k_is)
    (case y_reach_of => k_is)
    (case z_reach_of => k_is)
    (case a_middle_of => k_is)
    (case l_middle_of => k_is)
    (case y_middle_of => k_is)
    (case z_middle_of => k_is)
    (case a_is_amid => k_is)
    (case l_is_amid => k_is)
    (case y_is_amid => k_is)
    (case z_is_amid => k_is)
    (case a_ride => k_is)
    (case l_ride => k_is)
    (case y_ride => k_is)
    (case z_ride => k_is)
    (case a_rides => k_is)
    (case l_rides => k_is)
    (case y_rides => k_is)
    (case z_rides => k_is)
    (case a_short_cycle => k_is)
    (case l_short_cycle => k_is)
    (case y_short_cycle => k_is)
    (case z_short_cycle => k_is)
    (case a_cycle_of => k_is)
    (case l_cycle_of => k_is)
    (case y_cycle_of => k_is)
    (case z_cycle_of => k_is)
    (case a_after_rounds => k_is)
    (case l_after_rounds => k_is)
    (case y_after_rounds => k_is)
    (case z_after_rounds => k_is)
    (case a_after => k_is)
    (case l_after => k_is)
    (case y_after => k_is)
    (case z_after => k_is)
    (case a_order => k_is)
    (case l_order => k_is)
    (case y_order => k_is)
    (case z_order => k_is)
    (case a__law_source => k_is)
    (case l__law_source => k_is)
    (case y__law_source => k_is)
    (case z__law_source => k_is)
    (case a__law_pick => k_is)
    (case l__law_pick => k_is)
    (case y__law_pick => k_is)
    (case z__law_pick => k_is)
    (case a__law_chosen => k_is)
    (case l__law_chosen => k_is)
    (case y__law_chosen => k_is)
    (case z__law_chosen => k_is)
    (case a__law_by_two => k_is)
    (case l__law_by_two => k_is)
    (case y__law_by_two => k_is)
    (case z__law_by_two => k_is)
    (case a__law_by_four => k_is)
    (case l__law_by_four => k_is)
    (case y__law_by_four => k_is)
    (case z__law_by_four => k_is)
    (case a__law_refused => k_is)
    (case l__law_refused => k_is)
    (case y__law_refused => k_is)
    (case z__law_refused => k_is)
    (case a__law_error => k_is)
    (case l__law_error => k_is)
    (case y__law_error => k_is)
    (case z__law_error => k_is)
    (case a__law_flip => k_is)
    (case l__law_flip => k_is)
    (case y__law_flip => k_is)
    (case z__law_flip => k_is)
    (case a__law_script => k_is)
    (case l__law_script => k_is)
    (case y__law_script => k_is)
    (case z__law_script => k_is)
    (case a__law_flipped => k_is)
    (case l__law_flipped => k_is)
    (case y__law_flipped => k_is)
    (case z__law_flipped => k_is)
    (case a__law_lying => k_is)
    (case l__law_lying => k_is)
    (case y__law_lying => k_is)
    (case z__law_lying => k_is)
    (case a__law_goes => k_is)
    (case l__law_goes => k_is)
    (case y__law_goes => k_is)
    (case z__law_goes => k_is)
    (case a__law_step => k_is)
    (case l__law_step => k_is)
    (case y__law_step => k_is)
    (case z__law_step => k_is)
    (case a__law_run => k_is)
    (case l__law_run => k_is)
    (case y__law_run => k_is)
    (case z__law_run => k_is)
    (case a__law_low_right => k_is)
    (case l__law_low_right => k_is)
    (case y__law_low_right => k_is)
    (case z__law_low_right => k_is)
    (case a__law_high_right => k_is)
    (case l__law_high_right => k_is)
    (case y__law_high_right => k_is)
    (case z__law_high_right => k_is)
    (case a__law_refusals => k_is)
    (case l__law_refusals => k_is)
    (case y__law_refusals => k_is)
    (case z__law_refusals => k_is)
    (case a__law_written => k_is)
    (case l__law_written => k_is)
    (case y__law_written => k_is)
    (case z__law_written => k_is)
    (case a_law => k_is)
    (case l_law => k_is)
    (case y_law => k_is)
    (case z_law => k_is)
    (case hd__law_by_two => kernel_rfl); (case n__law_by_two => kernel_rfl)
    (case hd__law_by_four => kernel_rfl); (case n__law_by_four => kernel_rfl)
    (case b1 => kernel_rfl)
    (case b2 => kernel_rfl)
    (case i_FEW => kernel_rfl)
    (case i_LEAST => kernel_rfl)
    (case i_MOST_FLIPS => kernel_rfl)
    (case b4 => kernel_rfl)
    (case b6 => kernel_rfl)
    (case b7 => kernel_rfl)
