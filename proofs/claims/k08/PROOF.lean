import PyProof.Rows.All
import Wide.All
import OpenK.AllK
import Wide.FinOn
import HandS.ForMost
import HandS.Exc
import HandS.WordsExc
import HandS.Defaults
import HandS.IsInst
import HandS.FStr
import HandS.Walk
import HandS.Style
import HandS.Property
import HandS.Zip
import HandS.StrMore
import HandS.More
import HandS.TupAny
import HandS.MakeKwOnly
import HandS.MakeKw
import HandS.Codes
import HandS.OwnEq
import HandS.HeadHook2
import HandS.TupSets
import HandS.Wide
import HandS.Star
import HandS.SlotsOwn
import PyProof.InstNe
import PyProof.Conv_bool
import KE.GoesEnum
import HandS.ClsMeth
import HandS.Small
import HandS.SetFor
import HandS.Strs
import KE.GoesSet
import KE.GoesOver
import PySem.Challenge.RW_lumplooks_k08_whole_numbers_cut_by_lette
import KE.KStateDown
import HandS.Words
import HandS.Head0
import HandS.Head1
import HandS.Head2
import HandS.HeadEnd
import HandS.HeadHook1
import Lean
set_option Elab.async false
set_option linter.all false
set_option maxRecDepth 100000
namespace LP
open PySem PySem.Spec PyProof.Rows L2

/-! data -/
inductive D where
  | non | bl (b : Bool) | int (i : Int) | str (s : Str)
  | tup (l : List D) | lst (l : List D) | ins (c : Nat) (fs : List D) | dic (ks : List Key) (l : List D)
/-- a slot's value -/
inductive A where
  | d (x : D) | loc (k : Nat)
/-- a thing that may change -/
inductive MO where
  | lst (l : List A) | ins (c : Nat) (fs : List A) | dK (ks : List Key) (l : List A) | frz (x : D) | scr (l : List D) | gone
def MO.live : MO → Bool
  | .lst _ => true | .ins _ _ => true | .dK _ _ => true | _ => false
/-- an error that was raised: its class, its own attributes -/
structure Er where
  c : Nat
  fs : List (Str × D)

abbrev Ga := List (Option A)
abbrev So := List MO
/-- classes: where each stands, the names of its attributes in their order -/
abbrev Ci := Nat → Addr × List Str

def Lw (K : PySem.W.Frag) (a : Addr) (xs : List V) : Prop :=
    ∃ (o : Obj) (its : Array Value) (n : Nat), K.lookup a = some o ∧ o.cls = .type "list" ∧ o.dict = none ∧ o.data = .seq its n ∧ its.size ≤ sizeLine ∧ Vals xs its.toList
theorem sql_iff {K : PySem.W.Frag} {H : Hp} {a : Addr} {xs : List V} : SqL K H a xs ↔ (Rd H a (.lst xs) ∨ Lw K a xs) := Iff.rfl
def Tw (K : PySem.W.Frag) (a : Addr) (xs : List V) : Prop :=
    ∃ (o : Obj) (its : Array Value) (n : Nat), K.lookup a = some o ∧ o.cls = .type "tuple" ∧ o.data = .seq its n ∧ its.size ≤ sizeLine ∧ Vals xs its.toList
theorem sqt_iff {K : PySem.W.Frag} {H : Hp} {a : Addr} {xs : List V} : SqT K H a xs ↔ (Rd H a (.tup xs) ∨ Tw K a xs) := Iff.rfl

section
variable (K : PySem.W.Frag) (ci : Ci)
mutual
def Rep (M : List Addr) (H : Hp) : D → V → Prop
  | .non, v => v = .non
  | .bl b, v => v = .bl b
  | .int i, v => v = .int i
  | .str s, v => v = .str s
  | .tup l, v => ∃ p vs, v = .ref p ∧ ((Rd H p (.tup vs) ∧ p ∉ M) ∨ Tw K p vs) ∧ Reps M H l vs
  | .lst l, v => ∃ p vs, v = .ref p ∧ (H p = some (.lst vs) ∧ p ∉ M) ∧ Reps M H l vs
  | .ins c fs, v => ∃ p dx vs, v = .ref p ∧ H p = some (.ins (ci c).1 dx ((ci c).2.zip vs)) ∧ p ∉ M ∧ vs.length = (ci c).2.length ∧ Reps M H fs vs
  | .dic ks l, v => ∃ p vs, v = .ref p ∧ Rd H p (.dK (ks.zip vs)) ∧ p ∉ M ∧ vs.length = ks.length ∧ Reps M H l vs
def Reps (M : List Addr) (H : Hp) : List D → List V → Prop
  | [], vs => vs = []
  | d :: ds, vs => ∃ v r, vs = v :: r ∧ Rep M H d v ∧ Reps M H ds r
end
end
section
variable {K : PySem.W.Frag} {ci : Ci} {M M' : List Addr} {H H' : Hp}
theorem rd_mono {p : Addr} {u : HO} (h : ∀ a o, H a = some o → a ∉ M → H' a = some o ∧ a ∉ M') (hp : p ∉ M) (r : Rd H p u) : Rd H' p u ∧ p ∉ M' := by
  rcases r with r | ⟨o, r⟩
  · exact ⟨.inl (h _ _ r hp).1, (h _ _ r hp).2⟩
  · exact ⟨.inr ⟨o, (h _ _ r hp).1⟩, (h _ _ r hp).2⟩
mutual
theorem Rep.mono (h : ∀ a o, H a = some o → a ∉ M → H' a = some o ∧ a ∉ M') : ∀ (d : D) (v : V), Rep K ci M H d v → Rep K ci M' H' d v
  | .non, v, r => r
  | .bl b, v, r => r
  | .int i, v, r => r
  | .str s, v, r => r
  | .tup l, v, r => by
    rw [Rep] at r ⊢
    obtain ⟨p, vs, e, q, rs⟩ := r
    refine ⟨p, vs, e, ?_, Reps.mono h l vs rs⟩
    rcases q with ⟨q, n⟩ | q
    · exact .inl (rd_mono h n q)
    · exact .inr q
  | .lst l, v, r => by
    rw [Rep] at r ⊢
    obtain ⟨p, vs, e, q, rs⟩ := r
    exact ⟨p, vs, e, h _ _ q.1 q.2, Reps.mono h l vs rs⟩
  | .ins c fs, v, r => by
    rw [Rep] at r ⊢
    obtain ⟨p, dx, vs, e, q, n, z, rs⟩ := r
    exact ⟨p, dx, vs, e, (h _ _ q n).1, (h _ _ q n).2, z, Reps.mono h fs vs rs⟩
  | .dic ks l, v, r => by
    rw [Rep] at r ⊢
    obtain ⟨p, vs, e, q, n, z, rs⟩ := r
    exact ⟨p, vs, e, (rd_mono h n q).1, (rd_mono h n q).2, z, Reps.mono h l vs rs⟩
theorem Reps.mono (h : ∀ a o, H a = some o → a ∉ M → H' a = some o ∧ a ∉ M') : ∀ (ds : List D) (vs : List V), Reps K ci M H ds vs → Reps K ci M' H' ds vs
  | [], vs, r => by rw [Reps] at r ⊢; exact r
  | d :: ds, vs, r => by
    rw [Reps] at r ⊢
    obtain ⟨v, rr, e, r1, r2⟩ := r
    exact ⟨v, rr, e, Rep.mono h d v r1, Reps.mono h ds rr r2⟩
end
theorem Reps.length : ∀ {ds : List D} {vs : List V}, Reps K ci M H ds vs → ds.length = vs.length
  | [], vs, r => by rw [Reps] at r; subst r; rfl
  | d :: ds, vs, r => by
    rw [Reps] at r
    obtain ⟨v, rr, rfl, r1, r2⟩ := r
    simp [Reps.length r2]
theorem Reps.get : ∀ {ds : List D} {vs : List V} {i : Nat} {v : V}, Reps K ci M H ds vs → vs[i]? = some v → ∃ d, ds[i]? = some d ∧ Rep K ci M H d v
  | [], vs, i, v, r, e => by rw [Reps] at r; rw [r] at e; simp at e
  | d :: ds, vs, i, v, r, e => by
    rw [Reps] at r
    obtain ⟨v0, rr, rfl, r1, r2⟩ := r
    cases i with
    | zero => simp at e; subst e; exact ⟨d, rfl, r1⟩
    | succ i => simp at e; simpa using Reps.get r2 e
theorem Reps.getD : ∀ {ds : List D} {vs : List V} {i : Nat} {d : D}, Reps K ci M H ds vs → ds[i]? = some d → ∃ v, vs[i]? = some v ∧ Rep K ci M H d v := fun {ds vs i d} r e => by
  have hi : i < vs.length := by rw [← r.length]; exact (List.getElem?_eq_some_iff.mp e).1
  obtain ⟨d', e', r'⟩ := r.get (i := i) (v := vs[i]) (by simp [hi])
  rw [e] at e'; cases e'
  exact ⟨_, by simp [hi], r'⟩
theorem Reps.append : ∀ {ds es : List D} {vs ws : List V}, Reps K ci M H ds vs → Reps K ci M H es ws → Reps K ci M H (ds ++ es) (vs ++ ws)
  | [], es, vs, ws, r, q => by rw [Reps] at r; subst r; exact q
  | d :: ds, es, vs, ws, r, q => by
    rw [Reps] at r
    obtain ⟨v0, rr, rfl, r1, r2⟩ := r
    show Reps K ci M H (d :: (ds ++ es)) (v0 :: (rr ++ ws))
    rw [Reps]
    exact ⟨v0, _, rfl, r1, Reps.append r2 q⟩
theorem Reps.take : ∀ (n : Nat) {ds : List D} {vs : List V}, Reps K ci M H ds vs → Reps K ci M H (ds.take n) (vs.take n)
  | 0, ds, vs, r => by simp [Reps]
  | n + 1, [], vs, r => by rw [Reps] at r; subst r; simp [Reps]
  | n + 1, d :: ds, vs, r => by
    rw [Reps] at r
    obtain ⟨v0, rr, rfl, r1, r2⟩ := r
    show Reps K ci M H (d :: ds.take n) (v0 :: rr.take n)
    rw [Reps]
    exact ⟨v0, _, rfl, r1, Reps.take n r2⟩
theorem Reps.drop : ∀ (n : Nat) {ds : List D} {vs : List V}, Reps K ci M H ds vs → Reps K ci M H (ds.drop n) (vs.drop n)
  | 0, ds, vs, r => r
  | n + 1, [], vs, r => by rw [Reps] at r; subst r; simp [Reps]
  | n + 1, d :: ds, vs, r => by
    rw [Reps] at r
    obtain ⟨v0, rr, rfl, r1, r2⟩ := r
    exact Reps.drop n r2
theorem Reps.nil : Reps K ci M H [] [] := by rw [Reps]
theorem Reps.cons {d : D} {v : V} {ds : List D} {vs : List V} (r : Rep K ci M H d v) (q : Reps K ci M H ds vs) : Reps K ci M H (d :: ds) (v :: vs) := by
  rw [Reps]; exact ⟨v, vs, rfl, r, q⟩
theorem Reps.snoc {d : D} {v : V} {ds : List D} {vs : List V} (q : Reps K ci M H ds vs) (r : Rep K ci M H d v) : Reps K ci M H (ds ++ [d]) (vs ++ [v]) := q.append (.cons r .nil)
end

/-! slots and stores -/
section
variable (K : PySem.W.Frag) (ci : Ci)
def ARep (ρ M : List Addr) (H : Hp) : A → V → Prop
  | .d x, v => Rep K ci M H x v
  | .loc k, v => ∃ p, ρ[k]? = some p ∧ v = .ref p
def AReps (ρ M : List Addr) (H : Hp) : List A → List V → Prop
  | [], vs => vs = []
  | a :: as, vs => ∃ v r, vs = v :: r ∧ ARep K ci ρ M H a v ∧ AReps ρ M H as r
def MRep (ρ M : List Addr) (H : Hp) (p : Addr) : MO → Prop
  | .lst l => ∃ vs, H p = some (.lst vs) ∧ AReps K ci ρ M H l vs
  | .ins c fs => ∃ dx vs, H p = some (.ins (ci c).1 dx ((ci c).2.zip vs)) ∧ vs.length ≤ (ci c).2.length ∧ AReps K ci ρ M H fs vs
  | .dK ks l => ∃ vs, H p = some (.dK (ks.zip vs)) ∧ vs.length = ks.length ∧ AReps K ci ρ M H l vs
  | .frz d => Rep K ci M H d (.ref p)
  | .scr l => ∃ vs, ((Rd H p (.lst vs) ∧ p ∉ M) ∨ Lw K p vs) ∧ Reps K ci M H l vs
  | .gone => True
end
def mutA : List Addr → So → List Addr
  | p :: ρ, o :: S => if o.live = true then p :: mutA ρ S else mutA ρ S
  | _, _ => []
section
variable {K : PySem.W.Frag} {ci : Ci} {ρ ρ' M M' : List Addr} {H H' : Hp}
theorem ARep.mono (h : ∀ a o, H a = some o → a ∉ M → H' a = some o ∧ a ∉ M') (hρ : ρ <+: ρ') : ∀ {a : A} {v : V}, ARep K ci ρ M H a v → ARep K ci ρ' M' H' a v
  | .d x, v, r => Rep.mono h x v r
  | .loc k, v, ⟨p, e, q⟩ => by
    obtain ⟨t, rfl⟩ := hρ
    refine ⟨p, ?_, q⟩
    rw [List.getElem?_append_left (List.getElem?_eq_some_iff.mp e).1]
    exact e
theorem AReps.mono (h : ∀ a o, H a = some o → a ∉ M → H' a = some o ∧ a ∉ M') (hρ : ρ <+: ρ') : ∀ {as : List A} {vs : List V}, AReps K ci ρ M H as vs → AReps K ci ρ' M' H' as vs
  | [], vs, r => r
  | a :: as, vs, ⟨v, rr, e, r1, r2⟩ => ⟨v, rr, e, r1.mono h hρ, AReps.mono h hρ r2⟩
theorem AReps.length : ∀ {ds : List A} {vs : List V}, AReps K ci ρ M H ds vs → ds.length = vs.length
  | [], vs, r => by rw [AReps] at r; subst r; rfl
  | d :: ds, vs, ⟨v, rr, e, r1, r2⟩ => by subst e; simp [AReps.length r2]
theorem AReps.get : ∀ {ds : List A} {vs : List V} {i : Nat} {v : V}, AReps K ci ρ M H ds vs → vs[i]? = some v → ∃ d, ds[i]? = some d ∧ ARep K ci ρ M H d v
  | [], vs, i, v, r, e => by rw [AReps] at r; rw [r] at e; simp at e
  | d :: ds, vs, i, v, ⟨v0, rr, e0, r1, r2⟩, e => by
    subst e0
    cases i with
    | zero => simp at e; subst e; exact ⟨d, rfl, r1⟩
    | succ i => simp at e; simpa using AReps.get r2 e
theorem AReps.getA {ds : List A} {vs : List V} {i : Nat} {d : A} (r : AReps K ci ρ M H ds vs) (e : ds[i]? = some d) : ∃ v, vs[i]? = some v ∧ ARep K ci ρ M H d v := by
  have hi : i < vs.length := by rw [← r.length]; exact (List.getElem?_eq_some_iff.mp e).1
  obtain ⟨d', e', r'⟩ := r.get (i := i) (v := vs[i]) (by simp [hi])
  rw [e] at e'; cases e'
  exact ⟨_, by simp [hi], r'⟩
theorem AReps.set {a : A} {v : V} (q : ARep K ci ρ M H a v) : ∀ {ds : List A} {vs : List V} (i : Nat), AReps K ci ρ M H ds vs → AReps K ci ρ M H (ds.set i a) (vs.set i v)
  | [], vs, i, r => by rw [AReps] at r; subst r; simp [AReps]
  | d :: ds, vs, 0, ⟨v0, rr, e0, r1, r2⟩ => by subst e0; exact ⟨v, rr, rfl, q, r2⟩
  | d :: ds, vs, i + 1, ⟨v0, rr, e0, r1, r2⟩ => by subst e0; exact ⟨v0, _, rfl, r1, AReps.set q i r2⟩
theorem AReps.append : ∀ {ds es : List A} {vs ws : List V}, AReps K ci ρ M H ds vs → AReps K ci ρ M H es ws → AReps K ci ρ M H (ds ++ es) (vs ++ ws)
  | [], es, vs, ws, r, q => by rw [AReps] at r; subst r; exact q
  | d :: ds, es, vs, ws, ⟨v0, rr, e0, r1, r2⟩, q => by subst e0; exact ⟨v0, _, rfl, r1, AReps.append r2 q⟩
/-- data alone -/
theorem AReps.data : ∀ {ds : List D} {vs : List V}, AReps K ci ρ M H (ds.map A.d) vs → Reps K ci M H ds vs
  | [], vs, r => by rw [Reps]; exact r
  | d :: ds, vs, ⟨v0, rr, e0, r1, r2⟩ => by rw [Reps]; exact ⟨v0, rr, e0, r1, AReps.data r2⟩
theorem AReps.ofData : ∀ {ds : List D} {vs : List V}, Reps K ci M H ds vs → AReps K ci ρ M H (ds.map A.d) vs
  | [], vs, r => by rw [Reps] at r; exact r
  | d :: ds, vs, r => by
    rw [Reps] at r
    obtain ⟨v0, rr, e0, r1, r2⟩ := r
    exact ⟨v0, rr, e0, r1, AReps.ofData r2⟩
theorem MRep.mono (h : ∀ a o, H a = some o → a ∉ M → H' a = some o ∧ a ∉ M') (hρ : ρ <+: ρ') {p : Addr} {o : MO} (hp : o.live = true → H' p = H p) (r : MRep K ci ρ M H p o) : MRep K ci ρ' M' H' p o := by
  cases o with
  | lst l => obtain ⟨vs, e, q⟩ := r; exact ⟨vs, by rw [hp rfl]; exact e, q.mono h hρ⟩
  | ins c fs => obtain ⟨dx, vs, e, z, q⟩ := r; exact ⟨dx, vs, by rw [hp rfl]; exact e, z, q.mono h hρ⟩
  | dK ks l => obtain ⟨vs, e, z, q⟩ := r; exact ⟨vs, by rw [hp rfl]; exact e, z, q.mono h hρ⟩
  | frz d => exact Rep.mono h d _ r
  | scr l =>
    obtain ⟨vs, e, q⟩ := r
    refine ⟨vs, ?_, Reps.mono h l vs q⟩
    rcases e with ⟨e | ⟨o, e⟩, n⟩ | e
    · exact .inl ⟨.inl (h _ _ e n).1, (h _ _ e n).2⟩
    · exact .inl ⟨.inr ⟨o, (h _ _ e n).1⟩, (h _ _ e n).2⟩
    · exact .inr e
  | gone => trivial
theorem MRep.there {p : Addr} {o : MO} (hl : o.live = true) (r : MRep K ci ρ M H p o) : ∃ u, H p = some u ∧ Mut (some u) := by
  cases o with
  | lst l => obtain ⟨vs, e, q⟩ := r; exact ⟨_, e, trivial⟩
  | ins c fs => obtain ⟨dx, vs, e, z, q⟩ := r; exact ⟨_, e, trivial⟩
  | dK ks l => obtain ⟨vs, e, z, q⟩ := r; exact ⟨_, e, trivial⟩
  | frz d => cases hl
  | scr l => cases hl
  | gone => cases hl
theorem mem_mutA : ∀ {ρ : List Addr} {S : So} {p : Addr}, p ∈ mutA ρ S → ∃ (k : Nat) (o : MO), ρ[k]? = some p ∧ S[k]? = some o ∧ o.live = true
  | [], _, p, h => by simp [mutA] at h
  | _ :: _, [], p, h => by simp [mutA] at h
  | q :: ρ, o :: S, p, h => by
    unfold mutA at h
    split at h
    · rename_i hl
      rcases List.mem_cons.mp h with rfl | h
      · exact ⟨0, o, rfl, rfl, hl⟩
      · obtain ⟨k, o', e1, e2, e3⟩ := mem_mutA h
        exact ⟨k + 1, o', by simpa using e1, by simpa using e2, e3⟩
    · obtain ⟨k, o', e1, e2, e3⟩ := mem_mutA h
      exact ⟨k + 1, o', by simpa using e1, by simpa using e2, e3⟩
theorem mutA_mem : ∀ {ρ : List Addr} {S : So} {p : Addr} {k : Nat} {o : MO}, ρ[k]? = some p → S[k]? = some o → o.live = true → p ∈ mutA ρ S
  | [], _, p, k, o, e1, e2, h => by simp at e1
  | _ :: _, [], p, k, o, e1, e2, h => by simp at e2
  | q :: ρ, o' :: S, p, k, o, e1, e2, h => by
    unfold mutA
    cases k with
    | zero => simp at e1 e2; subst e1 e2; rw [if_pos h]; exact List.mem_cons_self
    | succ k =>
      have := mutA_mem (p := p) (k := k) (o := o) (ρ := ρ) (S := S) (by simpa using e1) (by simpa using e2) h
      split
      · exact List.mem_cons_of_mem _ this
      · exact this
theorem mutA_append : ∀ {ρ : List Addr} {S : So} {p : Addr} {o : MO}, ρ.length = S.length → mutA (ρ ++ [p]) (S ++ [o]) = mutA ρ S ++ (if o.live = true then [p] else [])
  | [], [], p, o, _ => by simp [mutA]
  | [], _ :: _, p, o, h => by simp at h
  | _ :: _, [], p, o, h => by simp at h
  | q :: ρ, o' :: S, p, o, h => by
    have := mutA_append (ρ := ρ) (S := S) (p := p) (o := o) (by simpa using h)
    simp only [List.cons_append, mutA, this]
    split <;> simp
theorem mutA_set_same : ∀ {ρ : List Addr} {S : So} {k : Nat} {o o' : MO}, S[k]? = some o → o.live = o'.live → mutA ρ (S.set k o') = mutA ρ S
  | [], S, k, o, o', _, _ => by simp [mutA]
  | _ :: _, [], k, o, o', h, _ => by simp at h
  | q :: ρ, a :: S, 0, o, o', h, e => by
    simp at h; subst h
    simp only [List.set_cons_zero, mutA, e]
  | q :: ρ, a :: S, k + 1, o, o', h, e => by
    simp only [List.set_cons_succ, mutA]
    rw [mutA_set_same (k := k) (o := o) (by simpa using h) e]
/-- one thing less that may change -/
theorem mutA_set_sub : ∀ {ρ : List Addr} {S : So} {k : Nat} {o' : MO}, o'.live = false → (mutA ρ (S.set k o')).Sublist (mutA ρ S)
  | [], S, k, o', _ => by simp [mutA]
  | _ :: _, [], k, o', _ => by simp [mutA]
  | q :: ρ, a :: S, 0, o', e => by
    simp only [List.set_cons_zero, mutA, e]
    simp only [Bool.false_eq_true, ↓reduceIte]
    split
    · exact List.sublist_cons_self _ _
    · exact List.Sublist.refl _
  | q :: ρ, a :: S, k + 1, o', e => by
    simp only [List.set_cons_succ, mutA]
    split
    · exact (mutA_set_sub e).cons₂ _
    · exact mutA_set_sub e
theorem mutA_set_gone : ∀ {ρ : List Addr} {S : So} {k : Nat} {p : Addr} {o' : MO}, (mutA ρ S).Nodup → ρ[k]? = some p → o'.live = false → (∃ o, S[k]? = some o ∧ o.live = true) → p ∉ mutA ρ (S.set k o')
  | [], S, k, p, o', _, e, _, _ => by simp at e
  | _ :: _, [], k, p, o', _, _, _, ⟨o, h, _⟩ => by simp at h
  | q :: ρ, a :: S, 0, p, o', nd, e, hl, ⟨o, h, ho⟩ => by
    simp at e h; subst e h
    simp only [List.set_cons_zero, mutA, hl, ho, ↓reduceIte, Bool.false_eq_true] at nd ⊢
    exact (List.nodup_cons.mp nd).1
  | q :: ρ, a :: S, k + 1, p, o', nd, e, hl, ⟨o, h, ho⟩ => by
    have e' : ρ[k]? = some p := by simpa using e
    have h' : S[k]? = some o := by simpa using h
    simp only [List.set_cons_succ, mutA] at nd ⊢
    split at nd
    · rename_i hq
      simp only [hq, ↓reduceIte]
      intro hm
      rcases List.mem_cons.mp hm with r | r
      · subst r; exact (List.nodup_cons.mp nd).1 (mutA_mem e' h' ho)
      · exact mutA_set_gone (List.nodup_cons.mp nd).2 e' hl ⟨o, h', ho⟩ r
    · rename_i hq
      simp only [hq]
      exact mutA_set_gone nd e' hl ⟨o, h', ho⟩
end
end LP

namespace LP
open PySem PySem.Spec PyProof.Rows L2

/-- a def's entry: the heap, the things that may change; ex: things of others that may change, but not here -/
structure Fr (K : PySem.W.Frag) (ci : Ci) where
  H : Hp
  ρ : List Addr
  M : List Addr
  ex : List Addr
abbrev mu {K : PySem.W.Frag} {ci : Ci} (F : Fr K ci) (ρ : List Addr) (S : So) : List Addr := mutA ρ S ++ F.ex
structure RelR {K : PySem.W.Frag} {ci : Ci} (F : Fr K ci) (ρ : List Addr) (T : List (A × V)) (Γ : Ga) (S : So) (σ : L2.St) (H : Hp) : Prop where
  pre : F.ρ <+: ρ
  len : ρ.length = S.length
  nd : (mutA ρ S).Nodup
  st : ∀ (k : Nat) (p : Addr) (o : MO), ρ[k]? = some p → S[k]? = some o → MRep K ci ρ (mu F ρ S) H p o
  gs : Γ.length = σ.length
  gl : ∀ (i : Nat) (a : A), Γ[i]? = some (some a) → ∃ v, σ[i]? = some (some v) ∧ ARep K ci ρ (mu F ρ S) H a v
  tl : ∀ q ∈ T, ARep K ci ρ (mu F ρ S) H q.1 q.2
  ext : ∀ a o, F.H a = some o → a ∉ F.M → H a = some o
  fr : ∀ p ∈ mutA ρ S, p ∈ F.M ∨ F.H p = none
  fo : ∀ p ∈ F.ex, p ∉ F.M ∧ F.H p ≠ none
def Rel {K : PySem.W.Frag} {ci : Ci} (F : Fr K ci) (T : List (A × V)) (Γ : Ga) (S : So) (σ : L2.St) (H : Hp) : Prop := ∃ ρ, RelR F ρ T Γ S σ H
section
variable {K : PySem.W.Frag} {ci : Ci} {F : Fr K ci} {ρ : List Addr} {T : List (A × V)} {Γ : Ga} {S : So} {σ : L2.St} {H H' : Hp} {p : Addr} {o : HO}
theorem RelR.dj (r : RelR F ρ T Γ S σ H) {p : Addr} (h : p ∈ mutA ρ S) : p ∉ F.ex := fun z => by
  rcases r.fr p h with q | q
  · exact (r.fo p z).1 q
  · exact (r.fo p z).2 q
theorem RelR.tracked (r : RelR F ρ T Γ S σ H) {p : Addr} (h : p ∈ mutA ρ S) : ∃ u, H p = some u ∧ Mut (some u) := by
  obtain ⟨k, o, e1, e2, e3⟩ := mem_mutA h
  exact (r.st k p o e1 e2).there e3
theorem RelR.freshM (r : RelR F ρ T Γ S σ H) {p : Addr} (h : H p = none) : p ∉ mutA ρ S := fun hm => by
  obtain ⟨u, e, _⟩ := r.tracked hm
  rw [h] at e; cases e
theorem RelR.fresh (r : RelR F ρ T Γ S σ H) {p : Addr} (h : H p = none) : p ∉ mu F ρ S := fun hm => by
  rcases List.mem_append.mp hm with hm | hm
  · exact r.freshM h hm
  · have := r.fo p hm
    cases e : F.H p with
    | none => exact this.2 e
    | some u => rw [r.ext p u e this.1] at h; cases h
/-- all that the relation says, from one store and heap to another -/
theorem RelR.move (r : RelR F ρ T Γ S σ H) {ρ' : List Addr} {S' : So} (hρ : ρ <+: ρ') (h1 : ρ'.length = S'.length) (h2 : (mutA ρ' S').Nodup)
    (h : ∀ a o, H a = some o → a ∉ mu F ρ S → H' a = some o ∧ a ∉ mu F ρ' S')
    (h3 : ∀ (k : Nat) (p : Addr) (o : MO), ρ'[k]? = some p → S'[k]? = some o → MRep K ci ρ' (mu F ρ' S') H' p o)
    (h4 : ∀ a o, F.H a = some o → a ∉ F.M → H' a = some o) (h5 : ∀ p ∈ mutA ρ' S', p ∈ F.M ∨ F.H p = none) : RelR F ρ' T Γ S' σ H' where
  pre := r.pre.trans hρ
  len := h1
  nd := h2
  st := h3
  gs := r.gs
  gl := fun i a e => by
    obtain ⟨v, e1, e2⟩ := r.gl i a e
    exact ⟨v, e1, e2.mono h hρ⟩
  tl := fun q hq => (r.tl q hq).mono h hρ
  ext := h4
  fr := h5
  fo := r.fo
/-- a new thing that never changes -/
theorem RelR.alloc (r : RelR F ρ T Γ S σ H) (hp : H p = none) : RelR F ρ T Γ S σ (upd H p o) := by
  have hm := r.freshM hp
  have hh : ∀ a u, H a = some u → a ∉ mu F ρ S → (upd H p o) a = some u ∧ a ∉ mu F ρ S := fun a u e n => ⟨by rw [upd_ne (ne_of_none e hp)]; exact e, n⟩
  refine r.move (List.prefix_refl _) r.len r.nd hh (fun k q u e1 e2 => (r.st k q u e1 e2).mono hh (List.prefix_refl _) fun hl => ?_) (fun a u e n => ?_) r.fr
  · rw [upd_ne]
    intro z; subst z
    exact hm (mutA_mem e1 e2 hl)
  · rw [upd_ne (ne_of_none (r.ext a u e n) hp)]
    exact r.ext a u e n
theorem RelR.back (r : RelR F ρ T Γ S σ H) (hp : H p = none) : p ∉ F.M → F.H p = none := fun n => by
  cases e : F.H p with
  | none => rfl
  | some u => rw [r.ext p u e n] at hp; cases hp
theorem mu_app {p : Addr} {mo : MO} (h : ρ.length = S.length) (hl : mo.live = true) {a : Addr} : a ∈ mu F (ρ ++ [p]) (S ++ [mo]) ↔ a ∈ mu F ρ S ∨ a = p := by
  show a ∈ mutA (ρ ++ [p]) (S ++ [mo]) ++ F.ex ↔ a ∈ mutA ρ S ++ F.ex ∨ a = p
  rw [mutA_append h, if_pos hl]
  simp only [List.mem_append, List.mem_cons, List.not_mem_nil, or_false]
  constructor
  · rintro ((h | h) | h)
    · exact .inl (.inl h)
    · exact .inr h
    · exact .inl (.inr h)
  · rintro ((h | h) | h)
    · exact .inl (.inl h)
    · exact .inr h
    · exact .inl (.inr h)
/-- a new thing that may change -/
theorem RelR.allocM (r : RelR F ρ T Γ S σ H) (hp : H p = none) {mo : MO} (hl : mo.live = true)
    (hm : MRep K ci (ρ ++ [p]) (mu F (ρ ++ [p]) (S ++ [mo])) (upd H p o) p mo) : RelR F (ρ ++ [p]) T Γ (S ++ [mo]) σ (upd H p o) := by
  have hf := r.freshM hp
  have em : mutA (ρ ++ [p]) (S ++ [mo]) = mutA ρ S ++ [p] := by rw [mutA_append r.len, if_pos hl]
  have hh : ∀ a u, H a = some u → a ∉ mu F ρ S → (upd H p o) a = some u ∧ a ∉ mu F (ρ ++ [p]) (S ++ [mo]) := fun a u e n => by
    have ne : a ≠ p := ne_of_none e hp
    refine ⟨by rw [upd_ne ne]; exact e, fun z => ?_⟩
    rcases (mu_app (F := F) r.len hl).mp z with z | z
    · exact n z
    · exact ne z
  refine r.move (List.prefix_append _ _) (by simp [r.len]) ?_ hh (fun k q u e1 e2 => ?_) (fun a u e n => ?_) fun q hq => ?_
  · rw [em]
    refine List.nodup_append.mpr ⟨r.nd, by simp, fun a ha b hb => ?_⟩
    simp at hb; subst hb
    intro z; subst z; exact hf ha
  · by_cases hk : k < S.length
    · rw [List.getElem?_append_left (by rw [r.len]; exact hk)] at e1
      rw [List.getElem?_append_left hk] at e2
      refine (r.st k q u e1 e2).mono hh (List.prefix_append _ _) fun hl => ?_
      rw [upd_ne]
      intro z; subst z
      exact hf (mutA_mem e1 e2 hl)
    · have hk2 : k = S.length := by
        have := (List.getElem?_eq_some_iff.mp e2).1
        simp at this
        omega
      subst hk2
      rw [← r.len] at e1
      simp at e1 e2
      subst e1 e2
      exact hm
  · rw [upd_ne (ne_of_none (r.ext a u e n) hp)]
    exact r.ext a u e n
  · rw [em] at hq
    rcases List.mem_append.mp hq with hq | hq
    · exact r.fr q hq
    · simp at hq; subst hq
      by_cases hM : q ∈ F.M
      · exact .inl hM
      · exact .inr (r.back hp hM)
theorem nodup_places : ∀ {ρ : List Addr} {S : So} {p : Addr} {i j : Nat} {o u : MO}, (mutA ρ S).Nodup → ρ[i]? = some p → S[i]? = some o → o.live = true → ρ[j]? = some p → S[j]? = some u → u.live = true → i = j := by
  intro ρ
  induction ρ with
  | nil => intro S p i j o u _ e; simp at e
  | cons q ρ ih =>
    intro S p i j o u nd e1 e2 h1 e3 e4 h2
    cases S with
    | nil => simp at e2
    | cons a S =>
      cases i with
      | zero =>
        cases j with
        | zero => rfl
        | succ j =>
          simp at e1 e2; subst e1 e2
          simp only [mutA, h1, ↓reduceIte] at nd
          exact absurd (mutA_mem (by simpa using e3) (by simpa using e4) h2) (List.nodup_cons.mp nd).1
      | succ i =>
        cases j with
        | zero =>
          simp at e3 e4; subst e3 e4
          simp only [mutA, h2, ↓reduceIte] at nd
          exact absurd (mutA_mem (by simpa using e1) (by simpa using e2) h1) (List.nodup_cons.mp nd).1
        | succ j =>
          have nd' : (mutA ρ S).Nodup := by
            simp only [mutA] at nd
            split at nd
            · exact (List.nodup_cons.mp nd).2
            · exact nd
          rw [ih (S := S) (i := i) (j := j) (p := p) (o := o) (u := u) nd' (by simpa using e1) (by simpa using e2) h1 (by simpa using e3) (by simpa using e4) h2]
/-- a thing changes -/
theorem RelR.write (r : RelR F ρ T Γ S σ H) {k : Nat} {mo mo' : MO} (e1 : ρ[k]? = some p) (e2 : S[k]? = some mo) (hl : mo.live = true) (hl' : mo'.live = true)
    (hm : MRep K ci ρ (mu F ρ S) (upd H p o) p mo') : RelR F ρ T Γ (S.set k mo') σ (upd H p o) := by
  have em : mutA ρ (S.set k mo') = mutA ρ S := mutA_set_same e2 (by rw [hl, hl'])
  have em2 : mu F ρ (S.set k mo') = mu F ρ S := by show mutA _ _ ++ F.ex = mutA _ _ ++ F.ex; rw [em]
  have hp := mutA_mem e1 e2 hl
  have hpm : p ∈ mu F ρ S := List.mem_append_left _ hp
  have hh : ∀ a u, H a = some u → a ∉ mu F ρ S → (upd H p o) a = some u ∧ a ∉ mu F ρ (S.set k mo') := fun a u e n => by
    rw [em2]
    refine ⟨?_, n⟩
    rw [upd_ne]
    · exact e
    · intro z; subst z; exact n hpm
  refine r.move (List.prefix_refl _) (by simp [r.len]) (by rw [em]; exact r.nd) hh (fun j q u q1 q2 => ?_) (fun a u e n => ?_) (by rw [em]; exact r.fr)
  · by_cases hj : j = k
    · subst hj
      rw [e1] at q1; cases q1
      rw [List.getElem?_set_self (List.getElem?_eq_some_iff.mp e2).1] at q2
      cases q2
      rw [em2]
      exact hm
    · rw [List.getElem?_set_ne (fun z => hj z.symm)] at q2
      refine (r.st j q u q1 q2).mono hh (List.prefix_refl _) fun hlu => ?_
      rw [upd_ne]
      intro z; subst z
      exact hj (nodup_places r.nd q1 q2 hlu e1 e2 hl)
  · rw [upd_ne]
    · exact r.ext a u e n
    · intro z; subst z
      rcases r.fr _ hp with h | h
      · exact n h
      · rw [h] at e; cases e
/-- a thing that will not change any more -/
theorem RelR.freeze (r : RelR F ρ T Γ S σ H) {k : Nat} {mo : MO} {d : D} (e1 : ρ[k]? = some p) (e2 : S[k]? = some mo) (hl : mo.live = true)
    (hm : ∀ M', (∀ a o, H a = some o → a ∉ mu F ρ S → H a = some o ∧ a ∉ M') → p ∉ M' → Rep K ci M' H d (.ref p)) : RelR F ρ T Γ (S.set k (.frz d)) σ H ∧ Rep K ci (mu F ρ (S.set k (.frz d))) H d (.ref p) := by
  have hs := mutA_set_sub (ρ := ρ) (S := S) (k := k) (o' := .frz d) rfl
  have hh : ∀ a u, H a = some u → a ∉ mu F ρ S → H a = some u ∧ a ∉ mu F ρ (S.set k (.frz d)) := fun a u e n => ⟨e, fun z => n (by
    rcases List.mem_append.mp z with z | z
    · exact List.mem_append_left _ (hs.subset z)
    · exact List.mem_append_right _ z)⟩
  have hd := hm (mu F ρ (S.set k (.frz d))) hh (fun z => by
    rcases List.mem_append.mp z with z | z
    · exact mutA_set_gone r.nd e1 rfl ⟨mo, e2, hl⟩ z
    · exact r.dj (mutA_mem e1 e2 hl) z)
  refine ⟨r.move (List.prefix_refl _) (by simp [r.len]) (hs.nodup r.nd) hh (fun j q u q1 q2 => ?_) r.ext fun q hq => r.fr q (hs.subset hq), hd⟩
  by_cases hj : j = k
  · subst hj
    rw [e1] at q1; cases q1
    rw [List.getElem?_set_self (List.getElem?_eq_some_iff.mp e2).1] at q2
    cases q2
    exact hd
  · rw [List.getElem?_set_ne (fun z => hj z.symm)] at q2
    exact (r.st j q u q1 q2).mono hh (List.prefix_refl _) fun _ => rfl
theorem RelR.push (r : RelR F ρ T Γ S σ H) {a : A} {v : V} (h : ARep K ci ρ (mu F ρ S) H a v) : RelR F ρ ((a, v) :: T) Γ S σ H := by
  have tl : ∀ q ∈ (a, v) :: T, ARep K ci ρ (mu F ρ S) H q.1 q.2 := fun q hq => by
    rcases List.mem_cons.mp hq with rfl | hq
    · exact h
    · exact r.tl q hq
  exact ⟨r.pre, r.len, r.nd, r.st, r.gs, r.gl, tl, r.ext, r.fr, r.fo⟩
theorem RelR.drop (r : RelR F ρ T Γ S σ H) {T' : List (A × V)} (h : ∀ q ∈ T', q ∈ T) : RelR F ρ T' Γ S σ H := { r with tl := fun q hq => r.tl q (h q hq) }
theorem RelR.top (r : RelR F ρ T Γ S σ H) {a : A} {v : V} (h : (a, v) ∈ T) : ARep K ci ρ (mu F ρ S) H a v := r.tl _ h
/-- a slot is set -/
theorem RelR.put (r : RelR F ρ T Γ S σ H) {a : A} {v : V} (i : Nat) (h : ARep K ci ρ (mu F ρ S) H a v) : RelR F ρ T (Γ.set i (some a)) S (σ.set i (some v)) H := by
  have gl : ∀ (j : Nat) (b : A), (Γ.set i (some a))[j]? = some (some b) → ∃ u, (σ.set i (some v))[j]? = some (some u) ∧ ARep K ci ρ (mu F ρ S) H b u := fun j b e => by
    by_cases hj : i = j
    · subst hj
      by_cases hi : i < Γ.length
      · rw [List.getElem?_set_self hi] at e
        cases e
        exact ⟨v, by rw [List.getElem?_set_self (by rw [← r.gs]; exact hi)], h⟩
      · rw [List.getElem?_eq_none (by simpa using hi)] at e; cases e
    · rw [List.getElem?_set_ne hj] at e
      obtain ⟨u, e1, e2⟩ := r.gl j b e
      exact ⟨u, by rw [List.getElem?_set_ne hj]; exact e1, e2⟩
  exact ⟨r.pre, r.len, r.nd, r.st, by simp [r.gs], gl, r.tl, r.ext, r.fr, r.fo⟩
/-- slots that nobody knows may be forgotten -/
theorem RelR.slots (r : RelR F ρ T Γ S σ H) {Γ' : Ga} {σ' : L2.St} (h1 : Γ'.length = σ'.length) (h2 : ∀ (i : Nat) (a : A), Γ'[i]? = some (some a) → ∃ v, σ'[i]? = some (some v) ∧ ARep K ci ρ (mu F ρ S) H a v) : RelR F ρ T Γ' S σ' H := ⟨r.pre, r.len, r.nd, r.st, h1, h2, r.tl, r.ext, r.fr, r.fo⟩
end

/-! expressions by what they want -/
def wpX (X : Cx) (e : Expr) : TE := fun σ H Q => ∀ (pins : List (Addr × Obj)) (s : Shared), Inv X pins σ H s → wpAny (model X.prog X.w) X.A (eval e X.env) (EP X pins σ Q) X.xe s
def wpT (X : Cx) (e : Expr) : TT := fun σ H Q => ∀ (pins : List (Addr × Obj)) (s : Shared), Inv X pins σ H s → wpAny (model X.prog X.w) X.A (isTrue e X.env (eval e X.env)) (TP X pins σ Q) X.xe s
def wpA (X : Cx) (es : List Expr) : TA := fun σ H Q => ∀ (pos : Pos) (pins : List (Addr × Obj)) (s : Shared), Inv X pins σ H s → wpAny (model X.prog X.w) X.A (spliced (backTo pos (starEach es X.env))) (AP X pins σ Q) X.xe s
def wpS (X : Cx) (st : Stmt) : TS := fun D σ H => ∀ (pins : List (Addr × Obj)) (s : Shared), Inv X pins σ H s → wpAny (model X.prog X.w) X.A (exec st X.env) (SP X pins D) X.xe s
def wpSs (X : Cx) (st : List Stmt) : TS := fun D σ H => ∀ (pins : List (Addr × Obj)) (s : Shared), Inv X pins σ H s → wpAny (model X.prog X.w) X.A (execs st X.env) (SP X pins D) X.xe s
section
variable {X : Cx} {e : Expr} {es : List Expr} {st : Stmt} {sts : List Stmt} {σ : L2.St} {H : Hp}
theorem pe_wp : PE X e (wpX X e) := ⟨fun pins s σ H Q I h => h pins s I⟩
theorem pt_wp : PT X e (wpT X e) := ⟨fun pins s σ H Q I h => h pins s I⟩
theorem pa_wp : PA X es (wpA X es) := ⟨fun pos pins s σ H Q I h => h pos pins s I⟩
theorem ps_wp : PS X st (wpS X st) := ⟨fun pins s σ H D I h => h pins s I⟩
theorem pss_wp : PSs X sts (wpSs X sts) := ⟨fun pins s σ H D I h => h pins s I⟩
theorem wpX_of {t : TE} (h : PE X e t) {Q : VK} (q : t σ H Q) : wpX X e σ H Q := fun pins s I => h.run pins s σ H Q I q
theorem wpT_of {t : TT} (h : PT X e t) {Q : Bool → Hp → Prop} (q : t σ H Q) : wpT X e σ H Q := fun pins s I => h.run pins s σ H Q I q
theorem wpA_of {t : TA} (h : PA X es t) {Q : List V → Hp → Prop} (q : t σ H Q) : wpA X es σ H Q := fun pos pins s I => h.run pos pins s σ H Q I q
theorem wpS_of {t : TS} (h : PS X st t) {D : Ends} (q : t D σ H) : wpS X st D σ H := fun pins s I => h.run pins s σ H D I q
theorem wpSs_of {t : TS} (h : PSs X sts t) {D : Ends} (q : t D σ H) : wpSs X sts D σ H := fun pins s I => h.run pins s σ H D I q
/-- with the invariant at hand: a list is short -/
theorem wpX_monoI {Q Q' : VK} (h : wpX X e σ H Q) (k : ∀ v H', (∀ a xs, SqL X.K H' a xs ∨ SqT X.K H' a xs → xs.length ≤ sizeLine) → Q v H' → Q' v H') : wpX X e σ H Q' := fun pins s I => thn (h pins s I) fun _ _ ⟨v, H', I', r, q⟩ => ⟨v, H', I', r, k v H' (fun a xs hs => by
  rcases hs with hs | hs
  · obtain ⟨_, _, _, h⟩ := I'.list hs; exact h
  · obtain ⟨_, _, _, h⟩ := I'.tuple hs; exact h) q⟩
theorem wpX_mono {Q Q' : VK} (h : wpX X e σ H Q) (k : ∀ v H', Q v H' → Q' v H') : wpX X e σ H Q' := fun pins s I => thn (h pins s I) fun _ _ ⟨v, H', I', r, q⟩ => ⟨v, H', I', r, k v H' q⟩
theorem wpT_mono {Q Q' : Bool → Hp → Prop} (h : wpT X e σ H Q) (k : ∀ b H', Q b H' → Q' b H') : wpT X e σ H Q' := fun pins s I => thn (h pins s I) fun _ _ ⟨H', I', q⟩ => ⟨H', I', k _ H' q⟩
theorem wpA_mono {Q Q' : List V → Hp → Prop} (h : wpA X es σ H Q) (k : ∀ v H', Q v H' → Q' v H') : wpA X es σ H Q' := fun pos pins s I => thn (h pos pins s I) fun _ _ ⟨v, H', I', r, q⟩ => ⟨v, H', I', r, k v H' q⟩
end

/-! a frame within a frame -/
section
variable {K : PySem.W.Frag} {ci : Ci} {F : Fr K ci} {ρ : List Addr} {T : List (A × V)} {Γ : Ga} {S : So} {σ : L2.St} {H H' : Hp}
/-- from here on -/
def Fr.here (F : Fr K ci) (H : Hp) (ρ : List Addr) (S : So) : Fr K ci := ⟨H, ρ, mutA ρ S, F.ex⟩
theorem RelR.exT (r : RelR F ρ T Γ S σ H) {p : Addr} (h : p ∈ F.ex) : p ∉ mutA ρ S ∧ H p ≠ none := by
  refine ⟨fun z => r.dj z h, fun z => ?_⟩
  have := r.fo p h
  cases e : F.H p with
  | none => exact this.2 e
  | some u => rw [r.ext p u e this.1] at z; cases z
theorem RelR.here (r : RelR F ρ T Γ S σ H) : RelR (F.here H ρ S) ρ T Γ S σ H :=
  ⟨List.prefix_refl _, r.len, r.nd, r.st, r.gs, r.gl, r.tl, fun a o e _ => e, fun p hp => .inl hp, fun p hp => r.exT hp⟩
theorem RelR.there {ρ' : List Addr} {T' : List (A × V)} {Γ' : Ga} {S' : So} {σ' : L2.St} (r : RelR F ρ T Γ S σ H) (q : RelR (F.here H ρ S) ρ' T' Γ' S' σ' H') : RelR F ρ' T' Γ' S' σ' H' := by
  refine ⟨r.pre.trans q.pre, q.len, q.nd, q.st, q.gs, q.gl, q.tl, fun a o e n => ?_, fun p hp => ?_, r.fo⟩
  · refine q.ext a o (r.ext a o e n) fun hm => ?_
    rcases r.fr a hm with h | h
    · exact n h
    · rw [h] at e; cases e
  · rcases q.fr p hp with h | h
    · exact r.fr p h
    · by_cases hM : p ∈ F.M
      · exact .inl hM
      · exact .inr (r.back h hM)
/-- .. where something of ours is a thing of others: L -/
def Fr.hide (F : Fr K ci) (H : Hp) (ρ : List Addr) (S : So) (L : Addr) : Fr K ci := ⟨H, ρ, mutA ρ S, L :: F.ex⟩
theorem RelR.hideIn (r : RelR F ρ T Γ S σ H) {p : Addr} {o : HO} (hp : H p = none) : RelR (F.hide (upd H p o) ρ S p) ρ T Γ S σ (upd H p o) := by
  have hh : ∀ a u, H a = some u → a ∉ mu F ρ S → (upd H p o) a = some u ∧ a ∉ mu (F.hide (upd H p o) ρ S p) ρ S := fun a u e n => by
    have ne : a ≠ p := ne_of_none e hp
    refine ⟨by rw [upd_ne ne]; exact e, fun z => ?_⟩
    rcases List.mem_append.mp z with z | z
    · exact n (List.mem_append_left _ z)
    · rcases List.mem_cons.mp z with z | z
      · exact ne z
      · exact n (List.mem_append_right _ z)
  refine ⟨List.prefix_refl _, r.len, r.nd, fun k q u e1 e2 => (r.st k q u e1 e2).mono hh (List.prefix_refl _) fun hl => ?_, r.gs, fun i a e => ?_, fun q hq => (r.tl q hq).mono hh (List.prefix_refl _), fun a u e _ => e, fun q hq => .inl hq, fun q hq => ?_⟩
  · rw [upd_ne]
    intro z; subst z
    exact r.freshM hp (mutA_mem e1 e2 hl)
  · obtain ⟨v, e1, h⟩ := r.gl i a e
    exact ⟨v, e1, h.mono hh (List.prefix_refl _)⟩
  · rcases List.mem_cons.mp hq with rfl | hq
    · exact ⟨r.freshM hp, by show upd H q o q ≠ none; rw [upd_same]; intro z; cases z⟩
    · refine ⟨(r.exT hq).1, ?_⟩
      show upd H p o q ≠ none
      by_cases hqp : q = p
      · subst hqp; rw [upd_same]; intro z; cases z
      · rw [upd_ne hqp]; exact (r.exT hq).2
/-- a heap without p -/
def less (H : Hp) (p : Addr) : Hp := fun b => if b = p then none else H b
theorem less_same {p : Addr} : less H p p = none := by unfold less; rw [if_pos rfl]
theorem less_ne {p b : Addr} (h : b ≠ p) : less H p b = H b := by unfold less; rw [if_neg h]
theorem upd_less {p : Addr} {o : HO} : upd H p o = upd (less H p) p o := by
  funext b
  by_cases h : b = p
  · subst h; rw [upd_same, upd_same]
  · rw [upd_ne h, upd_ne h, less_ne h]
theorem RelR.hideOut (r : RelR F ρ T Γ S σ H) {p : Addr} {o : HO} (hp : H p = none) {ρ' : List Addr} {T' : List (A × V)} {Γ' : Ga} {S' : So} {σ' : L2.St} (q : RelR (F.hide (upd H p o) ρ S p) ρ' T' Γ' S' σ' H') :
    H' p = some o ∧ RelR F ρ' T' Γ' S' σ' (less H' p) := by
  have hm := r.freshM hp
  refine ⟨q.ext p o (by show upd H p o p = some o; exact upd_same) hm, ?_⟩
  have hpe : p ∈ (F.hide (upd H p o) ρ S p).ex := List.mem_cons_self
  have hh : ∀ a u, H' a = some u → a ∉ mu (F.hide (upd H p o) ρ S p) ρ' S' → less H' p a = some u ∧ a ∉ mu F ρ' S' := fun a u e n => by
    have ne : a ≠ p := fun z => n (List.mem_append_right _ (by rw [z]; exact hpe))
    refine ⟨by rw [less_ne ne]; exact e, fun z => n ?_⟩
    rcases List.mem_append.mp z with z | z
    · exact List.mem_append_left _ z
    · exact List.mem_append_right _ (List.mem_cons_of_mem _ z)
  refine ⟨r.pre.trans q.pre, q.len, q.nd, fun k b u e1 e2 => (q.st k b u e1 e2).mono hh (List.prefix_refl _) fun hl => ?_, q.gs, fun i a e => ?_, fun b hb => (q.tl b hb).mono hh (List.prefix_refl _), fun a u e n => ?_, fun b hb => ?_, r.fo⟩
  · rw [less_ne]
    intro z; subst z
    exact q.dj (mutA_mem e1 e2 hl) hpe
  · obtain ⟨v, e1, h⟩ := q.gl i a e
    exact ⟨v, e1, h.mono hh (List.prefix_refl _)⟩
  · have e1 := r.ext a u e n
    have ne : a ≠ p := ne_of_none e1 hp
    rw [less_ne ne]
    refine q.ext a u (by show upd H p o a = some u; rw [upd_ne ne]; exact e1) fun hmm => ?_
    rcases r.fr a hmm with h | h
    · exact n h
    · rw [h] at e; cases e
  · rcases q.fr b hb with h | h
    · exact r.fr b h
    · by_cases hM : b ∈ F.M
      · exact .inl hM
      · refine .inr (r.back ?_ hM)
        have h' : upd H p o b = none := h
        by_cases hb2 : b = p
        · subst hb2; exact hp
        · rw [upd_ne hb2] at h'; exact h'
/-- what the slots hold, as temporaries -/
theorem RelR.keep (r : RelR F ρ T Γ S σ H) : ∃ U : List (A × V), (∀ (i : Nat) (a : A), Γ[i]? = some (some a) → ∃ v, σ[i]? = some (some v) ∧ (a, v) ∈ U) ∧ RelR F ρ (U ++ T) Γ S σ H := by
  refine ⟨(Γ.zip σ).filterMap fun p => match p with | (some a, some v) => some (a, v) | _ => none, fun i a e => ?_, { r with tl := fun q hq => ?_ }⟩
  · obtain ⟨v, e1, _⟩ := r.gl i a e
    refine ⟨v, e1, List.mem_filterMap.mpr ⟨(some a, some v), ?_, rfl⟩⟩
    exact List.mem_of_getElem? (i := i) (by rw [List.getElem?_zip_eq_some]; exact ⟨e, e1⟩)
  · rcases List.mem_append.mp hq with hq | hq
    · obtain ⟨p, hp, e⟩ := List.mem_filterMap.mp hq
      obtain ⟨i, hi⟩ := List.mem_iff_getElem?.mp hp
      split at e
      · rename_i a v
        cases e
        rw [List.getElem?_zip_eq_some] at hi
        obtain ⟨w, e1, h⟩ := r.gl i a hi.1
        have e2 : σ[i]? = some (some v) := hi.2
        rw [e2] at e1
        cases e1
        exact h
      · cases e
    · exact r.tl q hq
theorem RelR.unkeep {ρ' : List Addr} {U T' : List (A × V)} {Γ' : Ga} {S' : So} {σ' : L2.St} (r : RelR F ρ' (U ++ T') Γ' S' σ' H') (hg : Γ.length = σ.length) (hU : ∀ (i : Nat) (a : A), Γ[i]? = some (some a) → ∃ v, σ[i]? = some (some v) ∧ (a, v) ∈ U) : RelR F ρ' T' Γ S' σ H' :=
  (r.slots hg fun i a e => let ⟨v, e1, h⟩ := hU i a e; ⟨v, e1, r.tl _ (List.mem_append_left _ h)⟩).drop fun q hq => List.mem_append_right _ hq
def wipeG (Γ : Ga) : List Nat → Ga
  | [] => Γ
  | v :: vs => (wipeG Γ vs).set v none
theorem wipeG_length (Γ : Ga) : ∀ vs : List Nat, (wipeG Γ vs).length = Γ.length
  | [] => rfl
  | v :: vs => by rw [wipeG, List.length_set, wipeG_length Γ vs]
theorem RelR.wipe (r : RelR F ρ T Γ S σ H) : ∀ vs : List Nat, RelR F ρ T (wipeG Γ vs) S (wipe σ vs) H
  | [] => r
  | v :: vs => by
    have q := RelR.wipe r vs
    refine q.slots (by rw [wipeG, L2.wipe, List.length_set, List.length_set, q.gs]) fun i a e => ?_
    rw [wipeG] at e
    by_cases hi : v = i
    · subst hi
      by_cases hl : v < (wipeG Γ vs).length
      · rw [List.getElem?_set_self hl] at e; cases e
      · rw [List.getElem?_eq_none (by simpa using hl)] at e; cases e
    · rw [List.getElem?_set_ne hi] at e
      obtain ⟨u, e1, h⟩ := q.gl i a e
      exact ⟨u, by rw [L2.wipe, List.getElem?_set_ne hi]; exact e1, h⟩
theorem wipe_set {σ : L2.St} {v : Option V} {i : Nat} : ∀ {vs : List Nat}, i ∈ vs → L2.wipe (σ.set i v) vs = L2.wipe σ vs
  | [], h => by cases h
  | w :: vs, h => by
    rw [L2.wipe, L2.wipe]
    by_cases hw : i ∈ vs
    · rw [wipe_set hw]
    · have : i = w := by
        rcases List.mem_cons.mp h with h | h
        · exact h
        · exact absurd h hw
      subst this
      have e : ∀ vs : List Nat, i ∉ vs → L2.wipe (σ.set i v) vs = (L2.wipe σ vs).set i v := by
        intro vs
        induction vs with
        | nil => intro _; rfl
        | cons u us ih =>
          intro hn
          rw [L2.wipe, L2.wipe, ih (fun z => hn (List.mem_cons_of_mem _ z)), List.set_comm _ _ (fun z => hn (by rw [z]; exact List.mem_cons_self))]
      rw [e vs hw, List.set_set]
theorem wipe_idem {σ : L2.St} : ∀ vs ws : List Nat, (∀ v ∈ ws, v ∈ vs) → L2.wipe (L2.wipe σ ws) vs = L2.wipe σ vs
  | vs, [], _ => rfl
  | vs, w :: ws, h => by
    rw [show L2.wipe σ (w :: ws) = (L2.wipe σ ws).set w none from rfl, wipe_set (h w List.mem_cons_self), wipe_idem vs ws fun v hv => h v (List.mem_cons_of_mem _ hv)]
end

end LP

namespace LP
open PySem PySem.Spec PyProof.Rows L2

section
variable {K : PySem.W.Frag} {ci : Ci} {F : Fr K ci} {T : List (A × V)} {Γ : Ga} {S : So} {σ : L2.St} {H : Hp}
theorem Rel.drop {T' : List (A × V)} (r : Rel F T Γ S σ H) (h : ∀ q ∈ T', q ∈ T) : Rel F T' Γ S σ H := let ⟨ρ, r⟩ := r; ⟨ρ, r.drop h⟩
theorem Rel.drop2 {T' U : List (A × V)} {q : A × V} (r : Rel F (q :: (U ++ T')) Γ S σ H) : Rel F (q :: T') Γ S σ H := r.drop fun x hx => by
  rcases List.mem_cons.mp hx with rfl | hx
  · exact List.mem_cons_self
  · exact List.mem_cons_of_mem _ (List.mem_append_right _ hx)
theorem Rel.tail {q : A × V} (r : Rel F (q :: T) Γ S σ H) : Rel F T Γ S σ H := r.drop fun x hx => List.mem_cons_of_mem _ hx
theorem Rel.alloc {p : Addr} {o : HO} (r : Rel F T Γ S σ H) (hp : H p = none) : Rel F T Γ S σ (upd H p o) := let ⟨ρ, r⟩ := r; ⟨ρ, r.alloc hp⟩
theorem Rel.pushS (r : Rel F T Γ S σ H) {d : D} {v : V} (h : ∀ M, Rep K ci M H d v) : Rel F ((.d d, v) :: T) Γ S σ H := let ⟨ρ, r⟩ := r; ⟨ρ, r.push (h _)⟩
theorem Rel.int (r : Rel F T Γ S σ H) (i : Int) : Rel F ((.d (.int i), .int i) :: T) Γ S σ H := r.pushS fun M => by rw [Rep]
theorem Rel.str (r : Rel F T Γ S σ H) (s : Str) : Rel F ((.d (.str s), .str s) :: T) Γ S σ H := r.pushS fun M => by rw [Rep]
theorem Rel.bl (r : Rel F T Γ S σ H) (b : Bool) : Rel F ((.d (.bl b), .bl b) :: T) Γ S σ H := r.pushS fun M => by rw [Rep]
theorem Rel.non (r : Rel F T Γ S σ H) : Rel F ((.d .non, .non) :: T) Γ S σ H := r.pushS fun M => by rw [Rep]
theorem Rel.asInt (r : Rel F T Γ S σ H) {i : Int} {v : V} (h : (A.d (.int i), v) ∈ T) : v = .int i := by
  obtain ⟨ρ, r⟩ := r; have := r.top h; rw [ARep, Rep] at this; exact this
theorem Rel.asStr (r : Rel F T Γ S σ H) {i : Str} {v : V} (h : (A.d (.str i), v) ∈ T) : v = .str i := by
  obtain ⟨ρ, r⟩ := r; have := r.top h; rw [ARep, Rep] at this; exact this
theorem Rel.asBl (r : Rel F T Γ S σ H) {i : Bool} {v : V} (h : (A.d (.bl i), v) ∈ T) : v = .bl i := by
  obtain ⟨ρ, r⟩ := r; have := r.top h; rw [ARep, Rep] at this; exact this
theorem Rel.asNon (r : Rel F T Γ S σ H) {v : V} (h : (A.d .non, v) ∈ T) : v = .non := by
  obtain ⟨ρ, r⟩ := r; have := r.top h; rw [ARep, Rep] at this; exact this
end

/-! what data a slot shows -/
def A.toD : A → Option D
  | .d x => some x
  | .loc _ => none
def dataOf : List A → Option (List D)
  | [] => some []
  | .d x :: r => (dataOf r).map (x :: ·)
  | .loc _ :: _ => none
theorem dataOf_map : ∀ l : List D, dataOf (l.map A.d) = some l
  | [] => rfl
  | x :: r => by rw [List.map_cons, dataOf, dataOf_map r]; rfl
theorem dataOf_eq : ∀ {as : List A} {l : List D}, dataOf as = some l → as = l.map A.d
  | [], l, h => by cases h; rfl
  | .d x :: r, l, h => by
    rw [dataOf] at h
    cases e : dataOf r with
    | none => rw [e] at h; cases h
    | some m => rw [e] at h; cases h; rw [List.map_cons, dataOf_eq e]
  | .loc _ :: _, l, h => by cases h
def viewL (S : So) : A → Option (List D)
  | .d (.lst l) => some l
  | .loc k => match S[k]? with
    | some (.lst as) => dataOf as
    | some (.frz (.lst l)) => some l
    | some (.scr l) => some l
    | _ => none
  | _ => none
def viewT : A → Option (List D)
  | .d (.tup l) => some l
  | _ => none
def viewQ (S : So) (a : A) : Option (List D) := match a with
  | .d (.tup l) => some l
  | a => viewL S a
section
variable {K : PySem.W.Frag} {ci : Ci} {F : Fr K ci} {ρ : List Addr} {T : List (A × V)} {Γ : Ga} {S : So} {σ : L2.St} {H : Hp} {a : A} {v : V} {l : List D}
theorem sq_rd {K : PySem.W.Frag} {M : List Addr} {p : Addr} {vs : List V} (h : H p = some (.lst vs) ∧ p ∉ M) : SqL K H p vs := .inl (.inl h.1)
theorem st_rd {K : PySem.W.Frag} {M : List Addr} {p : Addr} {vs : List V} (h : (Rd H p (.tup vs) ∧ p ∉ M) ∨ Tw K p vs) : SqT K H p vs := h.elim (fun h => .inl h.1) .inr
theorem RelR.viewL (r : RelR F ρ T Γ S σ H) (h : ARep K ci ρ (mu F ρ S) H a v) (e : viewL S a = some l) : ∃ p vs, v = .ref p ∧ SqL K H p vs ∧ Reps K ci (mu F ρ S) H l vs := by
  unfold LP.viewL at e
  split at e
  · cases e
    rw [ARep, Rep] at h
    obtain ⟨p, vs, e1, q, rs⟩ := h
    exact ⟨p, vs, e1, sq_rd q, rs⟩
  · rename_i k
    obtain ⟨p, hp, rfl⟩ := h
    split at e
    · rename_i as hs
      obtain ⟨vs, e1, q⟩ := r.st k p _ hp hs
      rw [dataOf_eq e] at q
      exact ⟨p, vs, rfl, SqL.of e1, q.data⟩
    · rename_i l' hs
      cases e
      have := r.st k p _ hp hs
      rw [MRep, Rep] at this
      obtain ⟨p', vs, e1, q, rs⟩ := this
      cases e1
      exact ⟨p, vs, rfl, sq_rd q, rs⟩
    · rename_i l' hs
      cases e
      obtain ⟨vs, q, rs⟩ := r.st k p _ hp hs
      exact ⟨p, vs, rfl, sql_iff.mpr (q.imp And.left id), rs⟩
    · cases e
  · cases e
theorem RelR.viewT (h : ARep K ci ρ (mu F ρ S) H a v) (e : viewT a = some l) : ∃ p vs, v = .ref p ∧ SqT K H p vs ∧ Reps K ci (mu F ρ S) H l vs := by
  unfold LP.viewT at e
  split at e
  · cases e
    rw [ARep, Rep] at h
    obtain ⟨p, vs, e1, q, rs⟩ := h
    exact ⟨p, vs, e1, st_rd q, rs⟩
  · cases e
theorem RelR.viewQ (r : RelR F ρ T Γ S σ H) (h : ARep K ci ρ (mu F ρ S) H a v) (e : viewQ S a = some l) : ∃ p vs, v = .ref p ∧ (SqL K H p vs ∨ SqT K H p vs) ∧ Reps K ci (mu F ρ S) H l vs := by
  unfold LP.viewQ at e
  split at e
  · cases e
    obtain ⟨p, vs, e1, q, rs⟩ := RelR.viewT (a := .d (.tup _)) h rfl
    exact ⟨p, vs, e1, .inr q, rs⟩
  · obtain ⟨p, vs, e1, q, rs⟩ := r.viewL h e
    exact ⟨p, vs, e1, .inl q, rs⟩
theorem RelR.newL (r : RelR F ρ T Γ S σ H) {p : Addr} {vs : List V} {ds : List D} (hp : H p = none) (q : Reps K ci (mu F ρ S) H ds vs) : RelR F ρ ((.d (.lst ds), .ref p) :: T) Γ S σ (upd H p (.lst vs)) := by
  refine (r.alloc hp).push ?_
  rw [ARep, Rep]
  refine ⟨p, vs, rfl, ⟨upd_same, r.fresh hp⟩, q.mono (fun a o e n => ⟨?_, n⟩)⟩
  rw [upd_ne (ne_of_none e hp)]
  exact e
theorem RelR.newT (r : RelR F ρ T Γ S σ H) {p : Addr} {vs : List V} {ds : List D} (hp : H p = none) (q : Reps K ci (mu F ρ S) H ds vs) : RelR F ρ ((.d (.tup ds), .ref p) :: T) Γ S σ (upd H p (.tup vs)) := by
  refine (r.alloc hp).push ?_
  rw [ARep, Rep]
  refine ⟨p, vs, rfl, .inl ⟨.inl upd_same, r.fresh hp⟩, q.mono (fun a o e n => ⟨?_, n⟩)⟩
  rw [upd_ne (ne_of_none e hp)]
  exact e
end

/-! pure expressions: f tells the slot's value that comes; nothing changes -/
abbrev QF := Ga → So → Option A
def RP (ci : Ci) (X : Cx) (e : Expr) (f : QF) : Prop := ∀ (F : Fr X.K ci) T Γ S σ H a, Rel F T Γ S σ H → f Γ S = some a → wpX X e σ H (fun v H' => Rel F ((a, v) :: T) Γ S σ H')
abbrev QFs := Ga → So → Option (List A)
def RPs (ci : Ci) (X : Cx) (es : List Expr) (f : QFs) : Prop := (∀ Γ S as, f Γ S = some as → as.length = es.length) ∧ ∀ (F : Fr X.K ci) T Γ S σ H as, Rel F T Γ S σ H → f Γ S = some as → wpA X es σ H (fun vs H' => as.length = vs.length ∧ Rel F ((as.zip vs) ++ T) Γ S σ H')
abbrev QB := Ga → So → Option Bool
def RB (ci : Ci) (X : Cx) (e : Expr) (f : QB) : Prop := ∀ (F : Fr X.K ci) T Γ S σ H b, Rel F T Γ S σ H → f Γ S = some b → wpT X e σ H (fun c H' => c = b ∧ Rel F T Γ S σ H')

def OpG (ci : Ci) (X : Cx) (fv : Value → Value → Sem Value) (g : So → A → A → Option D) : Prop :=
  ∃ r, OpR X fv r ∧ ∀ (F : Fr X.K ci) T Γ S σ H x y a b d, Rel F T Γ S σ H → (a, x) ∈ T → (b, y) ∈ T → g S a b = some d → ∀ Q : VK, (∀ v H', Rel F ((.d d, v) :: T) Γ S σ H' → Q v H') → r x y H Q
def CallG (ci : Ci) (X : Cx) (f : Value) (g : So → List A → Option D) : Prop :=
  ∃ r, CallR X f r ∧ ∀ (F : Fr X.K ci) T Γ S σ H as vs d, Rel F T Γ S σ H → as.length = vs.length → (∀ q ∈ as.zip vs, q ∈ T) → g S as = some d → ∀ Q : VK, (∀ v H', Rel F ((.d d, v) :: T) Γ S σ H' → Q v H') → r vs H Q
def MetG (ci : Ci) (X : Cx) (id : String) (g : So → D → List A → Option D) : Prop :=
  ∃ r, MtR X id r ∧ ∀ (F : Fr X.K ci) T Γ S σ H a v as vs d, Rel F T Γ S σ H → (A.d a, v) ∈ T → as.length = vs.length → (∀ q ∈ as.zip vs, q ∈ T) → g S a as = some d → ∀ Q : VK, (∀ v H', Rel F ((.d d, v) :: T) Γ S σ H' → Q v H') → r v vs H Q

def fV (i : Nat) : QF := fun Γ _ => match Γ[i]? with | some (some a) => some a | _ => none
def fC (d : D) : QF := fun _ _ => some (.d d)
def fOp (g : So → A → A → Option D) (fa fb : QF) : QF := fun Γ S => (fa Γ S).bind fun x => (fb Γ S).bind fun y => (g S x y).map A.d
def fNil : QFs := fun _ _ => some []
def fCons (f : QF) (fs : QFs) : QFs := fun Γ S => (f Γ S).bind fun x => (fs Γ S).map (x :: ·)
def fCall (g : So → List A → Option D) (fs : QFs) : QF := fun Γ S => (fs Γ S).bind fun as => (g S as).map A.d
def fTup (fs : QFs) : QF := fun Γ S => (fs Γ S).bind fun as => (dataOf as).map fun l => .d (.tup l)
def fLst (fs : QFs) : QF := fun Γ S => (fs Γ S).bind fun as => (dataOf as).map fun l => .d (.lst l)
def fIf (b : QB) (f g : QF) : QF := fun Γ S => (b Γ S).bind fun c => if c = true then f Γ S else g Γ S
def bV (f : QF) : QB := fun Γ S => (f Γ S).bind fun a => match a with | .d (.bl b) => some b | _ => none
def bNot (f : QB) : QB := fun Γ S => (f Γ S).map (!·)
def bAnd (f g : QB) : QB := fun Γ S => (f Γ S).bind fun c => if c = true then g Γ S else some false
def bOr (f g : QB) : QB := fun Γ S => (f Γ S).bind fun c => if c = true then some true else g Γ S
def fB (f : QB) : QF := fun Γ S => (f Γ S).map fun b => .d (.bl b)

theorem op_some {g : So → A → A → Option D} {fa fb : QF} {Γ : Ga} {S : So} {a : A} (h : fOp g fa fb Γ S = some a) : ∃ x y d, fa Γ S = some x ∧ fb Γ S = some y ∧ g S x y = some d ∧ a = .d d := by
  unfold fOp at h
  cases e1 : fa Γ S with
  | none => rw [e1] at h; cases h
  | some x =>
    cases e2 : fb Γ S with
    | none => rw [e1, e2] at h; cases h
    | some y =>
      rw [e1, e2] at h
      cases e3 : g S x y with
      | none => rw [Option.bind_some, Option.bind_some, e3] at h; cases h
      | some d => rw [Option.bind_some, Option.bind_some, e3] at h; cases h; exact ⟨x, y, d, rfl, rfl, e3, rfl⟩

section
variable {ci : Ci} {X : Cx}
theorem RP.imp {e : Expr} {f f' : QF} (h : RP ci X e f) (k : ∀ Γ S a, f' Γ S = some a → f Γ S = some a) : RP ci X e f' := fun F T Γ S σ H a r q => h F T Γ S σ H a r (k _ _ _ q)
theorem gl_of {X : Cx} {x : Str} (h : X.env.kindOf x = some .globalImplicit) : Gl X x := h
def locB (sc : Scope) (x : Str) : Bool := match sc.names.lookup x with | some .local => true | some .cell => true | _ => false
theorem loc_of {sc : Scope} {x : Str} (h : locB sc x = true) : Loc sc x := by
  unfold locB at h
  split at h
  · exact .inl (by assumption)
  · exact .inr (by assumption)
  · cases h
def visB (sc : Scope) (x : Str) : Bool := match sc.names.lookup x with | some .local => true | some .cell => true | some .free => true | _ => false
theorem vis_of {sc : Scope} {x : Str} (h : visB sc x = true) : Vis sc x := by
  unfold visB at h
  split at h
  · exact .inl (by assumption)
  · exact .inr (.inl (by assumption))
  · exact .inr (.inr (by assumption))
  · cases h
def fnB (b : Bool) (sc : Scope) (x : Str) : Bool := b || (match sc.names.lookup x with | some .local => true | _ => false)
theorem fn_of {b : Bool} {sc : Scope} {x : Str} (h : fnB b sc x = true) : b = true ∨ sc.names.lookup x = some .local := by
  unfold fnB at h
  rcases Bool.or_eq_true_iff.mp h with h | h
  · exact .inl h
  · split at h
    · exact .inr (by assumption)
    · cases h
theorem rp_v (i : Nat) {x : Str} {pos : Pos} (hN : X.N[i]? = some x := by rfl) (hv : Vis X.env.scope x := by exact vis_of (by kernel_rfl)) (hd : (x == ("__debug__" : Str)) = false := by decide +kernel)
    (hcd : (x == ("__classdict__" : Str)) = false := by decide +kernel) : RP ci X (.Name x pos) (fV i) := fun F T Γ S σ H a r q => by
  unfold fV at q
  split at q
  · rename_i b e
    cases q
    obtain ⟨ρ, r⟩ := r
    obtain ⟨v, e1, h⟩ := r.gl i a e
    exact wpX_of (pe_var hN hv hd hcd) ⟨v, e1, ρ, r.push h⟩
  · cases q
theorem rp_int {i j pos} : RP ci X (.Constant (.int i) j pos) (fC (.int i)) := fun F T Γ S σ H a r q => by
  cases q; exact wpX_of pe_int (r.int i)
theorem rp_str {i j pos} : RP ci X (.Constant (.str i) j pos) (fC (.str i)) := fun F T Γ S σ H a r q => by
  cases q; exact wpX_of pe_str (r.str i)
theorem rp_bl {i j pos} : RP ci X (.Constant (.bool i) j pos) (fC (.bl i)) := fun F T Γ S σ H a r q => by
  cases q; exact wpX_of pe_bl (r.bl i)
theorem rp_non {j pos} : RP ci X (.Constant .none j pos) (fC .non) := fun F T Γ S σ H a r q => by
  cases q; exact wpX_of pe_non r.non
theorem rp_gint {x : Str} {i : Int} {pos : Pos} (hg : Gl X x) (hm : ∃ t, X.mg x = some (.int i t)) (hd : (x == ("__debug__" : Str)) = false := by decide +kernel) : RP ci X (.Name x pos) (fC (.int i)) := fun F T Γ S σ H a r q => by
  cases q
  obtain ⟨t, hm⟩ := hm
  exact wpX_of (pe_glob hg hm (show RelV (.int i) _ from ⟨t, rfl⟩) hd) (r.int i)
theorem rp_gstr {x : Str} {i : Str} {pos : Pos} (hg : Gl X x) (hm : ∃ t, X.mg x = some (.str i t)) (hd : (x == ("__debug__" : Str)) = false := by decide +kernel) : RP ci X (.Name x pos) (fC (.str i)) := fun F T Γ S σ H a r q => by
  cases q
  obtain ⟨t, hm⟩ := hm
  exact wpX_of (pe_glob hg hm (show RelV (.str i) _ from ⟨t, rfl⟩) hd) (r.str i)
/-- two expressions in a row -/
theorem two {a b : Expr} {fa fb : QF} (ha : RP ci X a fa) (hb : RP ci X b fb) {F : Fr X.K ci} {T : List (A × V)} {Γ : Ga} {S : So} {σ : L2.St} {H : Hp} {x y : A} (r : Rel F T Γ S σ H) (e1 : fa Γ S = some x) (e2 : fb Γ S = some y) :
    wpX X a σ H fun v H1 => wpX X b σ H1 fun u H2 => Rel F ((y, u) :: (x, v) :: T) Γ S σ H2 :=
  wpX_mono (ha F T Γ S σ H x r e1) fun v H1 r1 => hb F _ Γ S σ H1 y r1 e2
theorem drop3 {q a b : A × V} {T : List (A × V)} : ∀ x ∈ q :: T, x ∈ q :: a :: b :: T := fun x hx => by
  rcases List.mem_cons.mp hx with rfl | hx
  · exact List.mem_cons_self
  · exact List.mem_cons_of_mem _ (List.mem_cons_of_mem _ (List.mem_cons_of_mem _ hx))
theorem drop2 {q a : A × V} {T : List (A × V)} : ∀ x ∈ q :: T, x ∈ q :: a :: T := fun x hx => by
  rcases List.mem_cons.mp hx with rfl | hx
  · exact List.mem_cons_self
  · exact List.mem_cons_of_mem _ (List.mem_cons_of_mem _ hx)
/-- behind both: the operation -/
theorem opEnd {fv : Value → Value → Sem Value} {g : So → A → A → Option D} (hk : ∃ r, OpR X fv r ∧ ∀ (F : Fr X.K ci) T Γ S σ H x y a b d, Rel F T Γ S σ H → (a, x) ∈ T → (b, y) ∈ T → g S a b = some d → ∀ Q : VK, (∀ v H', Rel F ((.d d, v) :: T) Γ S σ H' → Q v H') → r x y H Q) : OpG ci X fv g := hk
theorem rp_op {op : Operator} {a b : Expr} {pos : Pos} {g : So → A → A → Option D} {fa fb : QF} (ho : OpG ci X (binaryOp op) g) (ha : RP ci X a fa) (hb : RP ci X b fb) : RP ci X (.BinOp a op b pos) (fOp g fa fb) := fun F T Γ S σ H z r q => by
  obtain ⟨x, y, d, e1, e2, e3, rfl⟩ := op_some q
  obtain ⟨rr, hr, hk⟩ := ho
  refine wpX_of (pe_op hr pe_wp pe_wp) (wpX_mono (two ha hb r e1 e2) fun v H1 h1 => wpX_mono h1 fun u H2 h2 => ?_)
  exact hk F _ Γ S σ H2 v u x y d h2 (by simp) (by simp) e3 _ fun w H3 h3 => h3.drop drop3
theorem rp_cmp {op : CmpOp} {a b : Expr} {pos : Pos} {g : So → A → A → Option D} {fa fb : QF} (ho : OpG ci X (compareOp op) g) (ha : RP ci X a fa) (hb : RP ci X b fb) (hm : behindInMarks op b = false) : RP ci X (.Compare a [op] [b] pos) (fOp g fa fb) := fun F T Γ S σ H z r q => by
  obtain ⟨x, y, d, e1, e2, e3, rfl⟩ := op_some q
  obtain ⟨rr, hr, hk⟩ := ho
  refine wpX_of (pe_cmpR hr pe_wp pe_wp hm) (wpX_mono (two ha hb r e1 e2) fun v H1 h1 => wpX_mono h1 fun u H2 h2 => ?_)
  exact hk F _ Γ S σ H2 v u x y d h2 (by simp) (by simp) e3 _ fun w H3 h3 => h3.drop drop3
theorem bv_some {f : QF} {Γ : Ga} {S : So} {b : Bool} (h : bV f Γ S = some b) : f Γ S = some (.d (.bl b)) := by
  unfold bV at h
  cases e : f Γ S with
  | none => rw [e] at h; cases h
  | some a =>
    rw [e, Option.bind_some] at h
    split at h
    · cases h; rfl
    · cases h
/-- a comparison as a test -/
theorem rb_cmp {op : CmpOp} {a b : Expr} {pos : Pos} {g : So → A → A → Option D} {fa fb : QF} (ho : OpG ci X (compareOp op) g) (ha : RP ci X a fa) (hb : RP ci X b fb) (hm : behindInMarks op b = false) : RB ci X (.Compare a [op] [b] pos) (bV (fOp g fa fb)) := fun F T Γ S σ H z r q => by
  obtain ⟨x, y, d, e1, e2, e3, e4⟩ := op_some (bv_some q)
  cases e4
  obtain ⟨rr, hr, hk⟩ := ho
  refine wpT_of (pt_cmpR hr pe_wp pe_wp hm) (wpX_mono (two ha hb r e1 e2) fun v H1 h1 => wpX_mono h1 fun u H2 h2 => ?_)
  refine hk F _ Γ S σ H2 v u x y _ h2 (by simp) (by simp) e3 _ fun w H3 h3 => ?_
  exact ⟨z, h3.asBl List.mem_cons_self, rfl, h3.drop fun q hq => by simp [hq]⟩
theorem rb_v {e : Expr} {f : QF} (h : RP ci X e f) (he : ∀ whole, isTrue e X.env whole = (do let v ← whole; standAt e.pos; holding [v] (truthy v)) := by intro _; rfl) : RB ci X e (bV f) := fun F T Γ S σ H b r q => by
  refine wpT_of (pt_val pe_wp he) (wpX_mono (h F T Γ S σ H _ r (bv_some q)) fun v H' h' => ?_)
  exact ⟨b, h'.asBl List.mem_cons_self, rfl, h'.tail⟩
theorem rb_not {a : Expr} {f : QB} {pos : Pos} (h : RB ci X a f) : RB ci X (.UnaryOp .Not a pos) (bNot f) := fun F T Γ S σ H b r q => by
  unfold bNot at q
  cases e : f Γ S with
  | none => rw [e] at q; cases q
  | some c =>
    rw [e] at q
    refine wpT_of (pt_not pt_wp) (wpT_mono (h F T Γ S σ H c r e) fun v H' h' => ?_)
    obtain ⟨rfl, h'⟩ := h'
    exact ⟨Option.some.inj q, h'⟩
def wpW (X : Cx) (e : Expr) : TT := fun σ H Q => ∀ (whole : Sem Value) (pins : List (Addr × Obj)) (s : Shared), Inv X pins σ H s → wpAny (model X.prog X.w) X.A (isTrue e X.env whole) (TP X pins σ Q) X.xe s
theorem pw_wp {e : Expr} : PW X e (wpW X e) := ⟨fun whole pins s σ H Q I h => h whole pins s I⟩
theorem wpW_of {e : Expr} {t : TT} {σ : L2.St} {H : Hp} (h : PW X e t) {Q : Bool → Hp → Prop} (q : t σ H Q) : wpW X e σ H Q := fun whole pins s I => h.run whole pins s σ H Q I q
theorem wpW_mono {e : Expr} {σ : L2.St} {H : Hp} {Q Q' : Bool → Hp → Prop} (h : wpW X e σ H Q) (k : ∀ b H', Q b H' → Q' b H') : wpW X e σ H Q' := fun wh pins s I => thn (h wh pins s I) fun _ _ ⟨H', I', q⟩ => ⟨H', I', k _ H' q⟩
/-- a chain of and, or -/
def RW (ci : Ci) (X : Cx) (e : Expr) (f : QB) : Prop := ∀ (F : Fr X.K ci) T Γ S σ H b, Rel F T Γ S σ H → f Γ S = some b → wpW X e σ H (fun c H' => c = b ∧ Rel F T Γ S σ H')
theorem rw_and1 {a : Expr} {f : QB} {pos : Pos} (h : RB ci X a f) : RW ci X (.BoolOp .And [a] pos) f := fun F T Γ S σ H b r q => wpW_of (pw_and1 pt_wp) (h F T Γ S σ H b r q)
theorem rw_or1 {a : Expr} {f : QB} {pos : Pos} (h : RB ci X a f) : RW ci X (.BoolOp .Or [a] pos) f := fun F T Γ S σ H b r q => wpW_of (pw_or1 pt_wp) (h F T Γ S σ H b r q)
theorem rw_and {a b : Expr} {rest : List Expr} {f g : QB} {pos : Pos} (h : RB ci X a f) (h2 : RW ci X (.BoolOp .And (b :: rest) pos) g) : RW ci X (.BoolOp .And (a :: b :: rest) pos) (bAnd f g) := fun F T Γ S σ H c r q => by
  unfold bAnd at q
  cases e : f Γ S with
  | none => rw [e] at q; cases q
  | some d =>
    rw [e, Option.bind_some] at q
    refine wpW_of (pw_and pt_wp pw_wp) (wpT_mono (h F T Γ S σ H d r e) fun v H' h' => ?_)
    obtain ⟨rfl, h'⟩ := h'
    cases v with
    | true => exact iteT (h2 F T Γ S σ H' c h' q)
    | false => cases q; exact iteF ⟨rfl, h'⟩
theorem rw_or {a b : Expr} {rest : List Expr} {f g : QB} {pos : Pos} (h : RB ci X a f) (h2 : RW ci X (.BoolOp .Or (b :: rest) pos) g) : RW ci X (.BoolOp .Or (a :: b :: rest) pos) (bOr f g) := fun F T Γ S σ H c r q => by
  unfold bOr at q
  cases e : f Γ S with
  | none => rw [e] at q; cases q
  | some d =>
    rw [e, Option.bind_some] at q
    refine wpW_of (pw_or pt_wp pw_wp) (wpT_mono (h F T Γ S σ H d r e) fun v H' h' => ?_)
    obtain ⟨rfl, h'⟩ := h'
    cases v with
    | true => cases q; exact iteT ⟨rfl, h'⟩
    | false => exact iteF (h2 F T Γ S σ H' c h' q)
theorem rb_w {e : Expr} {f : QB} (h : RW ci X e f) : RB ci X e f := fun F T Γ S σ H b r q => wpT_of pw_wp.pt (h F T Γ S σ H b r q)
/-- and, or, not as values that are True or False -/
def fAnd (f g : QF) : QF := fun Γ S => (bV f Γ S).bind fun c => if c = true then g Γ S else some (.d (.bl false))
def fOr (f g : QF) : QF := fun Γ S => (bV f Γ S).bind fun c => if c = true then some (.d (.bl true)) else g Γ S
def fNot (f : QF) : QF := fun Γ S => (bV f Γ S).map fun c => .d (.bl (!c))
theorem rp_one {op : BoolOp} {a : Expr} {f : QF} {pos : Pos} (h : RP ci X a f) : RP ci X (.BoolOp op [a] pos) f := fun F T Γ S σ H z r q => wpX_of (L2.pe_one pe_wp) (h F T Γ S σ H z r q)
theorem rp_and {a b : Expr} {rest : List Expr} {f g : QF} {pos : Pos} (h : RP ci X a f) (h2 : RP ci X (.BoolOp .And (b :: rest) pos) g) : RP ci X (.BoolOp .And (a :: b :: rest) pos) (fAnd f g) := fun F T Γ S σ H z r q => by
  unfold fAnd at q
  cases e : bV f Γ S with
  | none => rw [e] at q; cases q
  | some d =>
    rw [e, Option.bind_some] at q
    refine wpX_of (L2.pe_and pe_wp pe_wp) (wpX_mono (h F T Γ S σ H _ r (bv_some e)) fun v H' h' => ⟨d, h'.asBl List.mem_cons_self, ?_⟩)
    cases d with
    | true => exact iteT (h2 F T Γ S σ H' z h'.tail q)
    | false => cases q; exact iteF (h'.tail.bl false)
theorem rp_or {a b : Expr} {rest : List Expr} {f g : QF} {pos : Pos} (h : RP ci X a f) (h2 : RP ci X (.BoolOp .Or (b :: rest) pos) g) : RP ci X (.BoolOp .Or (a :: b :: rest) pos) (fOr f g) := fun F T Γ S σ H z r q => by
  unfold fOr at q
  cases e : bV f Γ S with
  | none => rw [e] at q; cases q
  | some d =>
    rw [e, Option.bind_some] at q
    refine wpX_of (L2.pe_or pe_wp pe_wp) (wpX_mono (h F T Γ S σ H _ r (bv_some e)) fun v H' h' => ⟨d, h'.asBl List.mem_cons_self, ?_⟩)
    cases d with
    | true => cases q; exact iteT (h'.tail.bl true)
    | false => exact iteF (h2 F T Γ S σ H' z h'.tail q)
theorem rp_not {a : Expr} {f : QF} {pos : Pos} (h : RP ci X a f) : RP ci X (.UnaryOp .Not a pos) (fNot f) := fun F T Γ S σ H z r q => by
  unfold fNot at q
  cases e : bV f Γ S with
  | none => rw [e] at q; cases q
  | some d =>
    rw [e] at q
    cases q
    exact wpX_of (L2.pe_not pe_wp) (wpX_mono (h F T Γ S σ H _ r (bv_some e)) fun v H' h' => ⟨d, h'.asBl List.mem_cons_self, h'.tail.bl _⟩)
theorem rp_ife {c a b : Expr} {fc : QB} {fa fb : QF} {pos : Pos} (hc : RB ci X c fc) (ha : RP ci X a fa) (hb : RP ci X b fb) : RP ci X (.IfExp c a b pos) (fIf fc fa fb) := fun F T Γ S σ H z r q => by
  unfold fIf at q
  cases e : fc Γ S with
  | none => rw [e] at q; cases q
  | some d =>
    rw [e, Option.bind_some] at q
    refine wpX_of (pe_ifExp pt_wp pe_wp pe_wp) (wpT_mono (hc F T Γ S σ H d r e) fun v H' h' => ?_)
    obtain ⟨rfl, h'⟩ := h'
    cases v with
    | true => exact iteT (ha F T Γ S σ H' z h' q)
    | false => exact iteF (hb F T Γ S σ H' z h' q)
def fNeg (f : QF) : QF := fun Γ S => (f Γ S).bind fun a => match a with | .d (.int i) => some (.d (.int (-i))) | _ => none
theorem rp_neg {a : Expr} {f : QF} {pos : Pos} (h : RP ci X a f) : RP ci X (.UnaryOp .USub a pos) (fNeg f) := fun F T Γ S σ H z r q => by
  unfold fNeg at q
  cases e : f Γ S with
  | none => rw [e] at q; cases q
  | some d =>
    rw [e, Option.bind_some] at q
    split at q
    · rename_i i
      cases q
      exact wpX_of (pe_un un_neg pe_wp) (wpX_mono (h F T Γ S σ H _ r e) fun v H' h' => ⟨i, h'.asInt List.mem_cons_self, h'.tail.int _⟩)
    · cases q

/-! argument lists, displays, calls of built-ins -/
theorem cons_some {f : QF} {fs : QFs} {Γ : Ga} {S : So} {as : List A} (h : fCons f fs Γ S = some as) : ∃ a r, f Γ S = some a ∧ fs Γ S = some r ∧ as = a :: r := by
  unfold fCons at h
  cases e1 : f Γ S with
  | none => rw [e1] at h; cases h
  | some a =>
    rw [e1, Option.bind_some] at h
    cases e2 : fs Γ S with
    | none => rw [e2] at h; cases h
    | some r => rw [e2] at h; cases h; exact ⟨a, r, rfl, rfl, rfl⟩
theorem rps_nil : RPs ci X [] fNil := ⟨fun Γ S as q => by cases q; rfl, fun F T Γ S σ H as r q => by
  cases q
  exact wpA_of pa_nil ⟨rfl, r⟩⟩
theorem rps_cons {e : Expr} {es : List Expr} {f : QF} {fs : QFs} (h : RP ci X e f) (hs : RPs ci X es fs) (hst : starEach (e :: es) X.env = (false, eval e X.env) :: starEach es X.env := by kernel_rfl) : RPs ci X (e :: es) (fCons f fs) := by
  refine ⟨fun Γ S as q => ?_, fun F T Γ S σ H as r q => ?_⟩
  · obtain ⟨a, as', e1, e2, rfl⟩ := cons_some q
    rw [List.length_cons, List.length_cons, hs.1 Γ S as' e2]
  · obtain ⟨a, as', e1, e2, rfl⟩ := cons_some q
    refine wpA_of (pa_cons pe_wp pa_wp hst) (wpX_mono (h F T Γ S σ H _ r e1) fun v H' h' => wpA_mono (hs.2 F _ Γ S σ H' _ h' e2) fun vs H2 h2 => ?_)
    obtain ⟨hl, h2⟩ := h2
    refine ⟨by simp [hl], h2.drop fun x hx => ?_⟩
    rw [List.zip_cons_cons] at hx
    simp only [List.cons_append, List.mem_cons, List.mem_append] at hx ⊢
    rcases hx with hx | hx | hx <;> simp [hx]
theorem reps_of {K : PySem.W.Frag} {F : Fr K ci} {ρ : List Addr} {T : List (A × V)} {Γ : Ga} {S : So} {σ : L2.St} {H : Hp} (r : RelR F ρ T Γ S σ H) : ∀ {l : List D} {vs : List V}, l.length = vs.length → (∀ q ∈ (l.map A.d).zip vs, q ∈ T) → Reps K ci (mu F ρ S) H l vs
  | [], [], _, _ => .nil
  | [], _ :: _, h, _ => by cases h
  | _ :: _, [], h, _ => by cases h
  | d :: l, v :: vs, h, k => by
    have := r.tl _ (k (.d d, v) (by simp))
    exact .cons this (reps_of r (by simpa using h) fun q hq => k q (by rw [List.map_cons, List.zip_cons_cons]; exact List.mem_cons_of_mem _ hq))
theorem bind_data {f : QFs} {Γ : Ga} {S : So} {a : A} {k : List D → A} (h : ((f Γ S).bind fun as => (dataOf as).map k) = some a) : ∃ l, f Γ S = some (l.map A.d) ∧ a = k l := by
  cases e1 : f Γ S with
  | none => rw [e1] at h; cases h
  | some as =>
    rw [e1, Option.bind_some] at h
    cases e2 : dataOf as with
    | none => rw [e2] at h; cases h
    | some l => rw [e2] at h; cases h; rw [dataOf_eq e2]; exact ⟨l, rfl, rfl⟩
theorem small_len {n m : Nat} (h : n = m) (hl : Nat.ble m 1000 = true) : n ≤ sizeLine := by
  rw [h]
  exact Nat.le_trans (Nat.le_of_ble_eq_true hl) (by decide)
theorem rp_tup {es : List Expr} {fs : QFs} {x1 : Nat} {pos : Pos} (h : RPs ci X es fs) (hl : Nat.ble es.length 1000 = true := by kernel_rfl) : RP ci X (.Tuple es x1 pos) (fTup fs) := fun F T Γ S σ H a r q => by
  obtain ⟨l, e1, rfl⟩ := bind_data q
  refine wpX_of (pe_tup pa_wp) (wpA_mono (h.2 F T Γ S σ H _ r e1) fun vs H' h' => ?_)
  obtain ⟨hz, ρ, h'⟩ := h'
  have hz' : l.length = vs.length := by rw [← hz, List.length_map]
  refine ⟨small_len (hz.symm.trans (h.1 _ _ _ e1)) hl, fun p hp => ?_⟩
  have R := reps_of h' hz' fun q hq => List.mem_append_left _ hq
  exact ⟨ρ, (h'.newT hp R).drop fun q hq => by
    rcases List.mem_cons.mp hq with rfl | hq
    · exact List.mem_cons_self
    · exact List.mem_cons_of_mem _ (List.mem_append_right _ hq)⟩
theorem rp_lst {es : List Expr} {fs : QFs} {pos : Pos} (h : RPs ci X es fs) (hl : Nat.ble es.length 1000 = true := by kernel_rfl) : RP ci X (.List es pos) (fLst fs) := fun F T Γ S σ H a r q => by
  obtain ⟨l, e1, rfl⟩ := bind_data q
  refine wpX_of (pe_lst pa_wp) (wpA_mono (h.2 F T Γ S σ H _ r e1) fun vs H' h' => ?_)
  obtain ⟨hz, ρ, h'⟩ := h'
  have hz' : l.length = vs.length := by rw [← hz, List.length_map]
  refine ⟨small_len (hz.symm.trans (h.1 _ _ _ e1)) hl, fun p hp => ?_⟩
  have R := reps_of h' hz' fun q hq => List.mem_append_left _ hq
  exact ⟨ρ, (h'.newL hp R).drop fun q hq => by
    rcases List.mem_cons.mp hq with rfl | hq
    · exact List.mem_cons_self
    · exact List.mem_cons_of_mem _ (List.mem_append_right _ hq)⟩
theorem call_some {g : So → List A → Option D} {fs : QFs} {Γ : Ga} {S : So} {a : A} (h : fCall g fs Γ S = some a) : ∃ as d, fs Γ S = some as ∧ g S as = some d ∧ a = .d d := by
  unfold fCall at h
  cases e1 : fs Γ S with
  | none => rw [e1] at h; cases h
  | some as =>
    rw [e1, Option.bind_some] at h
    cases e2 : g S as with
    | none => rw [e2] at h; cases h
    | some d => rw [e2] at h; cases h; exact ⟨as, d, rfl, e2, rfl⟩
theorem dropA {q : A × V} {U T : List (A × V)} : ∀ x ∈ q :: T, x ∈ q :: (U ++ T) := fun x hx => by
  rcases List.mem_cons.mp hx with rfl | hx
  · exact List.mem_cons_self
  · exact List.mem_cons_of_mem _ (List.mem_append_right _ hx)
theorem rp_callB {id : String} {x : Str} {p pos : Pos} {e : Expr} {es : List Expr} {g : So → List A → Option D} {fs : QFs} (hc : CallG ci X (.builtin id) g) (hg : Gl X x) (hm : X.mg x = none) (hv : bootBuiltins x = some (.builtin id)) (ha : RPs ci X (e :: es) fs) (hn : x ≠ "__name__" := by decide +kernel) (hdb : (x == ("__debug__" : Str)) = false := by decide +kernel)
    (he : starEach (e :: es) X.env = (false, eval e X.env) :: starEach es X.env := by rfl) (hpl : (backTo pos (starEach es X.env)).any (·.1) = false := by kernel_rfl) : RP ci X (.Call (.Name x p) (e :: es) [] pos) (fCall g fs) := fun F T Γ S σ H a r q => by
  obtain ⟨as, d, e1, e2, rfl⟩ := call_some q
  obtain ⟨rr, hr, hk⟩ := hc
  refine wpX_of (pe_callB hr hg hm hv pa_wp hn hdb he hpl) (wpA_mono (ha.2 F T Γ S σ H _ r e1) fun vs H' h' => ?_)
  obtain ⟨hz, h'⟩ := h'
  exact hk F _ Γ S σ H' as vs d h' hz (fun q hq => List.mem_append_left _ hq) e2 _ fun v H2 h2 => h2.drop dropA
theorem rp_callTy {id : String} {x : Str} {p pos : Pos} {e : Expr} {es : List Expr} {g : So → List A → Option D} {fs : QFs} (hc : CallG ci X (.type id) g) (hg : Gl X x) (hm : X.mg x = none) (hv : bootBuiltins x = some (.type id)) (ha : RPs ci X (e :: es) fs) (hn : x ≠ "__name__" := by decide +kernel) (hdb : (x == ("__debug__" : Str)) = false := by decide +kernel)
    (he : starEach (e :: es) X.env = (false, eval e X.env) :: starEach es X.env := by rfl) (hpl : (backTo pos (starEach es X.env)).any (·.1) = false := by kernel_rfl) : RP ci X (.Call (.Name x p) (e :: es) [] pos) (fCall g fs) := fun F T Γ S σ H a r q => by
  obtain ⟨as, d, e1, e2, rfl⟩ := call_some q
  obtain ⟨rr, hr, hk⟩ := hc
  refine wpX_of (pe_callTy hr hg hm hv pa_wp hn hdb he hpl) (wpA_mono (ha.2 F T Γ S σ H _ r e1) fun vs H' h' => ?_)
  obtain ⟨hz, h'⟩ := h'
  exact hk F _ Γ S σ H' as vs d h' hz (fun q hq => List.mem_append_left _ hq) e2 _ fun v H2 h2 => h2.drop dropA
end

/-! operators on values -/
section
variable {ci : Ci} {X : Cx}
def gAdd (_ : So) : A → A → Option D
  | .d (.int i), .d (.int j) => some (.int (i + j))
  | .d (.str s), .d (.str t) => if s.length + t.length ≤ sizeLine then some (.str (s ++ t)) else none
  | _, _ => none
theorem o_add : OpG ci X (binaryOp .Add) gAdd := ⟨_, op_add.or op_add_str, fun F T Γ S σ H x y a b d r hx hy e Q k => by
  unfold gAdd at e
  split at e
  · cases e; exact .inl ⟨_, _, r.asInt hx, r.asInt hy, k _ _ (r.int _)⟩
  · split at e
    · rename_i hl
      cases e; exact .inr ⟨_, _, r.asStr hx, r.asStr hy, hl, k _ _ (r.str _)⟩
    · cases e
  · cases e⟩
def gI (p : Int → Int → Bool) (f : Int → Int → D) (_ : So) : A → A → Option D
  | .d (.int i), .d (.int j) => if p i j = true then some (f i j) else none
  | _, _ => none
theorem gi_some {p : Int → Int → Bool} {f : Int → Int → D} {S : So} {a b : A} {d : D} (h : gI p f S a b = some d) : ∃ i j, a = .d (.int i) ∧ b = .d (.int j) ∧ p i j = true ∧ d = f i j := by
  unfold gI at h
  split at h
  · split at h
    · rename_i hp
      cases h; exact ⟨_, _, rfl, rfl, hp, rfl⟩
    · cases h
  · cases h
abbrev gSub := gI (fun _ _ => true) fun i j => .int (i - j)
theorem o_sub : OpG ci X (binaryOp .Sub) gSub := ⟨_, op_sub, fun F T Γ S σ H x y a b d r hx hy e Q k => by
  obtain ⟨i, j, rfl, rfl, _, rfl⟩ := gi_some e
  exact ⟨_, _, r.asInt hx, r.asInt hy, k _ _ (r.int _)⟩⟩
abbrev gMul := gI (fun i j => decide ((-(2 ^ 64) < i ∧ i < 2 ^ 64) ∨ (-(2 ^ 64) < j ∧ j < 2 ^ 64))) fun i j => .int (i * j)
theorem o_mul : OpG ci X (binaryOp .Mult) gMul := ⟨_, op_mul, fun F T Γ S σ H x y a b d r hx hy e Q k => by
  obtain ⟨i, j, rfl, rfl, hp, rfl⟩ := gi_some e
  exact ⟨_, _, r.asInt hx, r.asInt hy, (by have := of_decide_eq_true hp; exact this), k _ _ (r.int _)⟩⟩
abbrev gFdiv := gI (fun _ j => decide (0 < j ∧ j < 1073741824)) fun i j => .int (i / j)
theorem o_fdiv : OpG ci X (binaryOp .FloorDiv) gFdiv := ⟨_, op_fdiv, fun F T Γ S σ H x y a b d r hx hy e Q k => by
  obtain ⟨i, j, rfl, rfl, hp, rfl⟩ := gi_some e
  exact ⟨_, _, r.asInt hx, r.asInt hy, (by have := of_decide_eq_true hp; exact this), k _ _ (r.int _)⟩⟩
abbrev gMod := gI (fun _ j => decide (0 < j)) fun i j => .int (i % j)
theorem o_mod : OpG ci X (binaryOp .Mod) gMod := ⟨_, op_mod, fun F T Γ S σ H x y a b d r hx hy e Q k => by
  obtain ⟨i, j, rfl, rfl, hp, rfl⟩ := gi_some e
  exact ⟨_, _, r.asInt hx, r.asInt hy, (by have := of_decide_eq_true hp; exact this), k _ _ (r.int _)⟩⟩
abbrev gPow := gI (fun i j => decide (0 ≤ j ∧ j ≤ 1000000 ∧ i.natAbs < 2 ^ 64)) fun i j => .int (i ^ j.toNat)
theorem o_pow : OpG ci X (binaryOp .Pow) gPow := ⟨_, op_pow, fun F T Γ S σ H x y a b d r hx hy e Q k => by
  obtain ⟨i, j, rfl, rfl, hp, rfl⟩ := gi_some e
  exact ⟨_, _, r.asInt hx, r.asInt hy, (by have := of_decide_eq_true hp; exact this), k _ _ (r.int _)⟩⟩
abbrev gLt := gI (fun _ _ => true) fun i j => .bl (decide (i < j))
theorem o_lt : OpG ci X (compareOp .Lt) gLt := ⟨_, op_lt, fun F T Γ S σ H x y a b d r hx hy e Q k => by
  obtain ⟨i, j, rfl, rfl, _, rfl⟩ := gi_some e
  exact ⟨_, _, r.asInt hx, r.asInt hy, k _ _ (r.bl _)⟩⟩
abbrev gLe := gI (fun _ _ => true) fun i j => .bl (decide (i ≤ j))
theorem o_le : OpG ci X (compareOp .LtE) gLe := ⟨_, op_le, fun F T Γ S σ H x y a b d r hx hy e Q k => by
  obtain ⟨i, j, rfl, rfl, _, rfl⟩ := gi_some e
  exact ⟨_, _, r.asInt hx, r.asInt hy, k _ _ (r.bl _)⟩⟩
abbrev gGt := gI (fun _ _ => true) fun i j => .bl (decide (j < i))
theorem o_gt : OpG ci X (compareOp .Gt) gGt := ⟨_, op_gt, fun F T Γ S σ H x y a b d r hx hy e Q k => by
  obtain ⟨i, j, rfl, rfl, _, rfl⟩ := gi_some e
  exact ⟨_, _, r.asInt hx, r.asInt hy, k _ _ (r.bl _)⟩⟩
abbrev gGe := gI (fun _ _ => true) fun i j => .bl (decide (j ≤ i))
theorem o_ge : OpG ci X (compareOp .GtE) gGe := ⟨_, op_ge, fun F T Γ S σ H x y a b d r hx hy e Q k => by
  obtain ⟨i, j, rfl, rfl, _, rfl⟩ := gi_some e
  exact ⟨_, _, r.asInt hx, r.asInt hy, k _ _ (r.bl _)⟩⟩
end
end LP

namespace LP
open PySem PySem.Spec PyProof.Rows L2
section
variable {ci : Ci} {X : Cx}
/-! flat data: what == and in tell of them -/
def D.v : D → V
  | .non => .non | .bl b => .bl b | .int i => .int i | .str s => .str s | _ => .ref 0
def D.flat : D → Bool
  | .non => true | .bl _ => true | .int _ => true | .str _ => true | _ => false
theorem Rep.flat {K : PySem.W.Frag} {M : List Addr} {H : Hp} : ∀ {d : D} {v : V}, d.flat = true → Rep K ci M H d v → v = d.v
  | .non, v, _, r => by rw [Rep] at r; exact r
  | .bl _, v, _, r => by rw [Rep] at r; exact r
  | .int _, v, _, r => by rw [Rep] at r; exact r
  | .str _, v, _, r => by rw [Rep] at r; exact r
  | .tup _, v, h, r => by cases h
  | .lst _, v, h, r => by cases h
  | .ins _ _, v, h, r => by cases h
  | .dic _ _, v, h, r => by cases h
theorem D.flat_v : ∀ {d : D}, d.flat = true → flatV d.v = true
  | .non, _ => rfl
  | .bl _, _ => rfl
  | .int _, _ => rfl
  | .str _, _ => rfl
  | .tup _, h => by cases h
  | .lst _, h => by cases h
  | .ins _ _, h => by cases h
  | .dic _ _, h => by cases h
theorem Reps.flat {K : PySem.W.Frag} {M : List Addr} {H : Hp} : ∀ {l : List D} {vs : List V}, l.all D.flat = true → Reps K ci M H l vs → vs = l.map D.v
  | [], vs, _, r => by rw [Reps] at r; exact r
  | d :: l, vs, h, r => by
    rw [Reps] at r
    obtain ⟨v, rr, rfl, r1, r2⟩ := r
    rw [List.all_cons, Bool.and_eq_true] at h
    rw [List.map_cons, r1.flat h.1, Reps.flat h.2 r2]
theorem all_flat {l : List D} (h : l.all D.flat = true) : (l.map D.v).all flatV = true := by
  rw [List.all_map]
  exact List.all_eq_true.mpr fun x hx => D.flat_v (List.all_eq_true.mp h x hx)
theorem Rel.flat {F : Fr X.K ci} {T : List (A × V)} {Γ : Ga} {S : So} {σ : L2.St} {H : Hp} (r : Rel F T Γ S σ H) {d : D} {v : V} (h : (A.d d, v) ∈ T) (hf : d.flat = true) : v = d.v := by
  obtain ⟨ρ, r⟩ := r
  exact Rep.flat hf (r.top h)
/-- Python's == of flat data -/
def feq : D → D → Bool
  | .non, .non => true
  | .bl a, .bl b => a == b
  | .bl a, .int b => (if a then 1 else 0) == b
  | .int a, .bl b => a == (if b then 1 else 0)
  | .int a, .int b => a == b
  | .str a, .str b => decide (a = b)
  | _, _ => false
theorem feq_eqV {x y : D} (hx : x.flat = true) (hy : y.flat = true) : eqV x.v y.v = feq x y := by
  cases x <;> cases hx <;> cases y <;> first | rfl | cases hy
/-- x in xs (flat things) -/
def gIn (neg : Bool) (S : So) (a b : A) : Option D := match a with
  | .d x => (viewQ S b).bind fun l => if x.flat && l.all D.flat then some (.bl (if neg then !(l.any fun y => feq y x) else l.any fun y => feq y x)) else none
  | _ => none
theorem in_any {l : List D} {x : D} (hx : x.flat = true) (hl : l.all D.flat = true) : inV x.v (l.map D.v) = l.any fun y => feq y x := by
  unfold inV
  rw [List.any_map]
  induction l with
  | nil => rfl
  | cons y l ih =>
    rw [List.all_cons, Bool.and_eq_true] at hl
    rw [List.any_cons, List.any_cons, ih hl.2]
    show (eqV y.v x.v || _) = _
    rw [feq_eqV hl.1 hx]
theorem gIn_ok {neg : Bool} {F : Fr X.K ci} {T : List (A × V)} {Γ : Ga} {S : So} {σ : L2.St} {H : Hp} {x y : V} {a b : A} {d : D} (r : Rel F T Γ S σ H) (hx : (a, x) ∈ T) (hy : (b, y) ∈ T) (e : gIn neg S a b = some d) :
    ∃ p xs, y = .ref p ∧ (SqL X.K H p xs ∨ SqT X.K H p xs) ∧ flatV x = true ∧ xs.all flatV = true ∧ d = .bl (if neg then !inV x xs else inV x xs) := by
  unfold gIn at e
  split at e
  · rename_i u
    cases e1 : viewQ S b with
    | none => rw [e1] at e; cases e
    | some l =>
      rw [e1, Option.bind_some] at e
      split at e
      · rename_i hf
        rw [Bool.and_eq_true] at hf
        cases e
        obtain ⟨ρ, r⟩ := r
        obtain ⟨p, vs, rfl, hq, R⟩ := r.viewQ (r.top hy) e1
        have hv := Reps.flat hf.2 R
        subst hv
        have hu := Rep.flat hf.1 (r.top hx)
        subst hu
        exact ⟨p, _, rfl, hq, D.flat_v hf.1, all_flat hf.2, by rw [in_any hf.1 hf.2]⟩
      · cases e
  · cases e
theorem o_in : OpG ci X (compareOp .In) (gIn false) := ⟨_, op_in_seq, fun F T Γ S σ H x y a b d r hx hy e Q k => by
  obtain ⟨p, xs, rfl, hq, f1, f2, rfl⟩ := gIn_ok r hx hy e
  exact ⟨p, xs, rfl, hq, f1, f2, k _ _ (r.bl _)⟩⟩
theorem o_nin : OpG ci X (compareOp .NotIn) (gIn true) := ⟨_, op_notIn_seq, fun F T Γ S σ H x y a b d r hx hy e Q k => by
  obtain ⟨p, xs, rfl, hq, f1, f2, rfl⟩ := gIn_ok r hx hy e
  exact ⟨p, xs, rfl, hq, f1, f2, k _ _ (r.bl _)⟩⟩
/-- c in s: a sign in a text -/
def gInS (neg : Bool) (_ : So) (a b : A) : Option D := match a, b with
  | .d (.str x), .d (.str z) => if neg then some (.bl (!(!(Builtin.Str.occurrences z x 0 z.length 1).isEmpty))) else some (.bl (!(Builtin.Str.occurrences z x 0 z.length 1).isEmpty))
  | _, _ => none
theorem o_inS : OpG ci X (compareOp .In) (gInS false) := ⟨_, op_in_str, fun F T Γ S σ H x y a b d r hx hy e Q k => by
  unfold gInS at e
  split at e
  · cases e
    exact ⟨_, _, r.asStr hx, r.asStr hy, k _ _ (r.bl _)⟩
  · cases e⟩
theorem o_ninS : OpG ci X (compareOp .NotIn) (gInS true) := ⟨_, op_notin_str, fun F T Γ S σ H x y a b d r hx hy e Q k => by
  unfold gInS at e
  split at e
  · cases e
    exact ⟨_, _, r.asStr hx, r.asStr hy, k _ _ (r.bl _)⟩
  · cases e⟩
/-! == of flat things and of data at any depth -/
mutual
def D.py : D → Option PyData
  | .non => some .none
  | .bl b => some (.bool b)
  | .int i => some (.int i)
  | .str s => some (.str s)
  | .tup l => (D.pys l).map .tuple
  | .lst l => (D.pys l).map .list
  | _ => none
def D.pys : List D → Option (List PyData)
  | [] => some []
  | d :: l => (D.py d).bind fun x => (D.pys l).map (x :: ·)
end
mutual
theorem Rep.dp {K : PySem.W.Frag} {M : List Addr} {H : Hp} : ∀ (d : D) (v : V) (x : PyData), d.py = some x → Rep K ci M H d v → Dp K H v x
  | .non, v, x, h, r => by rw [D.py] at h; cases h; rw [Rep] at r; subst r; exact .non
  | .bl _, v, x, h, r => by rw [D.py] at h; cases h; rw [Rep] at r; subst r; exact .bl _
  | .int _, v, x, h, r => by rw [D.py] at h; cases h; rw [Rep] at r; subst r; exact .int _
  | .str _, v, x, h, r => by rw [D.py] at h; cases h; rw [Rep] at r; subst r; exact .str _
  | .tup l, v, x, h, r => by
    rw [D.py] at h
    cases e : D.pys l with
    | none => rw [e] at h; cases h
    | some xs =>
      rw [e] at h; cases h
      rw [Rep] at r
      obtain ⟨p, vs, rfl, q, R⟩ := r
      exact .tup (st_rd q) (Reps.dp l vs xs e R)
  | .lst l, v, x, h, r => by
    rw [D.py] at h
    cases e : D.pys l with
    | none => rw [e] at h; cases h
    | some xs =>
      rw [e] at h; cases h
      rw [Rep] at r
      obtain ⟨p, vs, rfl, q, R⟩ := r
      exact .lst (sq_rd q) (Reps.dp l vs xs e R)
  | .ins _ _, v, x, h, r => by rw [D.py] at h <;> first | cases h | (intros; intro z; cases z)
  | .dic _ _, v, x, h, r => by rw [D.py] at h <;> first | cases h | (intros; intro z; cases z)
theorem Reps.dp {K : PySem.W.Frag} {M : List Addr} {H : Hp} : ∀ (l : List D) (vs : List V) (xs : List PyData), D.pys l = some xs → Reps K ci M H l vs → DpAll K H vs xs
  | [], vs, xs, h, r => by rw [D.pys] at h; cases h; rw [Reps] at r; subst r; exact .nil
  | d :: l, vs, xs, h, r => by
    rw [D.pys] at h
    cases e1 : D.py d with
    | none => rw [e1] at h; cases h
    | some x =>
      rw [e1, Option.bind_some] at h
      cases e2 : D.pys l with
      | none => rw [e2] at h; cases h
      | some ys =>
        rw [e2] at h; cases h
        rw [Reps] at r
        obtain ⟨v, rr, rfl, r1, r2⟩ := r
        exact .cons (Rep.dp d v x e1 r1) (Reps.dp l rr ys e2 r2)
end
/-- a slot's data -/
def valD (S : So) : A → Option D
  | .d x => some x
  | .loc k => (viewL S (.loc k)).map .lst
theorem valD_dp {F : Fr X.K ci} {ρ : List Addr} {T : List (A × V)} {Γ : Ga} {S : So} {σ : L2.St} {H : Hp} {x : V} {a : A} {d : D} {y : PyData} (r : RelR F ρ T Γ S σ H) (hx : (a, x) ∈ T) (e : valD S a = some d) (ey : d.py = some y) : Dp X.K H x y := by
  cases a with
  | d u => cases e; exact Rep.dp _ _ _ ey (r.top hx)
  | loc k =>
    rw [valD] at e
    cases e1 : viewL S (.loc k) with
    | none => rw [e1] at e; cases e
    | some l =>
      rw [e1] at e; cases e
      obtain ⟨p, vs, rfl, hq, R⟩ := r.viewL (r.top hx) e1
      rw [D.py] at ey
      cases e2 : D.pys l with
      | none => rw [e2] at ey; cases ey
      | some xs => rw [e2] at ey; cases ey; exact .lst hq (Reps.dp l vs xs e2 R)
def deq (x y : D) : Option Bool := x.py.bind fun a => y.py.bind fun b => if SeqAt.shaped a && SeqAt.shaped b then some (PyData.eqv a b) else none
def gEq (neg : Bool) (S : So) (a b : A) : Option D := (valD S a).bind fun x => (valD S b).bind fun y => (deq x y).map fun c => .bl (if neg then !c else c)
theorem gEq_ok {neg : Bool} {F : Fr X.K ci} {T : List (A × V)} {Γ : Ga} {S : So} {σ : L2.St} {H : Hp} {x y : V} {a b : A} {d : D} (r : Rel F T Γ S σ H) (hx : (a, x) ∈ T) (hy : (b, y) ∈ T) (e : gEq neg S a b = some d) :
    ∃ u w, Dp X.K H x u ∧ Dp X.K H y w ∧ SeqAt.shaped u = true ∧ SeqAt.shaped w = true ∧ d = .bl (if neg then !PyData.eqv u w else PyData.eqv u w) := by
  unfold gEq at e
  cases e1 : valD S a with
  | none => rw [e1] at e; cases e
  | some x' =>
    rw [e1, Option.bind_some] at e
    cases e2 : valD S b with
    | none => rw [e2] at e; cases e
    | some y' =>
      rw [e2, Option.bind_some] at e
      unfold deq at e
      cases e3 : x'.py with
      | none => rw [e3] at e; cases e
      | some u =>
        rw [e3, Option.bind_some] at e
        cases e4 : y'.py with
        | none => rw [e4] at e; cases e
        | some w =>
          rw [e4, Option.bind_some] at e
          by_cases hs : (SeqAt.shaped u && SeqAt.shaped w) = true
          · rw [if_pos hs] at e
            rw [Bool.and_eq_true] at hs
            cases e
            obtain ⟨ρ, r⟩ := r
            exact ⟨u, w, valD_dp r hx e1 e3, valD_dp r hy e2 e4, hs.1, hs.2, rfl⟩
          · rw [if_neg hs] at e; cases e
theorem o_eq (hu : X.A.units + 64 < cLine) : OpG ci X (compareOp .Eq) (gEq false) := ⟨_, op_eqD hu, fun F T Γ S σ H x y a b d r hx hy e Q k => by
  obtain ⟨u, w, h1, h2, h3, h4, rfl⟩ := gEq_ok r hx hy e
  exact ⟨u, w, h1, h2, h3, h4, k _ _ (r.bl _)⟩⟩
theorem o_ne (hu : X.A.units + 64 < cLine) : OpG ci X (compareOp .NotEq) (gEq true) := ⟨_, op_neD hu, fun F T Γ S σ H x y a b d r hx hy e Q k => by
  obtain ⟨u, w, h1, h2, h3, h4, rfl⟩ := gEq_ok r hx hy e
  exact ⟨u, w, h1, h2, h3, h4, k _ _ (r.bl _)⟩⟩
/-- x is None -/
def gIsN (neg : Bool) (_ : So) (a b : A) : Option D := match a, b with
  | .d .non, .d .non => some (.bl (!neg))
  | .d _, .d .non => some (.bl neg)
  | .loc _, .d .non => some (.bl neg)
  | _, _ => none
theorem Rep.notNon {K : PySem.W.Frag} {M : List Addr} {H : Hp} : ∀ {d : D} {v : V}, d ≠ .non → Rep K ci M H d v → v ≠ .non
  | .non, v, h, _ => absurd rfl h
  | .bl _, v, _, r => by rw [Rep] at r; subst r; intro z; cases z
  | .int _, v, _, r => by rw [Rep] at r; subst r; intro z; cases z
  | .str _, v, _, r => by rw [Rep] at r; subst r; intro z; cases z
  | .tup _, v, _, r => by rw [Rep] at r; obtain ⟨_, _, rfl, _⟩ := r; intro z; cases z
  | .lst _, v, _, r => by rw [Rep] at r; obtain ⟨_, _, rfl, _⟩ := r; intro z; cases z
  | .ins _ _, v, _, r => by rw [Rep] at r; obtain ⟨_, _, _, rfl, _⟩ := r; intro z; cases z
  | .dic _ _, v, _, r => by rw [Rep] at r; obtain ⟨_, _, rfl, _⟩ := r; intro z; cases z
theorem gIsN_ok {neg : Bool} {F : Fr X.K ci} {T : List (A × V)} {Γ : Ga} {S : So} {σ : L2.St} {H : Hp} {x y : V} {a b : A} {d : D} (r : Rel F T Γ S σ H) (hx : (a, x) ∈ T) (hy : (b, y) ∈ T) (e : gIsN neg S a b = some d) :
    y = .non ∧ d = .bl (if neg then !decide (x = .non) else decide (x = .non)) := by
  unfold gIsN at e
  split at e
  · cases e
    rw [r.asNon hx]
    exact ⟨r.asNon hy, by cases neg <;> rfl⟩
  · rename_i u hu
    cases e
    obtain ⟨ρ, r'⟩ := id r
    have : x ≠ .non := Rep.notNon (fun z => hu (by rw [z])) (r'.top hx)
    exact ⟨r.asNon hy, by rw [decide_eq_false this]; cases neg <;> rfl⟩
  · cases e
    obtain ⟨ρ, r'⟩ := id r
    obtain ⟨p, _, rfl⟩ := r'.top hx
    exact ⟨r.asNon hy, by cases neg <;> rfl⟩
  · cases e
theorem o_is : OpG ci X (compareOp .Is) (gIsN false) := ⟨_, op_isN, fun F T Γ S σ H x y a b d r hx hy e Q k => by
  obtain ⟨h1, rfl⟩ := gIsN_ok r hx hy e
  exact ⟨h1, k _ _ (r.bl _)⟩⟩
theorem o_isnt : OpG ci X (compareOp .IsNot) (gIsN true) := ⟨_, op_notN, fun F T Γ S σ H x y a b d r hx hy e Q k => by
  obtain ⟨h1, rfl⟩ := gIsN_ok r hx hy e
  exact ⟨h1, k _ _ (r.bl _)⟩⟩
end
end LP

namespace LP
open PySem PySem.Spec PyProof.Rows L2
section
variable {ci : Ci} {X : Cx}
/-! items, slices -/
def gIx (S : So) (a b : A) : Option D := match b with
  | .d (.int i) => match a with
    | .d (.str s) => if s.length ≤ sizeLine then (atI s.cps.toList i).map fun c => .str ⟨#[c]⟩ else none
    | a => (viewQ S a).bind fun l => atI l i
  | _ => none
theorem atI_reps {K : PySem.W.Frag} {M : List Addr} {H : Hp} {l : List D} {vs : List V} {i : Int} {d : D} (R : Reps K ci M H l vs) (e : atI l i = some d) : ∃ v, atI vs i = some v ∧ Rep K ci M H d v := by
  unfold atI at e ⊢
  rw [← R.length]
  cases e1 : ixN l.length i with
  | none => rw [e1] at e; cases e
  | some j =>
    rw [e1, Option.bind_some] at e
    rw [Option.bind_some]
    exact R.getD e
theorem rp_ix {a b : Expr} {pos : Pos} {fa fb : QF} (ha : RP ci X a fa) (hb : RP ci X b fb) (hs : PlainIx b := by exact fun _ _ => rfl) : RP ci X (.Subscript a b pos) (fOp gIx fa fb) := fun F T Γ S σ H z r q => by
  obtain ⟨x, y, d, e1, e2, e3, rfl⟩ := op_some q
  refine wpX_of (pe_ix ix_seq pe_wp pe_wp hs) (wpX_mono (two ha hb r e1 e2) fun v H1 h1 => wpX_mono h1 fun u H2 h2 => ?_)
  unfold gIx at e3
  split at e3
  · rename_i i
    have hu := h2.asInt (v := u) List.mem_cons_self
    split at e3
    · rename_i s
      have hv := h2.asStr (v := v) (i := s) (by simp)
      split at e3
      · rename_i hl
        cases e4 : atI s.cps.toList i with
        | none => rw [e4] at e3; cases e3
        | some c =>
          rw [e4] at e3; cases e3
          exact .inr (.inr ⟨s, i, c, hv, hu, hl, e4, (h2.drop fun q hq => by simp [hq] : Rel F T Γ S σ H2).str _⟩)
      · cases e3
    · cases e4 : viewQ S x with
      | none => rw [e4] at e3; cases e3
      | some l =>
        rw [e4, Option.bind_some] at e3
        obtain ⟨ρ, r2⟩ := h2
        obtain ⟨p, vs, rfl, hq, R⟩ := r2.viewQ (r2.top (a := x) (v := v) (by simp)) e4
        obtain ⟨w, hw, rw'⟩ := atI_reps R e3
        have fin : Rel F ((.d d, w) :: T) Γ S σ H2 := ⟨ρ, (r2.push (a := .d d) (v := w) rw').drop drop3⟩
        rcases hq with hq | hq
        · exact .inl ⟨p, vs, i, w, rfl, hu, hq, hw, fin⟩
        · exact .inr (.inl ⟨p, vs, i, w, rfl, hu, hq, hw, fin⟩)
  · cases e3
/-- a part of a slice -/
abbrev QO := Ga → So → Option (Option Int)
def wpO (X : Cx) (e : Option Expr) : TO := fun σ H Q => ∀ (pins : List (Addr × Obj)) (s : Shared), Inv X pins σ H s → wpAny (model X.prog X.w) X.A (evalPart e X.env) (fun u s' => ∃ o H', Inv X pins σ H' s' ∧ IsPart u o ∧ Q o H') X.xe s
theorem po_wp {e : Option Expr} : PO X e (wpO X e) := ⟨fun pins s σ H Q I h => h pins s I⟩
theorem wpO_of {e : Option Expr} {t : TO} {σ : L2.St} {H : Hp} (h : PO X e t) {Q : Option Int → Hp → Prop} (q : t σ H Q) : wpO X e σ H Q := fun pins s I => h.run pins s σ H Q I q
theorem wpO_mono {e : Option Expr} {σ : L2.St} {H : Hp} {Q Q' : Option Int → Hp → Prop} (h : wpO X e σ H Q) (k : ∀ b H', Q b H' → Q' b H') : wpO X e σ H Q' := fun pins s I => thn (h pins s I) fun _ _ ⟨o, H', I', p, q⟩ => ⟨o, H', I', p, k _ H' q⟩
def RO (ci : Ci) (X : Cx) (e : Option Expr) (f : QO) : Prop := ∀ (F : Fr X.K ci) T Γ S σ H o, Rel F T Γ S σ H → f Γ S = some o → wpO X e σ H (fun c H' => c = o ∧ Rel F T Γ S σ H')
def oN : QO := fun _ _ => some none
def oS (f : QF) : QO := fun Γ S => (f Γ S).bind fun a => match a with | .d (.int i) => some (some i) | _ => none
theorem ro_n : RO ci X none oN := fun F T Γ S σ H o r q => by
  cases q; exact wpO_of po_none ⟨rfl, r⟩
theorem ro_s {e : Expr} {f : QF} (h : RP ci X e f) : RO ci X (some e) (oS f) := fun F T Γ S σ H o r q => by
  unfold oS at q
  cases e1 : f Γ S with
  | none => rw [e1] at q; cases q
  | some a =>
    rw [e1, Option.bind_some] at q
    split at q
    · cases q
      exact wpO_of (po_some pe_wp) (wpX_mono (h F T Γ S σ H _ r e1) fun v H' h' => ⟨_, h'.asInt List.mem_cons_self, rfl, h'.tail⟩)
    · cases q
def cutD (l : List D) (lo hi : Option Int) : List D := (l.drop (HT.sIx l.length 0 lo)).take (HT.sIx l.length l.length hi - HT.sIx l.length 0 lo)
theorem cut_reps {K : PySem.W.Frag} {M : List Addr} {H : Hp} {l : List D} {vs : List V} {lo hi : Option Int} (R : Reps K ci M H l vs) : Reps K ci M H (cutD l lo hi) (cutV vs lo hi) := by
  unfold cutD cutV
  rw [R.length]
  exact (R.drop _).take _
def fSlL (f : QF) (lo hi : QO) : QF := fun Γ S => (f Γ S).bind fun a => (lo Γ S).bind fun l => (hi Γ S).bind fun h => (viewL S a).map fun ds => .d (.lst (cutD ds l h))
def fSlS (f : QF) (lo hi : QO) : QF := fun Γ S => (f Γ S).bind fun a => (lo Γ S).bind fun l => (hi Γ S).bind fun h => match a with
  | .d (.str s) => if s.length ≤ sizeLine then some (.d (.str (cutS s l h))) else none
  | _ => none
theorem sl_some {f : QF} {lo hi : QO} {k : A → Option Int → Option Int → Option A} {Γ : Ga} {S : So} {z : A} (h : ((f Γ S).bind fun a => (lo Γ S).bind fun l => (hi Γ S).bind fun u => k a l u) = some z) : ∃ a l u, f Γ S = some a ∧ lo Γ S = some l ∧ hi Γ S = some u ∧ k a l u = some z := by
  cases e1 : f Γ S with
  | none => rw [e1] at h; cases h
  | some a =>
    cases e2 : lo Γ S with
    | none => rw [e1, e2] at h; cases h
    | some l =>
      cases e3 : hi Γ S with
      | none => rw [e1, e2, e3] at h; cases h
      | some u => rw [e1, e2, e3] at h; exact ⟨a, l, u, rfl, rfl, rfl, h⟩
theorem slice_run {e : Expr} {lo hi : Option Expr} {f : QF} {fl fh : QO} (he : RP ci X e f) (hl : RO ci X lo fl) (hh : RO ci X hi fh) {F : Fr X.K ci} {T : List (A × V)} {Γ : Ga} {S : So} {σ : L2.St} {H : Hp} {a : A} {l u : Option Int} (r : Rel F T Γ S σ H) (e1 : f Γ S = some a) (e2 : fl Γ S = some l) (e3 : fh Γ S = some u)
    {R : V → Option Int → Option Int → Hp → Prop} (k : ∀ v H', Rel F ((a, v) :: T) Γ S σ H' → R v l u H') : wpX X e σ H fun v H1 => wpO X lo σ H1 fun c H2 => wpO X hi σ H2 fun d H3 => R v c d H3 :=
  wpX_mono (he F T Γ S σ H a r e1) fun v H1 r1 => wpO_mono (hl F _ Γ S σ H1 l r1 e2) fun c H2 ⟨q2, r2⟩ => wpO_mono (hh F _ Γ S σ H2 u r2 e3) fun d H3 ⟨q3, r3⟩ => by
    subst q2 q3; exact k v H3 r3
theorem rp_slL {e : Expr} {lo hi : Option Expr} {f : QF} {fl fh : QO} {p2 pos : Pos} (he : RP ci X e f) (hl : RO ci X lo fl) (hh : RO ci X hi fh) : RP ci X (.Subscript e (.Slice lo hi none p2) pos) (fSlL f fl fh) := fun F T Γ S σ H z r q => by
  obtain ⟨a, l, u, e1, e2, e3, e4⟩ := sl_some q
  refine wpX_of (pe_slice sl_list pe_wp po_wp po_wp) (slice_run he hl hh r e1 e2 e3 (R := fun v l u H' => rSlL X.K v l u H' _) fun v H' h' => ?_)
  cases e5 : viewL S a with
  | none => rw [e5] at e4; cases e4
  | some ds =>
    rw [e5] at e4; cases e4
    obtain ⟨ρ, h'⟩ := h'
    obtain ⟨p, vs, rfl, hq, R⟩ := h'.viewL (h'.top (a := a) List.mem_cons_self) e5
    exact ⟨p, vs, rfl, hq, fun p' hp => ⟨ρ, (h'.newL hp (cut_reps R)).drop drop2⟩⟩
theorem rp_slS {e : Expr} {lo hi : Option Expr} {f : QF} {fl fh : QO} {p2 pos : Pos} (he : RP ci X e f) (hl : RO ci X lo fl) (hh : RO ci X hi fh) : RP ci X (.Subscript e (.Slice lo hi none p2) pos) (fSlS f fl fh) := fun F T Γ S σ H z r q => by
  obtain ⟨a, l, u, e1, e2, e3, e4⟩ := sl_some q
  refine wpX_of (pe_slice sl_str pe_wp po_wp po_wp) (slice_run he hl hh r e1 e2 e3 (R := fun v l u H' => rSlS v l u H' _) fun v H' h' => ?_)
  split at e4
  · rename_i s
    split at e4
    · rename_i hs
      cases e4
      exact ⟨s, h'.asStr List.mem_cons_self, hs, h'.tail.str _⟩
    · cases e4
  · cases e4

/-! built-in calls by values -/
theorem as1 {K : PySem.W.Frag} {F : Fr K ci} {T : List (A × V)} {a : A} {vs : List V} (hl : [a].length = vs.length) (h : ∀ q ∈ [a].zip vs, q ∈ T) : ∃ v, vs = [v] ∧ (a, v) ∈ T := by
  match vs, hl with
  | [v], _ => exact ⟨v, rfl, h _ (by simp)⟩
theorem as2 {K : PySem.W.Frag} {F : Fr K ci} {T : List (A × V)} {a b : A} {vs : List V} (hl : [a, b].length = vs.length) (h : ∀ q ∈ [a, b].zip vs, q ∈ T) : ∃ v u, vs = [v, u] ∧ (a, v) ∈ T ∧ (b, u) ∈ T := by
  match vs, hl with
  | [v, u], _ => exact ⟨v, u, rfl, h _ (by simp), h _ (by simp)⟩
def gLen (S : So) : List A → Option D
  | [.d (.str s)] => if s.length ≤ sizeLine then some (.int s.length) else none
  | [.d (.ins _ _)] => none
  | [a] => (viewQ S a).map fun l => .int l.length
  | _ => none
theorem c_len : CallG ci X (.builtin "len") gLen := ⟨_, call_len, fun F T Γ S σ H as vs d r hl hT e Q k => by
  unfold gLen at e
  split at e
  · split at e
    · rename_i hs
      obtain ⟨v, rfl, hv⟩ := as1 (F := F) hl hT
      have := r.asStr hv
      subst this
      cases e
      exact ⟨_, _, rfl, ⟨hs, rfl⟩, k _ _ (r.int _)⟩
    · cases e
  · cases e
  · rename_i a _ _
    obtain ⟨v, rfl, hv⟩ := as1 (F := F) hl hT
    cases e1 : viewQ S a with
    | none => rw [e1] at e; cases e
    | some l =>
      rw [e1] at e; cases e
      obtain ⟨ρ, r'⟩ := id r
      obtain ⟨p, vs, rfl, hq, R⟩ := r'.viewQ (r'.top hv) e1
      refine ⟨_, vs.length, rfl, ?_, ?_⟩
      · rcases hq with hq | hq
        · exact .inl ⟨vs, hq, rfl⟩
        · exact .inr ⟨vs, hq, rfl⟩
      · rw [← R.length]; exact k _ _ (r.int _)
  · cases e⟩
def gInt (_ : So) : List A → Option D
  | [.d (.int i)] => some (.int i)
  | [.d (.bl b)] => some (.int (if b then 1 else 0))
  | _ => none
theorem c_int : CallG ci X (.type "int") gInt := ⟨_, call_int1, fun F T Γ S σ H as vs d r hl hT e Q k => by
  unfold gInt at e
  split at e
  · obtain ⟨v, rfl, hv⟩ := as1 (F := F) hl hT
    cases e
    exact .inl ⟨_, by rw [r.asInt hv], k _ _ (r.int _)⟩
  · obtain ⟨v, rfl, hv⟩ := as1 (F := F) hl hT
    cases e
    exact .inr ⟨_, by rw [r.asBl hv], k _ _ (r.int _)⟩
  · cases e⟩
def gStr (_ : So) : List A → Option D
  | [.d (.int i)] => if i.natAbs.log2 < 1920 then some (.str (toString i)) else none
  | _ => none
theorem c_str : CallG ci X (.type "str") gStr := ⟨_, call_str_int, fun F T Γ S σ H as vs d r hl hT e Q k => by
  unfold gStr at e
  split at e
  · split at e
    · rename_i h
      obtain ⟨v, rfl, hv⟩ := as1 (F := F) hl hT
      cases e
      exact ⟨_, by rw [r.asInt hv], h, k _ _ (r.str _)⟩
    · cases e
  · cases e⟩
/-- max, min of two dInts -/
def g2 (f : Int → Int → Int) (_ : So) : List A → Option D
  | [.d (.int i), .d (.int j)] => some (.int (f i j))
  | _ => none
abbrev gMax2 := g2 fun i j => if j > i then j else i
abbrev gMin2 := g2 fun i j => if j < i then j else i
theorem c_max2 (hc : X.calm = true) : CallG ci X (.builtin "max") gMax2 := ⟨_, call_max2 hc, fun F T Γ S σ H as vs d r hl hT e Q k => by
  unfold gMax2 g2 at e
  split at e
  · obtain ⟨v, u, rfl, hv, hu⟩ := as2 (F := F) hl hT
    cases e
    exact ⟨_, _, by rw [r.asInt hv, r.asInt hu], k _ _ (r.int _)⟩
  · cases e⟩
theorem c_min2 (hc : X.calm = true) : CallG ci X (.builtin "min") gMin2 := ⟨_, call_min2 hc, fun F T Γ S σ H as vs d r hl hT e Q k => by
  unfold gMin2 g2 at e
  split at e
  · obtain ⟨v, u, rfl, hv, hu⟩ := as2 (F := F) hl hT
    cases e
    exact ⟨_, _, by rw [r.asInt hv, r.asInt hu], k _ _ (r.int _)⟩
  · cases e⟩
def gList (S : So) : List A → Option D
  | [a] => (viewQ S a).map .lst
  | _ => none
theorem c_list : CallG ci X (.type "list") gList := ⟨_, call_list_of, fun F T Γ S σ H as vs d r hl hT e Q k => by
  unfold gList at e
  split at e
  · rename_i a
    obtain ⟨v, rfl, hv⟩ := as1 (F := F) hl hT
    cases e1 : viewQ S a with
    | none => rw [e1] at e; cases e
    | some l =>
      rw [e1] at e; cases e
      obtain ⟨ρ, r⟩ := r
      obtain ⟨p, vs, rfl, hq, R⟩ := r.viewQ (r.top hv) e1
      exact ⟨p, vs, rfl, hq, fun l hl => k _ _ ⟨ρ, r.newL hl R⟩⟩
  · cases e⟩
def gTuple (S : So) : List A → Option D
  | [.d (.tup l)] => some (.tup l)
  | [a] => (viewL S a).map .tup
  | _ => none
theorem c_tuple : CallG ci X (.type "tuple") gTuple := ⟨_, call_tuple_of, fun F T Γ S σ H as vs d r hl hT e Q k => by
  unfold gTuple at e
  split at e
  · obtain ⟨v, rfl, hv⟩ := as1 (F := F) hl hT
    cases e
    obtain ⟨ρ, r'⟩ := id r
    obtain ⟨p, vs, rfl, hq, R⟩ := RelR.viewT (r'.top hv) rfl
    exact ⟨p, vs, rfl, .inr ⟨hq, k _ _ ⟨ρ, r'.push (r'.top hv)⟩⟩⟩
  · rename_i a _
    obtain ⟨v, rfl, hv⟩ := as1 (F := F) hl hT
    cases e1 : viewL S a with
    | none => rw [e1] at e; cases e
    | some l =>
      rw [e1] at e; cases e
      obtain ⟨ρ, r⟩ := r
      obtain ⟨p, vs, rfl, hq, R⟩ := r.viewL (r.top hv) e1
      exact ⟨p, vs, rfl, .inl ⟨hq, fun l hl => k _ _ ⟨ρ, r.newT hl R⟩⟩⟩
  · cases e⟩
def dBools : List D → Option (List Bool)
  | [] => some []
  | .bl b :: l => (dBools l).map (b :: ·)
  | _ => none
def dInts : List D → Option (List Int)
  | [] => some []
  | .int b :: l => (dInts l).map (b :: ·)
  | _ => none
def dStrs : List D → Option (List Str)
  | [] => some []
  | .str b :: l => (dStrs l).map (b :: ·)
  | _ => none
theorem bools_map : ∀ l : List Bool, dBools (l.map D.bl) = some l
  | [] => rfl
  | b :: l => by rw [List.map_cons, dBools, bools_map l]; rfl
theorem ints_map : ∀ l : List Int, dInts (l.map D.int) = some l
  | [] => rfl
  | b :: l => by rw [List.map_cons, dInts, ints_map l]; rfl
theorem strs_map : ∀ l : List Str, dStrs (l.map D.str) = some l
  | [] => rfl
  | b :: l => by rw [List.map_cons, dStrs, strs_map l]; rfl
theorem bools_reps {K : PySem.W.Frag} {M : List Addr} {H : Hp} : ∀ {l : List D} {vs : List V} {bs : List Bool}, dBools l = some bs → Reps K ci M H l vs → vs = bs.map V.bl
  | [], vs, bs, h, r => by cases h; rw [Reps] at r; exact r
  | d :: l, vs, bs, h, r => by
    cases d <;> first | (simp [dBools] at h; done) | skip
    rename_i b
    rw [dBools] at h
    cases e : dBools l with
    | none => rw [e] at h; cases h
    | some cs =>
      rw [e] at h; cases h
      rw [Reps] at r
      obtain ⟨v, rr, rfl, r1, r2⟩ := r
      rw [Rep] at r1
      rw [List.map_cons, r1, bools_reps e r2]
theorem ints_reps {K : PySem.W.Frag} {M : List Addr} {H : Hp} : ∀ {l : List D} {vs : List V} {bs : List Int}, dInts l = some bs → Reps K ci M H l vs → vs = bs.map V.int
  | [], vs, bs, h, r => by cases h; rw [Reps] at r; exact r
  | d :: l, vs, bs, h, r => by
    cases d <;> first | (simp [dInts] at h; done) | skip
    rename_i b
    rw [dInts] at h
    cases e : dInts l with
    | none => rw [e] at h; cases h
    | some cs =>
      rw [e] at h; cases h
      rw [Reps] at r
      obtain ⟨v, rr, rfl, r1, r2⟩ := r
      rw [Rep] at r1
      rw [List.map_cons, r1, ints_reps e r2]
theorem strs_reps {K : PySem.W.Frag} {M : List Addr} {H : Hp} : ∀ {l : List D} {vs : List V} {bs : List Str}, dStrs l = some bs → Reps K ci M H l vs → vs = bs.map V.str
  | [], vs, bs, h, r => by cases h; rw [Reps] at r; exact r
  | d :: l, vs, bs, h, r => by
    cases d <;> first | (simp [dStrs] at h; done) | skip
    rename_i b
    rw [dStrs] at h
    cases e : dStrs l with
    | none => rw [e] at h; cases h
    | some cs =>
      rw [e] at h; cases h
      rw [Reps] at r
      obtain ⟨v, rr, rfl, r1, r2⟩ := r
      rw [Rep] at r1
      rw [List.map_cons, r1, strs_reps e r2]
def gBools (f : List Bool → Bool) (S : So) : List A → Option D
  | [a] => (viewL S a).bind fun l => (dBools l).map fun bs => .bl (f bs)
  | _ => none
theorem gBools_ok {f : List Bool → Bool} {F : Fr X.K ci} {T : List (A × V)} {Γ : Ga} {S : So} {σ : L2.St} {H : Hp} {as : List A} {vs : List V} {d : D} (r : Rel F T Γ S σ H) (hl : as.length = vs.length) (hT : ∀ q ∈ as.zip vs, q ∈ T) (e : gBools f S as = some d) :
    ∃ a bs, vs = [V.ref a] ∧ SqL X.K H a (bs.map V.bl) ∧ d = .bl (f bs) := by
  unfold gBools at e
  split at e
  · rename_i a
    obtain ⟨v, rfl, hv⟩ := as1 (F := F) hl hT
    cases e1 : viewL S a with
    | none => rw [e1] at e; cases e
    | some l =>
      rw [e1, Option.bind_some] at e
      cases e2 : dBools l with
      | none => rw [e2] at e; cases e
      | some bs =>
        rw [e2] at e; cases e
        obtain ⟨ρ, r⟩ := r
        obtain ⟨p, vs, rfl, hq, R⟩ := r.viewL (r.top hv) e1
        have := bools_reps e2 R
        subst this
        exact ⟨p, bs, rfl, hq, rfl⟩
  · cases e
theorem c_all (hc : X.calm = true) : CallG ci X (.builtin "all") (gBools fun l => l.all id) := ⟨_, cr_all hc, fun F T Γ S σ H as vs d r hl hT e Q k => by
  obtain ⟨a, bs, rfl, hq, rfl⟩ := gBools_ok r hl hT e
  exact ⟨a, bs, rfl, hq, k _ _ (r.bl _)⟩⟩
theorem c_any (hc : X.calm = true) : CallG ci X (.builtin "any") (gBools fun l => l.any id) := ⟨_, cr_any hc, fun F T Γ S σ H as vs d r hl hT e Q k => by
  obtain ⟨a, bs, rfl, hq, rfl⟩ := gBools_ok r hl hT e
  exact ⟨a, bs, rfl, hq, k _ _ (r.bl _)⟩⟩
def gSum (S : So) : List A → Option D
  | [a] => (viewL S a).bind fun l => (dInts l).map fun bs => .int bs.sum
  | _ => none
theorem c_sum (hc : X.calm = true) : CallG ci X (.builtin "sum") gSum := ⟨_, cr_sum hc, fun F T Γ S σ H as vs d r hl hT e Q k => by
  unfold gSum at e
  split at e
  · rename_i a
    obtain ⟨v, rfl, hv⟩ := as1 (F := F) hl hT
    cases e1 : viewL S a with
    | none => rw [e1] at e; cases e
    | some l =>
      rw [e1, Option.bind_some] at e
      cases e2 : dInts l with
      | none => rw [e2] at e; cases e
      | some bs =>
        rw [e2] at e; cases e
        obtain ⟨ρ, r'⟩ := id r
        obtain ⟨p, vs, rfl, hq, R⟩ := r'.viewL (r'.top hv) e1
        have := ints_reps e2 R
        subst this
        exact ⟨p, bs, rfl, hq, k _ _ (r.int _)⟩
  · cases e⟩
end
end LP

namespace LP
open PySem PySem.Spec PyProof.Rows L2

/-! targets -/
def gWp (X : Cx) (tg : Expr) : TG := fun v σ H Q => ∀ (pins : List (Addr × Obj)) (s : Shared) (u : Value), Inv X pins σ H s → RelV v u → wpAny (model X.prog X.w) X.A (assign tg X.env u) (fun _ s' => ∃ σ' H', Inv X pins σ' H' s' ∧ Q σ' H') X.xe s
theorem pg_wp {X : Cx} {tg : Expr} : PG X tg (gWp X tg) := ⟨fun pins s σ H v u Q I r h => h pins s u I r⟩
theorem gWp_of {X : Cx} {tg : Expr} {t : TG} (h : PG X tg t) {v : V} {σ : L2.St} {H : Hp} {Q : L2.St → Hp → Prop} (q : t v σ H Q) : gWp X tg v σ H Q := fun pins s u I r => h.run pins s σ H v u Q I r q
theorem gWp_mono {X : Cx} {tg : Expr} {v : V} {σ : L2.St} {H : Hp} {Q Q' : L2.St → Hp → Prop} (h : gWp X tg v σ H Q) (k : ∀ σ' H', Q σ' H' → Q' σ' H') : gWp X tg v σ H Q' := fun pins s u I r => thn (h pins s u I r) fun _ _ ⟨σ', H', I', q⟩ => ⟨σ', H', I', k _ _ q⟩
abbrev TgF := Ga → D → Option Ga
def RG (ci : Ci) (X : Cx) (tg : Expr) (t : TgF) (vs : List Nat) : Prop := ∀ (F : Fr X.K ci) T Γ S σ H d x Γ', Rel F T Γ S σ H → (A.d d, x) ∈ T → t Γ d = some Γ' →
  gWp X tg x σ H (fun σ' H' => (∀ us : List Nat, (∀ i ∈ vs, i ∈ us) → L2.wipe σ' us = L2.wipe σ us) ∧ Rel F T Γ' S σ' H')
def tgN (i : Nat) : TgF := fun Γ d => some (Γ.set i (some (.d d)))
def setAll (Γ : Ga) : List Nat → List D → Ga
  | i :: is, d :: ds => setAll (Γ.set i (some (.d d))) is ds
  | _, _ => Γ
def tgT (is : List Nat) : TgF := fun Γ d => match d with
  | .tup l => if l.length = is.length then some (setAll Γ is l) else none
  | _ => none
section
variable {ci : Ci} {X : Cx}
theorem Rel.put {K : PySem.W.Frag} {F : Fr K ci} {T : List (A × V)} {Γ : Ga} {S : So} {σ : L2.St} {H : Hp} (r : Rel F T Γ S σ H) {a : A} {v : V} (i : Nat) (h : (a, v) ∈ T) : Rel F T (Γ.set i (some a)) S (σ.set i (some v)) H := by
  obtain ⟨ρ, r⟩ := r
  exact ⟨ρ, r.put i (r.top h)⟩
theorem rg_n (i : Nat) {x : Str} {pos : Pos} (hN : X.N.Nodup) (hi : X.N[i]? = some x) (hx : Loc X.env.scope x) (hf : X.fn x = true ∨ X.env.scope.names.lookup x = some .local := by exact fn_of (by kernel_rfl)) : RG ci X (.Name x pos) (tgN i) [i] := fun F T Γ S σ H d x Γ' r h q => by
  cases q
  exact gWp_of (pg_name hN hi hx hf) ⟨fun us hu => wipe_set (hu i List.mem_cons_self), r.put i h⟩
/-- several names -/
def RGs (ci : Ci) (X : Cx) (es : List Expr) (is : List Nat) : Prop := ∃ t, PGs X es t ∧ ∀ (F : Fr X.K ci) T Γ S σ H ds xs, Rel F T Γ S σ H → ds.length = xs.length → ds.length = is.length → (∀ q ∈ (ds.map A.d).zip xs, q ∈ T) →
  ∀ Q : L2.St → Hp → Prop, (∀ σ' H', (∀ us : List Nat, (∀ i ∈ is, i ∈ us) → L2.wipe σ' us = L2.wipe σ us) → Rel F T (setAll Γ is ds) S σ' H' → Q σ' H') → t xs σ H Q
theorem rgs_nil : RGs ci X [] [] := ⟨_, pgs_nil, fun F T Γ S σ H ds xs r h1 h2 _ Q k => by
  cases ds with
  | cons d l => cases h2
  | nil =>
    cases xs with
    | cons v l => cases h1
    | nil => exact ⟨rfl, k _ _ (fun _ _ => rfl) r⟩⟩
theorem rgs_n (i : Nat) {x : Str} {pos : Pos} {es : List Expr} {is : List Nat} (hN : X.N.Nodup) (hi : X.N[i]? = some x) (hx : Loc X.env.scope x) (h : RGs ci X es is) (hf : X.fn x = true ∨ X.env.scope.names.lookup x = some .local := by exact fn_of (by kernel_rfl))
    (he : (assignEach (.Name x pos :: es) X.env).map (·.2) = assign (.Name x pos) X.env :: (assignEach es X.env).map (·.2) := by rfl) : RGs ci X (.Name x pos :: es) (i :: is) := by
  obtain ⟨t, ht, hk⟩ := h
  refine ⟨_, pgs_cons (pg_name hN hi hx hf) ht he, fun F T Γ S σ H ds xs r h1 h2 hT Q k => ?_⟩
  cases ds with
  | nil => cases h2
  | cons d ds =>
    cases xs with
    | nil => cases h1
    | cons v xs =>
      refine ⟨v, xs, rfl, hk F T _ S _ H ds xs (r.put i (a := .d d) (v := v) (hT _ (by simp))) (by simpa using h1) (by simpa using h2) (fun q hq => hT q (by rw [List.map_cons, List.zip_cons_cons]; exact List.mem_cons_of_mem _ hq)) Q fun σ' H' w r' => k σ' H' (fun us hu => ?_) r'⟩
      rw [w us (fun j hj => hu j (List.mem_cons_of_mem _ hj)), wipe_set (hu i List.mem_cons_self)]
theorem rg_t {es : List Expr} {k : Nat} {pos : Pos} {is : List Nat} (hc : X.calm = true) (h : RGs ci X es is) (hn : (assignEach es X.env).length = is.length := by kernel_rfl) (hst : (assignEach es X.env).findIdx? (·.1) = none := by kernel_rfl) : RG ci X (.Tuple es k pos) (tgT is) is := fun F T Γ S σ H d x Γ' r hd q => by
  obtain ⟨t, ht, hk⟩ := h
  unfold tgT at q
  split at q
  · rename_i l
    split at q
    · rename_i hl
      cases q
      obtain ⟨ρ, r⟩ := r
      obtain ⟨p, vs, rfl, hq, R⟩ := RelR.viewT (r.top hd) rfl
      have hz : l.length = vs.length := R.length
      refine gWp_of (pg_tup hc ht hn hst) ⟨p, vs, rfl, hq, by rw [← hz, hl], ?_⟩
      have r2 : Rel F ((l.map A.d).zip vs ++ T) Γ S σ H := ⟨ρ, by
        have := r.tl
        refine { r with tl := fun q hq => ?_ }
        rcases List.mem_append.mp hq with hq | hq
        · obtain ⟨i, hi⟩ := List.mem_iff_getElem?.mp hq
          rw [List.getElem?_zip_eq_some, List.getElem?_map] at hi
          obtain ⟨hi1, hi2⟩ := hi
          obtain ⟨d', hd', rd⟩ := R.get hi2
          rw [hd'] at hi1
          cases q
          simp at hi1
          subst hi1
          exact rd
        · exact this q hq⟩
      exact hk F _ Γ S σ H l vs r2 hz hl (fun q hq => List.mem_append_left _ hq) _ fun σ' H' w r' => ⟨w, r'.drop fun q hq => List.mem_append_right _ hq⟩
    · cases q
  · cases q

/-! what is walked -/
def wpI (X : Cx) (tg iter : Expr) : TI := fun σ H R => ∀ (pins : List (Addr × Obj)) (s : Shared), Inv X pins σ H s → wpAny (model X.prog X.w) X.A (eval iter X.env) (fun v s1 => wpAny (model X.prog X.w) X.A (pyIter v) (PIE X pins σ tg R) X.xe s1) X.xe s
theorem pi_wp {tg iter : Expr} : PI X tg iter (wpI X tg iter) := ⟨fun pins s σ H R I h => h pins s I⟩
theorem wpI_of {tg iter : Expr} {t : TI} (h : PI X tg iter t) {σ : L2.St} {H : Hp} {R : It → Hp → Prop} (q : t σ H R) : wpI X tg iter σ H R := fun pins s I => h.run pins s σ H R I q
theorem wpI_mono {tg iter : Expr} {σ : L2.St} {H : Hp} {R R' : It → Hp → Prop} (h : wpI X tg iter σ H R) (k : ∀ J H', R J H' → R' J H') : wpI X tg iter σ H R' := fun pins s I => thn (h pins s I) fun _ _ h1 => thn h1 fun _ _ ⟨it, fp, tn, J, H', e, I', T, t0, f, q⟩ => ⟨it, fp, tn, J, H', e, I', T, t0, f, k _ _ q⟩
def ItSpec (K : PySem.W.Frag) (ci : Ci) (J : It) (U : List (A × V)) (it : So → Option (List D)) (ds : List D) : Prop :=
  ds.length ≤ sizeLine ∧ ∃ G Y, Walk J ds.length G Y ∧ ∀ (F : Fr K ci) T Γ S σ H, Rel F T Γ S σ H → (∀ q ∈ U, q ∈ T) → it S = some ds → G H ∧ ∀ i x H', i < ds.length → Y i H x H' → ∃ d, ds[i]? = some d ∧ Rel F ((.d d, x) :: T) Γ S σ H'
abbrev QI := Ga → So → Option (So → Option (List D))
def RI (ci : Ci) (X : Cx) (tg iter : Expr) (fi : QI) : Prop := ∀ (F : Fr X.K ci) T Γ S σ H it ds, Rel F T Γ S σ H → fi Γ S = some it → it S = some ds → wpI X tg iter σ H (fun J H' => ∃ U, ItSpec X.K ci J U it ds ∧ Rel F (U ++ T) Γ S σ H')
def iL (f : QF) : QI := fun Γ S => (f Γ S).map fun a S' => viewL S' a
def iT (f : QF) : QI := fun Γ S => (f Γ S).map fun a _ => viewT a
theorem ri_list {tg e : Expr} {f : QF} (h : RP ci X e f) : RI ci X tg e (iL f) := fun F T Γ S σ H it ds r q1 q2 => by
  unfold iL at q1
  cases e1 : f Γ S with
  | none => rw [e1] at q1; cases q1
  | some a =>
    rw [e1] at q1; cases q1
    refine wpI_of (pi_list pe_wp) (wpX_monoI (h F T Γ S σ H _ r e1) fun v H' hz h' => ?_)
    obtain ⟨ρ, h'⟩ := id h'
    obtain ⟨p, vs, rfl, hq, R⟩ := h'.viewL (h'.top List.mem_cons_self) q2
    refine ⟨p, rfl, ⟨vs, hq⟩, [(a, .ref p)], ⟨by rw [R.length]; exact hz p vs (.inl hq), fun H => ∃ xs, SqL X.K H p xs ∧ xs.length = ds.length, fun i H x H' => H' = H ∧ ∀ xs, SqL X.K H p xs → xs[i]? = some x, ⟨?_, ?_, ?_⟩, ?_⟩, ⟨ρ, h'⟩⟩
    · rintro i H hi ⟨xs, hs, hl⟩
      exact ⟨xs, xs[i]'(by omega), hs, by simp⟩
    · rintro H ⟨xs, hs, hl⟩
      exact ⟨xs, hs, by omega⟩
    · rintro i H x H' hi _ ⟨h1, h2⟩
      exact ⟨h1, h2⟩
    · intro F T Γ S σ H r hU hS
      obtain ⟨ρ, r⟩ := r
      have hm : (a, V.ref p) ∈ T := hU _ List.mem_cons_self
      obtain ⟨p', vs', e, hq', R'⟩ := r.viewL (r.top hm) hS
      cases e
      refine ⟨⟨vs', hq', R'.length.symm⟩, ?_⟩
      rintro i x H' hi ⟨rfl, h2⟩
      obtain ⟨d, hd, rd⟩ := R'.get (h2 vs' hq')
      exact ⟨d, hd, ρ, r.push rd⟩
theorem ri_tup {tg e : Expr} {f : QF} (h : RP ci X e f) : RI ci X tg e (iT f) := fun F T Γ S σ H it ds r q1 q2 => by
  unfold iT at q1
  cases e1 : f Γ S with
  | none => rw [e1] at q1; cases q1
  | some a =>
    rw [e1] at q1; cases q1
    refine wpI_of (pi_tup pe_wp) (wpX_monoI (h F T Γ S σ H _ r e1) fun v H' hz h' => ?_)
    obtain ⟨ρ, h'⟩ := id h'
    obtain ⟨p, vs, rfl, hq, R⟩ := RelR.viewT (h'.top List.mem_cons_self) q2
    refine ⟨p, rfl, ⟨vs, hq⟩, [(a, .ref p)], ⟨by rw [R.length]; exact hz p vs (.inr hq), fun H => ∃ xs, SqT X.K H p xs ∧ xs.length = ds.length, fun i H x H' => H' = H ∧ ∀ xs, SqT X.K H p xs → xs[i]? = some x, ⟨?_, ?_, ?_⟩, ?_⟩, ⟨ρ, h'⟩⟩
    · rintro i H hi ⟨xs, hs, hl⟩
      exact ⟨xs, xs[i]'(by omega), hs, by simp⟩
    · rintro H ⟨xs, hs, hl⟩
      exact ⟨xs, hs, by omega⟩
    · rintro i H x H' hi _ ⟨h1, h2⟩
      exact ⟨h1, h2⟩
    · intro F T Γ S σ H r hU hS
      obtain ⟨ρ, r⟩ := r
      have hm : (a, V.ref p) ∈ T := hU _ List.mem_cons_self
      obtain ⟨p', vs', e, hq', R'⟩ := RelR.viewT (r.top hm) hS
      cases e
      refine ⟨⟨vs', hq', R'.length.symm⟩, ?_⟩
      rintro i x H' hi ⟨rfl, h2⟩
      obtain ⟨d, hd, rd⟩ := R'.get (h2 vs' hq')
      exact ⟨d, hd, ρ, r.push rd⟩
/-- lo, lo + 1, .. -/
def rangeD (lo : Int) (n : Nat) : List D := (List.range n).map fun (i : Nat) => .int (lo + (i : Int))
def iR1 (f : QF) : QI := fun Γ S => (f Γ S).bind fun a => match a with
  | .d (.int j) => if -(2 ^ 62) ≤ j ∧ j ≤ 16777216 then some fun _ => some (rangeD 0 j.toNat) else none
  | _ => none
def iR2 (f g : QF) : QI := fun Γ S => (f Γ S).bind fun a => (g Γ S).bind fun b => match a, b with
  | .d (.int i), .d (.int j) => if 0 ≤ i ∧ i ≤ 16777216 ∧ 0 ≤ j ∧ j ≤ 16777216 then some fun _ => some (rangeD i (j - i).toNat) else none
  | _, _ => none
theorem range_spec {K : PySem.W.Frag} {lo : Int} {n : Nat} {it : So → Option (List D)} (hn : n ≤ 16777216) : ItSpec K ci (Itr lo n) [] it (rangeD lo n) := by
  have hl : (rangeD lo n).length = n := by simp [rangeD]
  refine ⟨by rw [hl]; exact Nat.le_trans hn (by decide), fun _ => True, YFn fun i => .int (lo + i), by rw [hl]; exact walk_range, fun F T Γ S σ H r _ _ => ⟨trivial, ?_⟩⟩
  rintro i x H' hi ⟨rfl, rfl⟩
  rw [hl] at hi
  exact ⟨.int (lo + i), by simp [rangeD, hi], r.int _⟩
theorem ri_r1 {tg e : Expr} {f : QF} {p pos : Pos} (hg : Gl X "range") (hm : X.mg "range" = none) (h : RP ci X e f) (hs : starEach [e] X.env = [(false, eval e X.env)] := by kernel_rfl) : RI ci X tg (.Call (.Name "range" p) [e] [] pos) (iR1 f) := fun F T Γ S σ H it ds r q1 q2 => by
  unfold iR1 at q1
  cases e1 : f Γ S with
  | none => rw [e1] at q1; cases q1
  | some a =>
    rw [e1, Option.bind_some] at q1
    split at q1
    · rename_i j
      split at q1
      · rename_i hj
        cases q1; cases q2
        refine wpI_of (pi_range1 hg hm (pa_cons pe_wp pa_nil hs) hs) (wpX_mono (h F T Γ S σ H _ r e1) fun v H' h' => ?_)
        have := h'.asInt List.mem_cons_self
        subst this
        exact ⟨j, rfl, hj.1, by omega, [], range_spec (by omega), h'.tail⟩
      · cases q1
    · cases q1
theorem ri_r2 {tg e e2 : Expr} {f g : QF} {p pos : Pos} (hg : Gl X "range") (hm : X.mg "range" = none) (h : RP ci X e f) (h2 : RP ci X e2 g) (hs : starEach [e, e2] X.env = [(false, eval e X.env), (false, eval e2 X.env)] := by kernel_rfl) (hs2 : starEach [e2] X.env = [(false, eval e2 X.env)] := by kernel_rfl) : RI ci X tg (.Call (.Name "range" p) [e, e2] [] pos) (iR2 f g) := fun F T Γ S σ H it ds r q1 q2 => by
  unfold iR2 at q1
  cases e1 : f Γ S with
  | none => rw [e1] at q1; cases q1
  | some a =>
    cases e3 : g Γ S with
    | none => rw [e1, e3] at q1; cases q1
    | some b =>
      rw [e1, e3, Option.bind_some, Option.bind_some] at q1
      split at q1
      · rename_i i j
        split at q1
        · rename_i hj
          cases q1; cases q2
          refine wpI_of (pi_range2 hg hm (pa_cons pe_wp (pa_cons pe_wp pa_nil hs2) (by rw [hs, hs2])) hs hs2) (wpX_mono (two h h2 r e1 e3) fun v H1 h1 => wpX_mono h1 fun u H' h' => ?_)
          have z1 := h'.asInt (v := u) List.mem_cons_self
          have z2 := h'.asInt (v := v) (i := i) (by simp)
          subst z1 z2
          exact ⟨i, j, rfl, ⟨by omega, by omega, by omega, by omega⟩, [], range_spec (by omega), h'.tail.tail⟩
        · cases q1
      · cases q1
/-! comprehensions -/
def compL {α β : Type} (h : α → Option (Option β)) : List α → Option (List β)
  | [] => some []
  | x :: xs => (h x).bind fun o => (compL h xs).map fun r => match o with | some y => y :: r | none => r
theorem compL_snoc {α β : Type} {h : α → Option (Option β)} {y : α} : ∀ {xs : List α} {r : List β} {o : Option β}, compL h xs = some r → h y = some o → compL h (xs ++ [y]) = some (match o with | some z => r ++ [z] | none => r)
  | [], r, o, e, e2 => by cases e; simp only [List.nil_append, compL, e2]; cases o <;> rfl
  | x :: xs, r, o, e, e2 => by
    simp only [List.cons_append, compL] at e ⊢
    cases e1 : h x with
    | none => rw [e1] at e; cases e
    | some p =>
      rw [e1, Option.bind_some] at e
      cases e3 : compL h xs with
      | none => rw [e3] at e; cases e
      | some r' =>
        rw [e3] at e; cases e
        rw [Option.bind_some, compL_snoc e3 e2]
        cases p <;> cases o <;> rfl
theorem compL_pre {α β : Type} {h : α → Option (Option β)} : ∀ {xs : List α} {r : List β} (i : Nat), compL h xs = some r → ∃ q, compL h (xs.take i) = some q
  | xs, r, 0, e => ⟨[], by simp [compL]⟩
  | [], r, i + 1, e => ⟨[], by simp [compL]⟩
  | x :: xs, r, i + 1, e => by
    simp only [List.take_succ_cons, compL] at e ⊢
    cases e1 : h x with
    | none => rw [e1] at e; cases e
    | some p =>
      rw [e1, Option.bind_some] at e
      cases e3 : compL h xs with
      | none => rw [e3] at e; cases e
      | some r' =>
        obtain ⟨q, hq⟩ := compL_pre i e3
        rw [Option.bind_some, hq]
        exact ⟨_, rfl⟩
theorem compL_at {α β : Type} {h : α → Option (Option β)} : ∀ {xs : List α} {r : List β} {i : Nat} {x : α}, compL h xs = some r → xs[i]? = some x → ∃ o, h x = some o
  | [], r, i, x, e, hx => by simp at hx
  | y :: xs, r, i, x, e, hx => by
    simp only [compL] at e
    cases e1 : h y with
    | none => rw [e1] at e; cases e
    | some p =>
      rw [e1, Option.bind_some] at e
      cases e3 : compL h xs with
      | none => rw [e3] at e; cases e
      | some r' =>
        cases i with
        | zero => simp at hx; subst hx; exact ⟨p, e1⟩
        | succ i => exact compL_at e3 (by simpa using hx)
theorem compL_len {α β : Type} {h : α → Option (Option β)} : ∀ {xs : List α} {r : List β}, compL h xs = some r → r.length ≤ xs.length
  | [], r, e => by cases e; simp
  | y :: xs, r, e => by
    simp only [compL] at e
    cases e1 : h y with
    | none => rw [e1] at e; cases e
    | some p =>
      rw [e1, Option.bind_some] at e
      cases e3 : compL h xs with
      | none => rw [e3] at e; cases e
      | some r' =>
        rw [e3] at e; cases e
        have := compL_len e3
        cases p <;> simp <;> omega
theorem compL_map {α β γ : Type} {h : β → Option (Option γ)} {f : α → β} : ∀ {xs : List α}, compL h (xs.map f) = compL (fun x => h (f x)) xs
  | [] => rfl
  | x :: xs => by simp only [List.map_cons, compL, compL_map]
theorem compL_some {α β : Type} {f : α → β} : ∀ {xs : List α}, compL (fun x => some (some (f x))) xs = some (xs.map f)
  | [] => rfl
  | x :: xs => by simp only [List.map_cons, compL, compL_some]; rfl
theorem compL_if {α β : Type} {p : α → Bool} {f : α → β} : ∀ {xs : List α}, compL (fun x => if p x = true then some (some (f x)) else some none) xs = some ((xs.filter p).map f)
  | [] => rfl
  | x :: xs => by
    simp only [compL, compL_if, List.filter_cons]
    by_cases h : p x = true
    · simp only [h, ↓reduceIte]; rfl
    · simp only [h]; rfl
theorem compL_congr {α β : Type} {h h' : α → Option (Option β)} : ∀ {xs : List α}, (∀ x ∈ xs, h x = h' x) → compL h xs = compL h' xs
  | [], _ => rfl
  | x :: xs, k => by
    simp only [compL]
    rw [k x List.mem_cons_self, compL_congr fun y hy => k y (List.mem_cons_of_mem _ hy)]
/-- within the block of a comprehension, whatever it is made of -/
abbrev BlkX (X : Cx) (scope : Scope) (P : Cx → Prop) : Prop := ∀ (s : Shared) (H : Hp) (C : Addr) (cl : List (Str × Addr)) (fp : List Addr), P (X.blk s H scope (compEnvC scope cl C X.env) fp)
/-- its tests -/
def RC (ci : Ci) (X : Cx) (ifs : List Expr) (b : QB) : Prop := (ifs = [] ∧ b = fun _ _ => some true) ∨ ∃ e, ifs = [e] ∧ RB ci X e b
theorem rc_nil : RC ci X [] (fun _ _ => some true) := .inl ⟨rfl, rfl⟩
theorem rc_one {e : Expr} {b : QB} (h : RB ci X e b) : RC ci X [e] b := .inr ⟨e, rfl, h⟩
def eltF (t : TgF) (vs : List Nat) (b : QB) (f : QF) (Γ : Ga) (S : So) (d : D) : Option (Option D) := (t (wipeG Γ vs) d).bind fun Γ' => (b Γ' S).bind fun c => if c = true then ((f Γ' S).bind A.toD).map some else some none
def fComp (fi : QI) (t : TgF) (vs : List Nat) (b : QB) (f : QF) : QF := fun Γ S => (fi Γ S).bind fun it => (it S).bind fun ds => (compL (eltF t vs b f Γ S) ds).map fun l => .d (.lst l)
def wpC (X : Cx) (ifs : List Expr) : TT := fun σ H Q => ∀ (pins : List (Addr × Obj)) (s : Shared), Inv X pins σ H s →
    wpAny (model X.prog X.w) X.A (forIn ifs true fun c r => if r = true then do let ok ← isTrue c X.env (eval c X.env); pure (ForInStep.yield ok) else pure (ForInStep.yield r)) (TP X pins σ Q) X.xe s
theorem pts_wp {Y : Cx} {ifs : List Expr} : PTs Y ifs (wpC Y ifs) := ⟨fun pins s σ H Q I h => h pins s I⟩
theorem wpC_of {Y : Cx} {ifs : List Expr} {t : TT} (h : PTs Y ifs t) {σ : L2.St} {H : Hp} {Q : Bool → Hp → Prop} (q : t σ H Q) : wpC Y ifs σ H Q := fun pins s I => h.run pins s σ H Q I q
theorem wpC_mono {Y : Cx} {ifs : List Expr} {σ : L2.St} {H : Hp} {Q Q' : Bool → Hp → Prop} (h : wpC Y ifs σ H Q) (k : ∀ b H', Q b H' → Q' b H') : wpC Y ifs σ H Q' := fun pins s I => thn (h pins s I) fun _ _ ⟨H', I', q⟩ => ⟨H', I', k _ H' q⟩
def gB (X : Cx) (scope : Scope) (tg : Expr) : TG := fun v σ H Q => BlkX X scope fun Y => gWp Y tg v σ H Q
def tB' (X : Cx) (scope : Scope) (ifs : List Expr) : TT := fun σ H Q => BlkX X scope fun Y => wpC Y ifs σ H Q
def eB (X : Cx) (scope : Scope) (e : Expr) : TE := fun σ H Q => BlkX X scope fun Y => wpX Y e σ H Q
theorem snd_eq {own : List (Str × Nat)} {vs : List Nat} (h : own.map (·.2) = vs) : own.map (·.2) = vs := h
/-- the reading of a comprehension -/
theorem comp_run {elt tg iter : Expr} {ifs : List Expr} {scope : Scope} {vs : List Nat} {fi : QI} {t : TgF} {ws : List Nat} {b : QB} {f : QF} (hi : RI ci X tg iter fi) (hg : BlkX X scope fun Y => RG ci Y tg t ws) (hw : ∀ i ∈ ws, i ∈ vs) (hb : BlkX X scope fun Y => RC ci Y ifs b) (hf : BlkX X scope fun Y => RP ci Y elt f)
    {F : Fr X.K ci} {T : List (A × V)} {Γ : Ga} {S : So} {σ : L2.St} {H : Hp} {a : A} (r : Rel F T Γ S σ H) (q : fComp fi t vs b f Γ S = some a) {Q : VK} (k : ∀ p H', Rel F ((a, .ref p) :: T) Γ S σ H' → Q (.ref p) H') :
    tLc (wpI X tg iter) (gB X scope tg) (tB' X scope ifs) (eB X scope elt) vs σ H Q := by
  unfold fComp at q
  cases e1 : fi Γ S with
  | none => rw [e1] at q; cases q
  | some it =>
    rw [e1, Option.bind_some] at q
    cases e2 : it S with
    | none => rw [e2] at q; cases q
    | some ds =>
      rw [e2, Option.bind_some] at q
      cases e3 : compL (eltF t vs b f Γ S) ds with
      | none => rw [e3] at q; cases q
      | some res =>
        rw [e3] at q; cases q
        refine wpI_mono (hi F T Γ S σ H it ds r e1 e2) fun J H1 ⟨U, ⟨hsz, G, Y, W, spec⟩, r1⟩ Dl hD => ?_
        obtain ⟨ρ1, r1⟩ := r1
        obtain ⟨V', hV, r1⟩ := r1.keep
        have hgs := r1.gs
        let T1 := V' ++ (U ++ T)
        let Pv : Nat → Hp → Prop := fun i H' => ∃ acc vs' Hb ρ, compL (eltF t vs b f Γ S) (ds.take i) = some acc ∧ Hb Dl = none ∧ H' = upd Hb Dl (.lst vs') ∧ acc.length = vs'.length ∧ RelR F ρ ((acc.map A.d).zip vs' ++ T1) Γ S σ Hb
        refine lc_it W Pv ⟨[], [], H1, ρ1, by simp [compL], hD, rfl, rfl, r1⟩ ?_ ?_ ?_
        · rintro i H' _ ⟨acc, vs', Hb, ρ, h1, h2, rfl, h3, h4⟩
          exact (spec F _ Γ S σ _ ⟨ρ, h4.alloc h2⟩ (fun q hq => by simp [T1, hq]) e2).1
        · rintro i x H2 H3 hlt ⟨acc, vs', Hb, ρ, h1, h2, rfl, h3, h4⟩ hy
          have rin := h4.hideIn (o := .lst vs') h2
          obtain ⟨d, hd, r3⟩ := (spec _ _ Γ S σ _ ⟨ρ, rin⟩ (fun q hq => by simp [T1, hq]) e2).2 i x H3 hlt hy
          obtain ⟨o, ho⟩ := compL_at e3 hd
          have hacc := compL_snoc h1 ho
          have htk : ds.take (i + 1) = ds.take i ++ [d] := by rw [List.take_succ, hd]; rfl
          rw [← htk] at hacc
          have hlen : vs'.length < sizeLine := by
            have a1 := compL_len h1
            have a2 : (ds.take i).length ≤ i := by rw [List.length_take]; omega
            omega
          unfold eltF at ho
          cases e4 : t (wipeG Γ vs) d with
          | none => rw [e4] at ho; cases ho
          | some Γ' =>
            rw [e4, Option.bind_some] at ho
            cases e5 : b Γ' S with
            | none => rw [e5] at ho; cases ho
            | some c =>
              rw [e5, Option.bind_some] at ho
              obtain ⟨ρ3, r3⟩ := r3
              intro s0 H0 C cl fp
              refine gWp_mono (hg s0 H0 C cl fp _ _ (wipeG Γ vs) S (wipe σ vs) H3 d x Γ' ⟨ρ3, r3.wipe vs⟩ List.mem_cons_self e4) fun σ2 H4 ⟨w1, r4⟩ => ?_
              refine ⟨by rw [w1 vs hw, wipe_idem vs vs fun _ h => h], ?_⟩
              have back : ∀ {ρ5 : List Addr} {T5 : List (A × V)} {H5 : Hp}, RelR (F.hide (upd Hb Dl (.lst vs')) ρ S Dl) ρ5 (T5 ++ ((acc.map A.d).zip vs' ++ T1)) Γ' S σ2 H5 → H5 Dl = some (.lst vs') ∧ RelR F ρ5 (T5 ++ ((acc.map A.d).zip vs' ++ T1)) Γ S σ (less H5 Dl) := fun {ρ5 T5 H5} r5 => by
                obtain ⟨q1, q2⟩ := h4.hideOut h2 r5
                refine ⟨q1, q2.slots hgs fun j a e => ?_⟩
                obtain ⟨v, v1, v2⟩ := hV j a e
                exact ⟨v, v1, q2.tl (a, v) (by simp [T1, v2])⟩
              intro s0 H0 C cl fp
              have tst : wpC (X.blk s0 H0 scope (compEnvC scope cl C X.env) fp) ifs σ2 H4 (fun c' H' => c' = c ∧ Rel (F.hide (upd Hb Dl (.lst vs')) ρ S Dl) ((.d d, x) :: ((acc.map A.d).zip vs' ++ T1)) Γ' S σ2 H') := by
                rcases hb s0 H0 C cl fp with ⟨rfl, rfl⟩ | ⟨e0, rfl, hbb⟩
                · cases e5
                  exact wpC_of pts_nil ⟨rfl, r4⟩
                · exact wpC_of (pts_one pt_wp) (hbb _ _ Γ' S σ2 H4 c r4 e5)
              refine wpC_mono tst fun c' H5 ⟨hc', r5⟩ => ?_
              subst hc'
              cases c' with
              | false =>
                rw [if_neg Bool.false_ne_true] at ho
                cases ho
                refine iteF ?_
                obtain ⟨ρ5, r5⟩ := r5
                obtain ⟨q1, q2⟩ := back (T5 := [_]) r5
                refine ⟨acc, vs', less H5 Dl, ρ5, hacc, less_same, ?_, h3, q2.drop fun q hq => List.mem_cons_of_mem _ hq⟩
                rw [← upd_less]
                funext z
                by_cases hz : z = Dl
                · subst hz; rw [upd_same, q1]
                · rw [upd_ne hz]
              | true =>
                rw [if_pos rfl] at ho
                cases e6 : f Γ' S with
                | none => rw [e6] at ho; cases ho
                | some a6 =>
                  cases a6 with
                  | loc k6 => rw [e6] at ho; cases ho
                  | d d6 =>
                    rw [e6] at ho
                    cases ho
                    refine iteT ?_
                    intro s0 H0 C cl fp
                    refine wpX_mono (hf s0 H0 C cl fp _ _ Γ' S σ2 H5 _ r5 e6) fun y H6 r6 => ?_
                    obtain ⟨ρ6, r6⟩ := r6
                    obtain ⟨q1, q2⟩ := back (T5 := [_, _]) r6
                    refine ⟨vs', q1, hlen, acc ++ [d6], vs' ++ [y], less H6 Dl, ρ6, hacc, less_same, upd_less, by simp [h3], ?_⟩
                    refine q2.drop fun q hq => ?_
                    have e7 : ((acc ++ [d6]).map A.d).zip (vs' ++ [y]) = (acc.map A.d).zip vs' ++ [(A.d d6, y)] := by
                      rw [List.map_append, List.zip_append (by simp [h3])]; rfl
                    rw [e7] at hq
                    simp only [List.mem_append, List.mem_cons, List.not_mem_nil, or_false, List.cons_append, List.nil_append] at hq ⊢
                    rcases hq with (hq | hq) | hq
                    · exact .inr (.inr (.inl hq))
                    · exact .inl hq
                    · exact .inr (.inr (.inr hq))
        · rintro H' ⟨acc, vs', Hb, ρ, h1, h2, rfl, h3, h4⟩
          rw [List.take_length, e3] at h1
          cases h1
          refine k Dl _ ⟨ρ, ?_⟩
          have R := reps_of h4 h3 fun q hq => List.mem_append_left _ hq
          exact (h4.newL h2 R).drop fun q hq => by
            rcases List.mem_cons.mp hq with rfl | hq
            · exact List.mem_cons_self
            · simp [T1, hq]
theorem rp_lc {elt tg iter : Expr} {ifs : List Expr} {scope : Scope} {own : List (Str × Nat)} {pos : Pos} {fi : QI} {t : TgF} {ws : List Nat} {b : QB} {f : QF} (hc : X.calm = true) (hN : X.N.Nodup) (hi : RI ci X tg iter fi) (ok : BlkOk X.N X.env.scope scope own)
    (hg : BlkX X scope fun Y => RG ci Y tg t ws) (hb : BlkX X scope fun Y => RC ci Y ifs b) (hf : BlkX X scope fun Y => RP ci Y elt f) (hw : ∀ i ∈ ws, i ∈ own.map (·.2) := by decide) (hs : ∀ x, foldedSetIterable iter X.env x = pure x := by intro _; rfl) :
    RP ci X (.ListComp elt [⟨tg, iter, ifs, 0⟩] scope pos) (fComp fi t (own.map (·.2)) b f) := fun F T Γ S σ H a r q =>
  wpX_of (pe_lc (te := eB X scope elt) (tt := tB' X scope ifs) (g := gB X scope tg) hc hN pi_wp ok (fun s H C cl fp => ⟨fun pins s' σ H' v u Q I r h => h s H C cl fp pins s' u I r⟩)
    (fun s H C cl fp => ⟨fun pins s' σ H' Q I h => h s H C cl fp pins s' I⟩) (fun s H C cl fp => ⟨fun pins s' σ H' Q I h => h s H C cl fp pins s' I⟩) hs) (comp_run hi hg hw hb hf r q fun p H' h => h)
end
end LP

namespace LP
open PySem PySem.Spec PyProof.Rows L2

/-! what is wanted: of an error, of a value, behind a statement -/
abbrev EK := Er → So → Prop
abbrev AK := A → So → Prop
def ErrRep {K : PySem.W.Frag} (ci : Ci) (F : Fr K ci) (ρ : List Addr) (S : So) (er : Er) (cls : Value) (d : Option Addr) (H : Hp) : Prop :=
  cls = .ref (ci er.c).1 ∧ ∃ dx vs, d = some dx ∧ H dx = some (.xd ((er.fs.map (·.1)).zip vs)) ∧ dx ∉ mu F ρ S ∧ vs.length = er.fs.length ∧ Reps K ci (mu F ρ S) H (er.fs.map (·.2)) vs
def ExW {K : PySem.W.Frag} {ci : Ci} (F : Fr K ci) (ex : EK) : Value → Option Addr → Hp → Prop := fun cls d H => ∃ er S ρ, RelR F ρ [] [] S [] H ∧ ErrRep ci F ρ S er cls d H ∧ ex er S
def Xok (X : Cx) {ci : Ci} (F : Fr X.K ci) (ex : EK) : Prop := Takes X fun cls d _ H => ExW F ex cls d H
abbrev WE := Ga → So → EK → AK → Prop
abbrev WT := Ga → So → EK → (Bool → So → Prop) → Prop
abbrev WAs := Ga → So → EK → (List A → So → Prop) → Prop
structure Dn where
  nx : Ga → So → Prop
  rt : AK
  bk : Ga → So → Prop := fun _ _ => False
  ct : Ga → So → Prop := fun _ _ => False
  ex : EK
abbrev WS := Ga → So → Dn → Prop
def VEnd {K : PySem.W.Frag} {ci : Ci} (F : Fr K ci) (T : List (A × V)) (Γ : Ga) (σ : L2.St) (Q : AK) : VK := fun v H' => ∃ a S', Rel F ((a, v) :: T) Γ S' σ H' ∧ Q a S'
def TEnd {K : PySem.W.Frag} {ci : Ci} (F : Fr K ci) (T : List (A × V)) (Γ : Ga) (σ : L2.St) (Q : Bool → So → Prop) : Bool → Hp → Prop := fun b H' => ∃ S', Rel F T Γ S' σ H' ∧ Q b S'
def AEnd {K : PySem.W.Frag} {ci : Ci} (F : Fr K ci) (n : Nat) (T : List (A × V)) (Γ : Ga) (σ : L2.St) (Q : List A → So → Prop) : List V → Hp → Prop := fun vs H' => ∃ as S', as.length = vs.length ∧ as.length = n ∧ Rel F ((as.zip vs) ++ T) Γ S' σ H' ∧ Q as S'
def SEnd {K : PySem.W.Frag} {ci : Ci} (F : Fr K ci) (T : List (A × V)) (D : Dn) : Ends where
  nx := fun σ' H' => ∃ Γ' S', Rel F T Γ' S' σ' H' ∧ D.nx Γ' S'
  rt := fun v H' => ∃ a S', Rel F [(a, v)] [] S' [] H' ∧ D.rt a S'
  bk := fun σ' H' => ∃ Γ' S', Rel F T Γ' S' σ' H' ∧ D.bk Γ' S'
  ct := fun σ' H' => ∃ Γ' S', Rel F T Γ' S' σ' H' ∧ D.ct Γ' S'
def RE (ci : Ci) (X : Cx) (e : Expr) (w : WE) : Prop := ∀ (F : Fr X.K ci) ex, Xok X F ex → ∀ T Γ S σ H Q, Rel F T Γ S σ H → w Γ S ex Q → wpX X e σ H (VEnd F T Γ σ Q)
def RT (ci : Ci) (X : Cx) (e : Expr) (w : WT) : Prop := ∀ (F : Fr X.K ci) ex, Xok X F ex → ∀ T Γ S σ H Q, Rel F T Γ S σ H → w Γ S ex Q → wpT X e σ H (TEnd F T Γ σ Q)
def RA (ci : Ci) (X : Cx) (es : List Expr) (w : WAs) : Prop := ∀ (F : Fr X.K ci) ex, Xok X F ex → ∀ T Γ S σ H Q, Rel F T Γ S σ H → w Γ S ex Q → wpA X es σ H (AEnd F es.length T Γ σ Q)
def RS (ci : Ci) (X : Cx) (st : Stmt) (w : WS) : Prop := ∀ (F : Fr X.K ci) (D : Dn), Xok X F D.ex → ∀ T Γ S σ H, Rel F T Γ S σ H → w Γ S D → wpS X st (SEnd F T D) σ H
def RSs (ci : Ci) (X : Cx) (st : List Stmt) (w : WS) : Prop := ∀ (F : Fr X.K ci) (D : Dn), Xok X F D.ex → ∀ T Γ S σ H, Rel F T Γ S σ H → w Γ S D → wpSs X st (SEnd F T D) σ H

section
variable {K : PySem.W.Frag} {ci : Ci} {F : Fr K ci} {ρ : List Addr} {T : List (A × V)} {Γ : Ga} {S : So} {σ : L2.St} {H H' : Hp}
theorem RelR.bare (r : RelR F ρ T Γ S σ H) : RelR F ρ T [] S [] H := ⟨r.pre, r.len, r.nd, r.st, rfl, fun i a e => by simp at e, r.tl, r.ext, r.fr, r.fo⟩
theorem Rel.bare (r : Rel F T Γ S σ H) : Rel F T [] S [] H := let ⟨ρ, r⟩ := r; ⟨ρ, r.bare⟩
/-- behind a frame within: the old slots and temporaries stand -/
theorem RelR.after (r : RelR F ρ T Γ S σ H) {ρ' : List Addr} {T' : List (A × V)} {Γ' : Ga} {S' : So} {σ' : L2.St} (q : RelR (F.here H ρ S) ρ' T' Γ' S' σ' H') : RelR F ρ' (T' ++ T) Γ S' σ H' := by
  have hh : ∀ a o, H a = some o → a ∉ mu F ρ S → H' a = some o ∧ a ∉ mu F ρ' S' := fun a o e n => by
    refine ⟨q.ext a o e fun z => n (List.mem_append_left _ z), fun z => ?_⟩
    rcases List.mem_append.mp z with z | z
    · rcases q.fr a z with h | h
      · exact n (List.mem_append_left _ h)
      · have h' : H a = none := h
        rw [h'] at e; cases e
    · exact n (List.mem_append_right _ z)
  have g := r.there q
  refine ⟨g.pre, g.len, g.nd, g.st, r.gs, fun i a e => ?_, fun b hb => ?_, g.ext, g.fr, g.fo⟩
  · obtain ⟨v, e1, h⟩ := r.gl i a e
    exact ⟨v, e1, h.mono hh q.pre⟩
  · rcases List.mem_append.mp hb with hb | hb
    · exact g.tl b hb
    · exact (r.tl b hb).mono hh q.pre
/-- a callee that sees nothing that may change -/
def Fr.shut (F : Fr K ci) (H : Hp) (ρ : List Addr) (S : So) : Fr K ci := ⟨H, [], [], mu F ρ S⟩
theorem ARep.dd {ρ ρ' M : List Addr} {d : D} {v : V} (h : ARep K ci ρ M H (.d d) v) : ARep K ci ρ' M H (.d d) v := h
theorem RelR.shut (r : RelR F ρ T Γ S σ H) {U : List (A × V)} (hU : ∀ q ∈ U, q ∈ T) (hd : ∀ q ∈ U, ∃ d, q.1 = A.d d) : RelR (F.shut H ρ S) [] U [] [] [] H := by
  have em : mu (F.shut H ρ S) [] ([] : So) = mu F ρ S := by show mutA [] [] ++ mu F ρ S = mu F ρ S; rfl
  refine ⟨List.prefix_refl _, rfl, by simp [mutA], fun k p o e => (by simp at e), rfl, fun i a e => (by simp at e), fun q hq => ?_, fun a o e _ => e, fun p hp => (by simp [mutA] at hp), fun p hp => ⟨(by intro z; cases z), ?_⟩⟩
  · rw [em]
    have := r.tl q (hU q hq)
    obtain ⟨d, hd⟩ := hd q hq
    rw [hd] at this ⊢
    exact this.dd
  · intro z
    have z' : H p = none := z
    exact r.fresh z' hp
theorem RelR.unshut (r : RelR F ρ T Γ S σ H) {ρ' : List Addr} {d : D} {v : V} {Γ' : Ga} {S' : So} {σ' : L2.St} {T' : List (A × V)} (q : RelR (F.shut H ρ S) ρ' T' Γ' S' σ' H') (hq : (A.d d, v) ∈ T') : RelR F ρ ((.d d, v) :: T) Γ S σ H' := by
  have h0 : ∀ a o, H a = some o → H' a = some o := fun a o e => q.ext a o e (by intro z; cases z)
  have hh : ∀ a o, H a = some o → a ∉ mu F ρ S → H' a = some o ∧ a ∉ mu F ρ S := fun a o e n => ⟨h0 a o e, n⟩
  have g : RelR F ρ T Γ S σ H' := r.move (List.prefix_refl _) r.len r.nd hh (fun k p o e1 e2 => (r.st k p o e1 e2).mono hh (List.prefix_refl _) fun hl => by
    obtain ⟨u, hu, _⟩ := (r.st k p o e1 e2).there hl
    rw [h0 p u hu, hu]) (fun a o e n => h0 a o (r.ext a o e n)) r.fr
  refine g.push ?_
  have := q.tl _ hq
  exact Rep.mono (fun a o e n => ⟨e, fun z => n (List.mem_append_right _ z)⟩) d v this
/-- a callee's error -/
theorem RelR.unshutE (r : RelR F ρ T Γ S σ H) {ρ' : List Addr} {S' : So} {er : Er} {cls : Value} {dd : Option Addr} (q : RelR (F.shut H ρ S) ρ' [] [] S' [] H') (hq : ErrRep ci (F.shut H ρ S) ρ' S' er cls dd H') : RelR F ρ T Γ S σ H' ∧ ErrRep ci F ρ S er cls dd H' := by
  have h0 : ∀ a o, H a = some o → H' a = some o := fun a o e => q.ext a o e (by intro z; cases z)
  have hh : ∀ a o, H a = some o → a ∉ mu F ρ S → H' a = some o ∧ a ∉ mu F ρ S := fun a o e n => ⟨h0 a o e, n⟩
  refine ⟨r.move (List.prefix_refl _) r.len r.nd hh (fun k p o e1 e2 => (r.st k p o e1 e2).mono hh (List.prefix_refl _) fun hl => by
    obtain ⟨u, hu, _⟩ := (r.st k p o e1 e2).there hl
    rw [h0 p u hu, hu]) (fun a o e n => h0 a o (r.ext a o e n)) r.fr, ?_⟩
  obtain ⟨h1, dx, vs, h2, h3, h4, h5, h6⟩ := hq
  exact ⟨h1, dx, vs, h2, h3, fun z => h4 (List.mem_append_right _ z), h5, h6.mono fun a o e n => ⟨e, fun z => n (List.mem_append_right _ z)⟩⟩
end

/-! a thing that will not change any more -/
def frz (S : So) : A → Option (D × So)
  | .d x => some (x, S)
  | .loc k => match S[k]? with
    | some (.lst as) => (dataOf as).map fun l => (.lst l, S.set k (.frz (.lst l)))
    | some (.dK ks as) => (dataOf as).map fun l => (.dic ks l, S.set k (.frz (.dic ks l)))
    | some (.frz d) => some (d, S)
    | _ => none
theorem Rel.frz {K : PySem.W.Frag} {ci : Ci} {F : Fr K ci} {T : List (A × V)} {Γ : Ga} {S S' : So} {σ : L2.St} {H : Hp} {a : A} {v : V} {d : D} (r : Rel F ((a, v) :: T) Γ S σ H) (e : frz S a = some (d, S')) : Rel F ((.d d, v) :: T) Γ S' σ H := by
  obtain ⟨ρ, r⟩ := r
  unfold LP.frz at e
  split at e
  · cases e; exact ⟨ρ, r⟩
  · rename_i k
    obtain ⟨p, hp, rfl⟩ := r.top (a := .loc k) (v := v) List.mem_cons_self
    split at e
    · rename_i as hs
      cases e1 : dataOf as with
      | none => rw [e1] at e; cases e
      | some l =>
        rw [e1] at e; cases e
        obtain ⟨vs, e2, q⟩ := r.st k p _ hp hs
        rw [dataOf_eq e1] at q
        have := r.freeze (d := .lst l) hp hs rfl fun M' hM hn => by
          rw [Rep]
          exact ⟨p, vs, rfl, ⟨e2, hn⟩, q.data.mono hM⟩
        exact ⟨ρ, (this.1.drop fun x hx => List.mem_cons_of_mem _ hx).push this.2⟩
    · rename_i ks as hs
      cases e1 : dataOf as with
      | none => rw [e1] at e; cases e
      | some l =>
        rw [e1] at e; cases e
        obtain ⟨vs, e2, hz, q⟩ := r.st k p _ hp hs
        rw [dataOf_eq e1] at q
        have := r.freeze (d := .dic ks l) hp hs rfl fun M' hM hn => by
          rw [Rep]
          exact ⟨p, vs, rfl, .inl e2, hn, hz, q.data.mono hM⟩
        exact ⟨ρ, (this.1.drop fun x hx => List.mem_cons_of_mem _ hx).push this.2⟩
    · rename_i d' hs
      cases e
      have := r.st k p _ hp hs
      exact ⟨ρ, (r.drop fun x hx => List.mem_cons_of_mem _ hx).push this⟩
    · cases e

/-! expressions -/
def wP (f : QF) : WE := fun Γ S _ Q => ∃ a, f Γ S = some a ∧ Q a S
def wB (f : QB) : WT := fun Γ S _ Q => ∃ b, f Γ S = some b ∧ Q b S
def wPs (f : QFs) : WAs := fun Γ S _ Q => ∃ a, f Γ S = some a ∧ Q a S
def wOp (g : So → A → A → Option D) (wa wb : WE) : WE := fun Γ S ex Q => wa Γ S ex fun x S1 => wb Γ S1 ex fun y S2 => ∃ d, g S2 x y = some d ∧ Q (.d d) S2
def wNil : WAs := fun _ S _ Q => Q [] S
def wCons (w : WE) (ws : WAs) : WAs := fun Γ S ex Q => w Γ S ex fun a S1 => ws Γ S1 ex fun as S2 => Q (a :: as) S2
def wFrz (w : WE) : WE := fun Γ S ex Q => w Γ S ex fun a S1 => ∃ d S2, frz S1 a = some (d, S2) ∧ Q (.d d) S2
section
variable {ci : Ci} {X : Cx}
theorem re_p {e : Expr} {f : QF} (h : RP ci X e f) : RE ci X e (wP f) := fun F ex _ T Γ S σ H Q r ⟨a, e1, q⟩ => wpX_mono (h F T Γ S σ H a r e1) fun v H' h' => ⟨a, S, h', q⟩
theorem rt_b {e : Expr} {f : QB} (h : RB ci X e f) : RT ci X e (wB f) := fun F ex _ T Γ S σ H Q r ⟨b, e1, q⟩ => wpT_mono (h F T Γ S σ H b r e1) fun v H' ⟨h1, h'⟩ => ⟨S, h', by rw [h1]; exact q⟩
theorem ra_p {es : List Expr} {f : QFs} (h : RPs ci X es f) : RA ci X es (wPs f) := fun F ex _ T Γ S σ H Q r ⟨a, e1, q⟩ => wpA_mono (h.2 F T Γ S σ H a r e1) fun v H' ⟨hz, h'⟩ => ⟨a, S, hz, h.1 _ _ _ e1, h', q⟩
theorem re_frz {e : Expr} {w : WE} (h : RE ci X e w) : RE ci X e (wFrz w) := fun F ex xo T Γ S σ H Q r q => wpX_mono (h F ex xo T Γ S σ H _ r q) fun v H' ⟨a, S1, r1, d, S2, e, q1⟩ => ⟨.d d, S2, r1.frz e, q1⟩
theorem re_op {op : Operator} {a b : Expr} {pos : Pos} {g : So → A → A → Option D} {wa wb : WE} (ho : OpG ci X (binaryOp op) g) (ha : RE ci X a wa) (hb : RE ci X b wb) : RE ci X (.BinOp a op b pos) (wOp g wa wb) := fun F ex xo T Γ S σ H Q r q => by
  obtain ⟨rr, hr, hk⟩ := ho
  refine wpX_of (pe_op hr pe_wp pe_wp) (wpX_mono (ha F ex xo T Γ S σ H _ r q) fun v H1 ⟨x, S1, r1, q1⟩ => wpX_mono (hb F ex xo _ Γ S1 σ H1 _ r1 q1) fun u H2 ⟨y, S2, r2, d, e, q2⟩ => ?_)
  exact hk F _ Γ S2 σ H2 v u x y d r2 (by simp) (by simp) e _ fun w H3 h3 => ⟨.d d, S2, h3.drop drop3, q2⟩
theorem re_cmp {op : CmpOp} {a b : Expr} {pos : Pos} {g : So → A → A → Option D} {wa wb : WE} (ho : OpG ci X (compareOp op) g) (ha : RE ci X a wa) (hb : RE ci X b wb) (hm : behindInMarks op b = false) : RE ci X (.Compare a [op] [b] pos) (wOp g wa wb) := fun F ex xo T Γ S σ H Q r q => by
  obtain ⟨rr, hr, hk⟩ := ho
  refine wpX_of (pe_cmpR hr pe_wp pe_wp hm) (wpX_mono (ha F ex xo T Γ S σ H _ r q) fun v H1 ⟨x, S1, r1, q1⟩ => wpX_mono (hb F ex xo _ Γ S1 σ H1 _ r1 q1) fun u H2 ⟨y, S2, r2, d, e, q2⟩ => ?_)
  exact hk F _ Γ S2 σ H2 v u x y d r2 (by simp) (by simp) e _ fun w H3 h3 => ⟨.d d, S2, h3.drop drop3, q2⟩
theorem ra_nil : RA ci X [] wNil := fun F ex _ T Γ S σ H Q r q => wpA_of pa_nil ⟨[], S, rfl, rfl, r, q⟩
theorem ra_cons {e : Expr} {es : List Expr} {w : WE} {ws : WAs} (h : RE ci X e w) (hs : RA ci X es ws) (hst : starEach (e :: es) X.env = (false, eval e X.env) :: starEach es X.env := by kernel_rfl) : RA ci X (e :: es) (wCons w ws) := fun F ex xo T Γ S σ H Q r q => by
  refine wpA_of (pa_cons pe_wp pa_wp hst) (wpX_mono (h F ex xo T Γ S σ H _ r q) fun v H1 ⟨a, S1, r1, q1⟩ => wpA_mono (hs F ex xo _ Γ S1 σ H1 _ r1 q1) fun vs H2 ⟨as, S2, hz, hn, r2, q2⟩ => ?_)
  refine ⟨a :: as, S2, by simp [hz], by simp [hn], r2.drop fun x hx => ?_, q2⟩
  rw [List.zip_cons_cons] at hx
  simp only [List.cons_append, List.mem_cons, List.mem_append] at hx ⊢
  rcases hx with hx | hx | hx <;> simp [hx]
/-- displays: data alone (a thing that may change is frozen first, by wFrz) -/
def wTup (ws : WAs) : WE := fun Γ S ex Q => ws Γ S ex fun as S1 => ∃ l, dataOf as = some l ∧ Q (.d (.tup l)) S1
def wLst (ws : WAs) : WE := fun Γ S ex Q => ws Γ S ex fun as S1 => ∃ l, dataOf as = some l ∧ Q (.d (.lst l)) S1
/-- a list that may change -/
def wNewL (ws : WAs) : WE := fun Γ S ex Q => ws Γ S ex fun as S1 => Q (.loc S1.length) (S1 ++ [.lst as])
theorem re_tup {es : List Expr} {ws : WAs} {x1 : Nat} {pos : Pos} (h : RA ci X es ws) (hl : Nat.ble es.length 1000 = true := by kernel_rfl) : RE ci X (.Tuple es x1 pos) (wTup ws) := fun F ex xo T Γ S σ H Q r q => by
  refine wpX_of (pe_tup pa_wp) (wpA_mono (h F ex xo T Γ S σ H _ r q) fun vs H1 ⟨as, S1, hz, hn, r1, l, e, q1⟩ => ?_)
  refine ⟨small_len (hz.symm.trans hn) hl, fun p hp => ?_⟩
  obtain ⟨ρ, r1⟩ := r1
  rw [dataOf_eq e] at r1 hz
  have R := reps_of r1 (by simpa using hz) fun q hq => List.mem_append_left _ hq
  exact ⟨_, S1, ⟨ρ, (r1.newT hp R).drop dropA⟩, q1⟩
theorem re_lst {es : List Expr} {ws : WAs} {pos : Pos} (h : RA ci X es ws) (hl : Nat.ble es.length 1000 = true := by kernel_rfl) : RE ci X (.List es pos) (wLst ws) := fun F ex xo T Γ S σ H Q r q => by
  refine wpX_of (pe_lst pa_wp) (wpA_mono (h F ex xo T Γ S σ H _ r q) fun vs H1 ⟨as, S1, hz, hn, r1, l, e, q1⟩ => ?_)
  refine ⟨small_len (hz.symm.trans hn) hl, fun p hp => ?_⟩
  obtain ⟨ρ, r1⟩ := r1
  rw [dataOf_eq e] at r1 hz
  have R := reps_of r1 (by simpa using hz) fun q hq => List.mem_append_left _ hq
  exact ⟨_, S1, ⟨ρ, (r1.newL hp R).drop dropA⟩, q1⟩
theorem areps_of {K : PySem.W.Frag} {F : Fr K ci} {ρ : List Addr} {T : List (A × V)} {Γ : Ga} {S : So} {σ : L2.St} {H : Hp} (r : RelR F ρ T Γ S σ H) : ∀ {l : List A} {vs : List V}, l.length = vs.length → (∀ q ∈ l.zip vs, q ∈ T) → AReps K ci ρ (mu F ρ S) H l vs
  | [], [], _, _ => rfl
  | [], _ :: _, h, _ => by cases h
  | _ :: _, [], h, _ => by cases h
  | d :: l, v :: vs, h, k => ⟨v, vs, rfl, r.tl _ (k (d, v) (by simp)), areps_of r (by simpa using h) fun q hq => k q (by rw [List.zip_cons_cons]; exact List.mem_cons_of_mem _ hq)⟩
theorem RelR.newLM {K : PySem.W.Frag} {F : Fr K ci} {ρ : List Addr} {T : List (A × V)} {Γ : Ga} {S : So} {σ : L2.St} {H : Hp} (r : RelR F ρ T Γ S σ H) {as : List A} {vs : List V} {p : Addr} (hp : H p = none) (R : AReps K ci ρ (mu F ρ S) H as vs) : Rel F ((.loc S.length, .ref p) :: T) Γ (S ++ [.lst as]) σ (upd H p (.lst vs)) := by
  have hm : ∀ a o, H a = some o → a ∉ mu F ρ S → (upd H p (.lst vs)) a = some o ∧ a ∉ mu F (ρ ++ [p]) (S ++ [.lst as]) := fun a o e n => by
    have ne : a ≠ p := ne_of_none e hp
    refine ⟨by rw [upd_ne ne]; exact e, fun z => ?_⟩
    rcases (mu_app (F := F) r.len rfl).mp z with z | z
    · exact n z
    · exact ne z
  refine ⟨ρ ++ [p], (r.allocM (mo := .lst as) hp rfl ⟨vs, upd_same, R.mono hm (List.prefix_append _ _)⟩).push ⟨p, ?_, rfl⟩⟩
  rw [← r.len]; simp
theorem re_newL {es : List Expr} {ws : WAs} {pos : Pos} (h : RA ci X es ws) (hl : Nat.ble es.length 1000 = true := by kernel_rfl) : RE ci X (.List es pos) (wNewL ws) := fun F ex xo T Γ S σ H Q r q => by
  refine wpX_of (pe_lst pa_wp) (wpA_mono (h F ex xo T Γ S σ H _ r q) fun vs H1 ⟨as, S1, hz, hn, r1, q1⟩ => ?_)
  refine ⟨small_len (hz.symm.trans hn) hl, fun p hp => ?_⟩
  obtain ⟨ρ, r1⟩ := r1
  have R := areps_of r1 hz fun q hq => List.mem_append_left _ hq
  exact ⟨_, _, (r1.newLM hp R).drop dropA, q1⟩
end
end LP

namespace LP
open PySem PySem.Spec PyProof.Rows L2
section
variable {ci : Ci} {X : Cx}
theorem wpS_mono {st : Stmt} {σ : L2.St} {H : Hp} {D D' : Ends} (h : wpS X st D σ H) (k1 : ∀ σ' H', D.nx σ' H' → D'.nx σ' H') (k2 : ∀ v H', D.rt v H' → D'.rt v H') (k3 : ∀ σ' H', D.bk σ' H' → D'.bk σ' H') (k4 : ∀ σ' H', D.ct σ' H' → D'.ct σ' H') : wpS X st D' σ H := fun pins s I => thn (h pins s I) fun f s' q => by
  cases f with
  | next => obtain ⟨σ', H', I', q⟩ := q; exact ⟨σ', H', I', k1 _ _ q⟩
  | brk => obtain ⟨σ', H', I', q⟩ := q; exact ⟨σ', H', I', k3 _ _ q⟩
  | cont => obtain ⟨σ', H', I', q⟩ := q; exact ⟨σ', H', I', k4 _ _ q⟩
  | ret u => obtain ⟨v, σ', H', I', r, q⟩ := q; exact ⟨v, σ', H', I', r, k2 _ _ q⟩
/-! tests with effects -/
def tV (w : WE) : WT := fun Γ S ex Q => w Γ S ex fun a S1 => ∃ b, a = .d (.bl b) ∧ Q b S1
def tNot' (w : WT) : WT := fun Γ S ex Q => w Γ S ex fun b S1 => Q (!b) S1
def tAnd' (u w : WT) : WT := fun Γ S ex Q => u Γ S ex fun b S1 => if b = true then w Γ S1 ex Q else Q false S1
def tOr' (u w : WT) : WT := fun Γ S ex Q => u Γ S ex fun b S1 => if b = true then Q true S1 else w Γ S1 ex Q
theorem rt_v {e : Expr} {w : WE} (h : RE ci X e w) (he : ∀ whole, isTrue e X.env whole = (do let v ← whole; standAt e.pos; holding [v] (truthy v)) := by intro _; rfl) : RT ci X e (tV w) := fun F ex xo T Γ S σ H Q r q =>
  wpT_of (pt_val pe_wp he) (wpX_mono (h F ex xo T Γ S σ H _ r q) fun v H' ⟨a, S1, r1, b, e1, q1⟩ => by
    subst e1
    exact ⟨b, r1.asBl List.mem_cons_self, S1, r1.tail, q1⟩)
theorem rt_cmp {op : CmpOp} {a b : Expr} {pos : Pos} {g : So → A → A → Option D} {wa wb : WE} (ho : OpG ci X (compareOp op) g) (ha : RE ci X a wa) (hb : RE ci X b wb) (hm : behindInMarks op b = false) : RT ci X (.Compare a [op] [b] pos) (tV (wOp g wa wb)) := fun F ex xo T Γ S σ H Q r q => by
  obtain ⟨rr, hr, hk⟩ := ho
  refine wpT_of (pt_cmpR hr pe_wp pe_wp hm) (wpX_mono (ha F ex xo T Γ S σ H _ r q) fun v H1 ⟨x, S1, r1, q1⟩ => wpX_mono (hb F ex xo _ Γ S1 σ H1 _ r1 q1) fun u H2 ⟨y, S2, r2, d, e, b', e2, q2⟩ => ?_)
  cases e2
  exact hk F _ Γ S2 σ H2 v u x y _ r2 (by simp) (by simp) e _ fun w H3 h3 => ⟨b', h3.asBl List.mem_cons_self, S2, h3.drop fun q hq => by simp [hq], q2⟩
theorem rt_not {a : Expr} {w : WT} {pos : Pos} (h : RT ci X a w) : RT ci X (.UnaryOp .Not a pos) (tNot' w) := fun F ex xo T Γ S σ H Q r q => wpT_of (pt_not pt_wp) (h F ex xo T Γ S σ H _ r q)
def RTW (ci : Ci) (X : Cx) (e : Expr) (w : WT) : Prop := ∀ (F : Fr X.K ci) ex, Xok X F ex → ∀ T Γ S σ H Q, Rel F T Γ S σ H → w Γ S ex Q → wpW X e σ H (TEnd F T Γ σ Q)
theorem rtw_and1 {a : Expr} {w : WT} {pos : Pos} (h : RT ci X a w) : RTW ci X (.BoolOp .And [a] pos) w := fun F ex xo T Γ S σ H Q r q => wpW_of (pw_and1 pt_wp) (h F ex xo T Γ S σ H Q r q)
theorem rtw_or1 {a : Expr} {w : WT} {pos : Pos} (h : RT ci X a w) : RTW ci X (.BoolOp .Or [a] pos) w := fun F ex xo T Γ S σ H Q r q => wpW_of (pw_or1 pt_wp) (h F ex xo T Γ S σ H Q r q)
theorem rtw_and {a b : Expr} {rest : List Expr} {u w : WT} {pos : Pos} (h : RT ci X a u) (h2 : RTW ci X (.BoolOp .And (b :: rest) pos) w) : RTW ci X (.BoolOp .And (a :: b :: rest) pos) (tAnd' u w) := fun F ex xo T Γ S σ H Q r q =>
  wpW_of (pw_and pt_wp pw_wp) (wpT_mono (h F ex xo T Γ S σ H _ r q) fun c H' ⟨S1, r1, q1⟩ => by
    cases c with
    | true => exact iteT (h2 F ex xo T Γ S1 σ H' Q r1 (by simpa using q1))
    | false => exact iteF ⟨S1, r1, by simpa using q1⟩)
theorem rtw_or {a b : Expr} {rest : List Expr} {u w : WT} {pos : Pos} (h : RT ci X a u) (h2 : RTW ci X (.BoolOp .Or (b :: rest) pos) w) : RTW ci X (.BoolOp .Or (a :: b :: rest) pos) (tOr' u w) := fun F ex xo T Γ S σ H Q r q =>
  wpW_of (pw_or pt_wp pw_wp) (wpT_mono (h F ex xo T Γ S σ H _ r q) fun c H' ⟨S1, r1, q1⟩ => by
    cases c with
    | true => exact iteT ⟨S1, r1, by simpa using q1⟩
    | false => exact iteF (h2 F ex xo T Γ S1 σ H' Q r1 (by simpa using q1)))
theorem rt_w {e : Expr} {w : WT} (h : RTW ci X e w) : RT ci X e w := fun F ex xo T Γ S σ H Q r q => wpT_of pw_wp.pt (h F ex xo T Γ S σ H Q r q)
/-- and, or, not, if as values -/
def wAnd (u w : WE) : WE := fun Γ S ex Q => u Γ S ex fun a S1 => ∃ b, a = .d (.bl b) ∧ if b = true then w Γ S1 ex Q else Q (.d (.bl false)) S1
def wOr (u w : WE) : WE := fun Γ S ex Q => u Γ S ex fun a S1 => ∃ b, a = .d (.bl b) ∧ if b = true then Q (.d (.bl true)) S1 else w Γ S1 ex Q
def wNot (u : WE) : WE := fun Γ S ex Q => u Γ S ex fun a S1 => ∃ b, a = .d (.bl b) ∧ Q (.d (.bl (!b))) S1
def wIfE (c : WT) (u w : WE) : WE := fun Γ S ex Q => c Γ S ex fun b S1 => if b = true then u Γ S1 ex Q else w Γ S1 ex Q
theorem re_one {op : BoolOp} {a : Expr} {w : WE} {pos : Pos} (h : RE ci X a w) : RE ci X (.BoolOp op [a] pos) w := fun F ex xo T Γ S σ H Q r q => wpX_of (L2.pe_one pe_wp) (h F ex xo T Γ S σ H Q r q)
theorem re_and {a b : Expr} {rest : List Expr} {u w : WE} {pos : Pos} (h : RE ci X a u) (h2 : RE ci X (.BoolOp .And (b :: rest) pos) w) : RE ci X (.BoolOp .And (a :: b :: rest) pos) (wAnd u w) := fun F ex xo T Γ S σ H Q r q =>
  wpX_of (L2.pe_and pe_wp pe_wp) (wpX_mono (h F ex xo T Γ S σ H _ r q) fun v H' ⟨a, S1, r1, c, e1, q1⟩ => by
    subst e1
    refine ⟨c, r1.asBl List.mem_cons_self, ?_⟩
    cases c with
    | true => exact iteT (h2 F ex xo T Γ S1 σ H' Q r1.tail (by simpa using q1))
    | false => exact iteF ⟨_, S1, r1.tail.bl _, by simpa using q1⟩)
theorem re_or {a b : Expr} {rest : List Expr} {u w : WE} {pos : Pos} (h : RE ci X a u) (h2 : RE ci X (.BoolOp .Or (b :: rest) pos) w) : RE ci X (.BoolOp .Or (a :: b :: rest) pos) (wOr u w) := fun F ex xo T Γ S σ H Q r q =>
  wpX_of (L2.pe_or pe_wp pe_wp) (wpX_mono (h F ex xo T Γ S σ H _ r q) fun v H' ⟨a, S1, r1, c, e1, q1⟩ => by
    subst e1
    refine ⟨c, r1.asBl List.mem_cons_self, ?_⟩
    cases c with
    | true => exact iteT ⟨_, S1, r1.tail.bl _, by simpa using q1⟩
    | false => exact iteF (h2 F ex xo T Γ S1 σ H' Q r1.tail (by simpa using q1)))
theorem re_not {a : Expr} {u : WE} {pos : Pos} (h : RE ci X a u) : RE ci X (.UnaryOp .Not a pos) (wNot u) := fun F ex xo T Γ S σ H Q r q =>
  wpX_of (L2.pe_not pe_wp) (wpX_mono (h F ex xo T Γ S σ H _ r q) fun v H' ⟨a, S1, r1, c, e1, q1⟩ => by
    subst e1
    exact ⟨c, r1.asBl List.mem_cons_self, _, S1, r1.tail.bl _, q1⟩)
theorem re_ife {c a b : Expr} {wc : WT} {u w : WE} {pos : Pos} (hc : RT ci X c wc) (ha : RE ci X a u) (hb : RE ci X b w) : RE ci X (.IfExp c a b pos) (wIfE wc u w) := fun F ex xo T Γ S σ H Q r q =>
  wpX_of (pe_ifExp pt_wp pe_wp pe_wp) (wpT_mono (hc F ex xo T Γ S σ H _ r q) fun d H' ⟨S1, r1, q1⟩ => by
    cases d with
    | true => exact iteT (ha F ex xo T Γ S1 σ H' Q r1 (by simpa using q1))
    | false => exact iteF (hb F ex xo T Γ S1 σ H' Q r1 (by simpa using q1)))
/-- items, calls of built-ins -/
theorem ix_end {F : Fr X.K ci} {T : List (A × V)} {Γ : Ga} {S : So} {σ : L2.St} {H : Hp} {x y : A} {v u : V} {d : D} (r : Rel F ((y, u) :: (x, v) :: T) Γ S σ H) (e3 : gIx S x y = some d) {Q : VK} (k : ∀ w, Rel F ((.d d, w) :: T) Γ S σ H → Q w H) : rIx X.K v u H Q := by
  unfold gIx at e3
  split at e3
  · rename_i i
    have hu := r.asInt (v := u) List.mem_cons_self
    split at e3
    · rename_i s
      have hv := r.asStr (v := v) (i := s) (by simp)
      split at e3
      · rename_i hl
        cases e4 : atI s.cps.toList i with
        | none => rw [e4] at e3; cases e3
        | some c =>
          rw [e4] at e3; cases e3
          exact .inr (.inr ⟨s, i, c, hv, hu, hl, e4, k _ ((r.drop fun q hq => by simp [hq] : Rel F T Γ S σ H).str _)⟩)
      · cases e3
    · cases e4 : viewQ S x with
      | none => rw [e4] at e3; cases e3
      | some l =>
        rw [e4, Option.bind_some] at e3
        obtain ⟨ρ, r2⟩ := r
        obtain ⟨p, vs, rfl, hq, R⟩ := r2.viewQ (r2.top (a := x) (v := v) (by simp)) e4
        obtain ⟨w, hw, rw'⟩ := atI_reps R e3
        have fin : Rel F ((.d d, w) :: T) Γ S σ H := ⟨ρ, (r2.push (a := .d d) (v := w) rw').drop drop3⟩
        rcases hq with hq | hq
        · exact .inl ⟨p, vs, i, w, rfl, hu, hq, hw, k _ fin⟩
        · exact .inr (.inl ⟨p, vs, i, w, rfl, hu, hq, hw, k _ fin⟩)
  · cases e3
theorem re_ix {a b : Expr} {pos : Pos} {wa wb : WE} (ha : RE ci X a wa) (hb : RE ci X b wb) (hs : PlainIx b := by exact fun _ _ => rfl) : RE ci X (.Subscript a b pos) (wOp gIx wa wb) := fun F ex xo T Γ S σ H Q r q =>
  wpX_of (pe_ix ix_seq pe_wp pe_wp hs) (wpX_mono (ha F ex xo T Γ S σ H _ r q) fun v H1 ⟨x, S1, r1, q1⟩ => wpX_mono (hb F ex xo _ Γ S1 σ H1 _ r1 q1) fun u H2 ⟨y, S2, r2, d, e, q2⟩ => ix_end r2 e fun w h3 => ⟨_, S2, h3, q2⟩)
def wCallG (g : So → List A → Option D) (ws : WAs) : WE := fun Γ S ex Q => ws Γ S ex fun as S1 => ∃ d, g S1 as = some d ∧ Q (.d d) S1
theorem re_callB {id : String} {x : Str} {p pos : Pos} {e : Expr} {es : List Expr} {g : So → List A → Option D} {ws : WAs} (hc : CallG ci X (.builtin id) g) (hg : Gl X x) (hm : X.mg x = none) (hv : bootBuiltins x = some (.builtin id)) (ha : RA ci X (e :: es) ws) (hn : x ≠ "__name__" := by decide +kernel) (hdb : (x == ("__debug__" : Str)) = false := by decide +kernel)
    (he : starEach (e :: es) X.env = (false, eval e X.env) :: starEach es X.env := by rfl) (hpl : (backTo pos (starEach es X.env)).any (·.1) = false := by kernel_rfl) : RE ci X (.Call (.Name x p) (e :: es) [] pos) (wCallG g ws) := fun F ex xo T Γ S σ H Q r q => by
  obtain ⟨rr, hr, hk⟩ := hc
  refine wpX_of (pe_callB hr hg hm hv pa_wp hn hdb he hpl) (wpA_mono (ha F ex xo T Γ S σ H _ r q) fun vs H' ⟨as, S1, hz, hn, r1, d, e1, q1⟩ => ?_)
  exact hk F _ Γ S1 σ H' as vs d r1 hz (fun q hq => List.mem_append_left _ hq) e1 _ fun v H2 h2 => ⟨_, S1, h2.drop dropA, q1⟩
theorem re_callTy {id : String} {x : Str} {p pos : Pos} {e : Expr} {es : List Expr} {g : So → List A → Option D} {ws : WAs} (hc : CallG ci X (.type id) g) (hg : Gl X x) (hm : X.mg x = none) (hv : bootBuiltins x = some (.type id)) (ha : RA ci X (e :: es) ws) (hn : x ≠ "__name__" := by decide +kernel) (hdb : (x == ("__debug__" : Str)) = false := by decide +kernel)
    (he : starEach (e :: es) X.env = (false, eval e X.env) :: starEach es X.env := by rfl) (hpl : (backTo pos (starEach es X.env)).any (·.1) = false := by kernel_rfl) : RE ci X (.Call (.Name x p) (e :: es) [] pos) (wCallG g ws) := fun F ex xo T Γ S σ H Q r q => by
  obtain ⟨rr, hr, hk⟩ := hc
  refine wpX_of (pe_callTy hr hg hm hv pa_wp hn hdb he hpl) (wpA_mono (ha F ex xo T Γ S σ H _ r q) fun vs H' ⟨as, S1, hz, hn, r1, d, e1, q1⟩ => ?_)
  exact hk F _ Γ S1 σ H' as vs d r1 hz (fun q hq => List.mem_append_left _ hq) e1 _ fun v H2 h2 => ⟨_, S1, h2.drop dropA, q1⟩

/-! statements -/
def wSeq (u w : WS) : WS := fun Γ S D => u Γ S { D with nx := fun Γ' S' => w Γ' S' D }
def wNext : WS := fun Γ S D => D.nx Γ S
def wAsg (i : Nat) (w : WE) : WS := fun Γ S D => w Γ S D.ex fun a S1 => D.nx (Γ.set i (some a)) S1
def wAsgT (t : TgF) (w : WE) : WS := fun Γ S D => w Γ S D.ex fun a S1 => ∃ d Γ', a = .d d ∧ t Γ d = some Γ' ∧ D.nx Γ' S1
def wPar (is : List Nat) (ws : WAs) : WS := fun Γ S D => ws Γ S D.ex fun as S1 => match is, as with
  | [i, j], [a, b] => D.nx ((Γ.set i (some a)).set j (some b)) S1
  | [i, j, k], [a, b, c] => D.nx (((Γ.set i (some a)).set j (some b)).set k (some c)) S1
  | _, _ => False
def wDrop (w : WE) : WS := fun Γ S D => w Γ S D.ex fun _ S1 => D.nx Γ S1
def wRet (w : WE) : WS := fun Γ S D => w Γ S D.ex D.rt
def wRetN : WS := fun Γ S D => D.rt (.d .non) S
def wIf (c : WT) (u w : WS) : WS := fun Γ S D => c Γ S D.ex fun b S1 => if b = true then u Γ S1 D else w Γ S1 D
def wAug (i : Nat) (f : Int → Int → Int) (w : WE) : WS := fun Γ S D => ∃ x, Γ[i]? = some (some (.d (.int x))) ∧ w Γ S D.ex fun a S1 => ∃ y, a = .d (.int y) ∧ D.nx (Γ.set i (some (.d (.int (f x y))))) S1
theorem rss_nil : RSs ci X [] wNext := fun F D xo T Γ S σ H r q => wpSs_of pss_nil ⟨Γ, S, r, q⟩
theorem rss_one {st : Stmt} {w : WS} (h : RS ci X st w) : RSs ci X [st] w := fun F D xo T Γ S σ H r q => wpSs_of (pss_one ps_wp) (h F D xo T Γ S σ H r q)
theorem rss_cons {st : Stmt} {rest : List Stmt} {u w : WS} (h : RS ci X st u) (h2 : RSs ci X rest w) : RSs ci X (st :: rest) (wSeq u w) := fun F D xo T Γ S σ H r q => by
  refine wpSs_of (pss_cons ps_wp pss_wp) (wpS_mono (h F { D with nx := fun Γ' S' => w Γ' S' D } xo T Γ S σ H r q) ?_ (fun _ _ h => h) (fun _ _ h => h) (fun _ _ h => h))
  rintro σ' H' ⟨Γ', S', r', q'⟩
  exact h2 F D xo T Γ' S' σ' H' r' q'
theorem rs_pass {pos : Pos} : RS ci X (.Pass pos) wNext := fun F D xo T Γ S σ H r q => wpS_of ps_pass ⟨Γ, S, r, q⟩
theorem rs_asg (i : Nat) {x : Str} {e : Expr} {w : WE} {pos' pos : Pos} (hN : X.N.Nodup) (he : RE ci X e w) (hi : X.N[i]? = some x := by rfl) (hx : Loc X.env.scope x := by exact loc_of (by kernel_rfl)) (hs : swapsWith e (some (.Name x pos')) pos.line X.env = pure false := by kernel_rfl) (hf : X.fn x = true ∨ X.env.scope.names.lookup x = some .local := by exact fn_of (by kernel_rfl)) :
    RS ci X (.Assign [.Name x pos'] e pos) (wAsg i w) := fun F D xo T Γ S σ H r q =>
  wpS_of (ps_set hN hi hx pe_wp hs hf) (wpX_mono (he F D.ex xo T Γ S σ H _ r q) fun v H' ⟨a, S1, r1, q1⟩ => ⟨_, S1, (r1.put i List.mem_cons_self).tail, q1⟩)
theorem rs_asgT {tg e : Expr} {t : TgF} {ws : List Nat} {w : WE} {pos : Pos} (hg : RG ci X tg t ws) (he : RE ci X e w) (hs : swapsWithSole [tg] e pos.line X.env = pure false := by kernel_rfl) (hw : swappedStores [tg] e X.env = pure none := by kernel_rfl)
    (h1 : (assignEach [tg] X.env).map (·.2) = [assign tg X.env] := by kernel_rfl) : RS ci X (.Assign [tg] e pos) (wAsgT t w) := fun F D xo T Γ S σ H r q =>
  wpS_of (ps_asg (g := gWp X tg) pe_wp pg_wp hs hw h1) (wpX_mono (he F D.ex xo T Γ S σ H _ r q) fun v H' ⟨a, S1, r1, d, Γ', e1, e2, q1⟩ => by
    subst e1
    exact gWp_mono (hg F _ Γ S1 σ H' d v Γ' r1 List.mem_cons_self e2) fun σ' H2 ⟨_, r2⟩ => ⟨Γ', S1, r2.tail, q1⟩)
theorem rs_par2 {i j : Nat} {x y : Str} {a b : Expr} {ws : WAs} {px py pt pos : Pos} {kt k2 pt2} (hc : X.calm = true) (hN : X.N.Nodup) (ha : RA ci X [a, b] ws) (hi : X.N[i]? = some x := by rfl) (hj : X.N[j]? = some y := by rfl) (hij : i ≠ j := by decide)
    (hx : X.env.scope.names.lookup x = some .local := by kernel_rfl) (hy : X.env.scope.names.lookup y = some .local := by kernel_rfl) (hw : swappedStores [.Tuple [.Name x px, .Name y py] kt pt] (.Tuple [a, b] k2 pt2) X.env = pure (some [x, y]) := by kernel_rfl)
    (hs : swapsWithSole [.Tuple [.Name x px, .Name y py] kt pt] (.Tuple [a, b] k2 pt2) pos.line X.env = pure false := by kernel_rfl) :
    RS ci X (.Assign [.Tuple [.Name x px, .Name y py] kt pt] (.Tuple [a, b] k2 pt2) pos) (wPar [i, j] ws) := fun F D xo T Γ S σ H r q =>
  wpS_of (ps_par hc hN hi hj hij hx hy pa_wp hw hs) (wpA_mono (ha F D.ex xo T Γ S σ H _ r q) fun vs H' ⟨as, S1, hz, hn, r1, q1⟩ => by
    match as, vs, hz, hn with
    | [a, b], [v, u], _, _ => exact ⟨v, u, rfl, _, S1, (((r1.put i (a := a) (v := v) (by simp)).put j (a := b) (v := u) (by simp))).drop fun q hq => by simp [hq], q1⟩)
theorem rs_par3 {i j l : Nat} {x y z : Str} {a b c : Expr} {ws : WAs} {px py pz pt pos : Pos} {kt k2 pt2} (hc : X.calm = true) (hN : X.N.Nodup) (ha : RA ci X [a, b, c] ws) (hi : X.N[i]? = some x := by rfl) (hj : X.N[j]? = some y := by rfl) (hl : X.N[l]? = some z := by rfl) (hij : i ≠ j := by decide) (hil : i ≠ l := by decide) (hjl : j ≠ l := by decide)
    (hx : X.env.scope.names.lookup x = some .local := by kernel_rfl) (hy : X.env.scope.names.lookup y = some .local := by kernel_rfl) (hz : X.env.scope.names.lookup z = some .local := by kernel_rfl) (hw : swappedStores [.Tuple [.Name x px, .Name y py, .Name z pz] kt pt] (.Tuple [a, b, c] k2 pt2) X.env = pure (some [x, y, z]) := by kernel_rfl)
    (hs : swapsWithSole [.Tuple [.Name x px, .Name y py, .Name z pz] kt pt] (.Tuple [a, b, c] k2 pt2) pos.line X.env = pure false := by kernel_rfl) :
    RS ci X (.Assign [.Tuple [.Name x px, .Name y py, .Name z pz] kt pt] (.Tuple [a, b, c] k2 pt2) pos) (wPar [i, j, l] ws) := fun F D xo T Γ S σ H r q =>
  wpS_of (L2.ps_par3 hc hN hi hj hl hij hil hjl hx hy hz pa_wp hw hs) (wpA_mono (ha F D.ex xo T Γ S σ H _ r q) fun vs H' ⟨as, S1, hz, hn, r1, q1⟩ => by
    match as, vs, hz, hn with
    | [a, b, c], [v, u, t], _, _ => exact ⟨v, u, t, rfl, _, S1, ((((r1.put i (a := a) (v := v) (by simp)).put j (a := b) (v := u) (by simp))).put l (a := c) (v := t) (by simp)).drop fun q hq => by simp [hq], q1⟩)
theorem rs_expr {e : Expr} {w : WE} {pos : Pos} (he : RE ci X e w) (hs : swapsWith e none pos.line X.env = pure false := by kernel_rfl) : RS ci X (.Expr e pos) (wDrop w) := fun F D xo T Γ S σ H r q =>
  wpS_of (ps_expr pe_wp hs) (wpX_mono (he F D.ex xo T Γ S σ H _ r q) fun v H' ⟨a, S1, r1, q1⟩ => ⟨Γ, S1, r1.tail, q1⟩)
theorem rs_doc {x j pos pos'} : RS ci X (.Expr (.Constant (.str x) j pos) pos') wNext := fun F D xo T Γ S σ H r q => wpS_of ps_doc ⟨Γ, S, r, q⟩
theorem rs_ret {e : Expr} {w : WE} {pos : Pos} (he : RE ci X e w) : RS ci X (.Return (some e) pos) (wRet w) := fun F D xo T Γ S σ H r q =>
  wpS_of (ps_ret pe_wp) (wpX_mono (he F D.ex xo T Γ S σ H _ r q) fun v H' ⟨a, S1, r1, q1⟩ => ⟨a, S1, (r1.bare).drop fun x hx => by
    simp at hx; subst hx; exact List.mem_cons_self, q1⟩)
theorem rs_retN {pos : Pos} : RS ci X (.Return none pos) wRetN := fun F D xo T Γ S σ H r q =>
  wpS_of ps_retN ⟨.d .non, S, (r.non.bare).drop fun x hx => by simp at hx; subst hx; exact List.mem_cons_self, q⟩
theorem rs_if {c : Expr} {a b : List Stmt} {wc : WT} {u w : WS} {pos : Pos} (hc : RT ci X c wc) (ha : RSs ci X a u) (hb : RSs ci X b w) : RS ci X (.If c a b pos) (wIf wc u w) := fun F D xo T Γ S σ H r q =>
  wpS_of (ps_if pt_wp pss_wp pss_wp) (wpT_mono (hc F D.ex xo T Γ S σ H _ r q) fun d H' ⟨S1, r1, q1⟩ => by
    cases d with
    | true => exact iteT (ha F D xo T Γ S1 σ H' r1 (by simpa using q1))
    | false => exact iteF (hb F D xo T Γ S1 σ H' r1 (by simpa using q1)))
theorem rs_aug {i : Nat} {x : Str} {e : Expr} {w : WE} {op : Operator} {f : Int → Int → Int} {pos' pos : Pos} (hN : X.N.Nodup) (ho : PIp X op (ipI f)) (he : RE ci X e w) (hi : X.N[i]? = some x := by rfl) (hx : Loc X.env.scope x := by exact loc_of (by kernel_rfl)) (hf : X.fn x = true ∨ X.env.scope.names.lookup x = some .local := by exact fn_of (by kernel_rfl)) :
    RS ci X (.AugAssign (.Name x pos') op e pos) (wAug i f w) := fun F D xo T Γ S σ H r q => by
  obtain ⟨n, e1, q⟩ := q
  obtain ⟨ρ, r0⟩ := id r
  obtain ⟨v, e2, hv⟩ := r0.gl i _ e1
  have hv' := r0.push hv
  have : v = .int n := (show Rel F ((A.d (.int n), v) :: T) Γ S σ H from ⟨ρ, hv'⟩).asInt List.mem_cons_self
  subst this
  refine wpS_of (ps_aug hN hi hx pe_wp ho hf) ⟨.int n, e2, wpX_mono (he F D.ex xo T Γ S σ H _ r q) fun u H' ⟨a, S1, r1, m, e3, q1⟩ => ?_⟩
  subst e3
  exact ⟨n, m, rfl, r1.asInt List.mem_cons_self, _, S1, ((r1.tail.int (f n m)).put i List.mem_cons_self).tail, q1⟩
/-! loops -/
abbrev WI := Ga → So → EK → ((So → Option (List D)) → List D → So → Prop) → Prop
def RIE (ci : Ci) (X : Cx) (tg iter : Expr) (wi : WI) : Prop := ∀ (F : Fr X.K ci) ex, Xok X F ex → ∀ T Γ S σ H Q, Rel F T Γ S σ H → wi Γ S ex Q → wpI X tg iter σ H (fun J H' => ∃ U S' it ds, ItSpec X.K ci J U it ds ∧ it S' = some ds ∧ Rel F (U ++ T) Γ S' σ H' ∧ Q it ds S')
def wI (fi : QI) : WI := fun Γ S _ Q => ∃ it ds, fi Γ S = some it ∧ it S = some ds ∧ Q it ds S
theorem rie_p {tg iter : Expr} {fi : QI} (h : RI ci X tg iter fi) : RIE ci X tg iter (wI fi) := fun F ex _ T Γ S σ H Q r ⟨it, ds, e1, e2, q⟩ => wpI_mono (h F T Γ S σ H it ds r e1 e2) fun J H' ⟨U, s, r1⟩ => ⟨U, S, it, ds, s, e2, r1, q⟩
/-- a list, a tuple that comes of an expression with effects -/
def wIL (w : WE) : WI := fun Γ S ex Q => w Γ S ex fun a S1 => ∃ ds, viewL S1 a = some ds ∧ Q (fun S' => viewL S' a) ds S1
def wLoop (it : So → Option (List D)) (ds : List D) (t : TgF) (body : WS) : List D → Ga → So → Dn → Prop
  | [], Γ, S, D => D.nx Γ S
  | d :: r, Γ, S, D => ∃ Γ', t Γ d = some Γ' ∧ body Γ' S { D with nx := fun Γ2 S2 => it S2 = some ds ∧ wLoop it ds t body r Γ2 S2 D, ct := fun Γ2 S2 => it S2 = some ds ∧ wLoop it ds t body r Γ2 S2 D, bk := D.nx }
def wFor (wi : WI) (t : TgF) (body : WS) : WS := fun Γ S D => wi Γ S D.ex fun it ds S1 => wLoop it ds t body ds Γ S1 D
theorem rs_for {tg iter : Expr} {body : List Stmt} {wi : WI} {t : TgF} {ws : List Nat} {w : WS} {pos : Pos} (hp : PassesOwn (model X.prog X.w) X.A X.env X.xe) (hc : X.calm = true) (hi : RIE ci X tg iter wi) (hg : RG ci X tg t ws) (hb : RSs ci X body w)
    (hs : ∀ x, foldedSetIterable iter X.env x = pure x := by intro _; rfl) : RS ci X (.For tg iter body [] pos) (wFor wi t w) := fun F D xo T Γ S σ H r q => by
  refine wpS_of (ps_for (g := gWp X tg) hp hc pi_wp pg_wp pss_wp hs) (wpI_mono (hi F D.ex xo T Γ S σ H _ r q) fun J H1 ⟨U, S1, it, ds, ⟨hsz, G, Y, W, spec⟩, e1, r1, q1⟩ => ?_)
  refine for_it (σ := σ) (H := H1) W (fun i σ' H' => ∃ Γ' S', Rel F (U ++ T) Γ' S' σ' H' ∧ it S' = some ds ∧ wLoop it ds t w (ds.drop i) Γ' S' D) ⟨Γ, S1, r1, e1, q1⟩ ?_ ?_ ?_
  · rintro i σ' H' _ ⟨Γ', S', r', e', _⟩
    exact (spec F _ Γ' S' σ' H' r' (fun q hq => by simp [hq]) e').1
  · rintro i x σ' H' H2 hlt ⟨Γ', S', r', e', q'⟩ hy
    obtain ⟨d, hd, r2⟩ := (spec F _ Γ' S' σ' H' r' (fun q hq => by simp [hq]) e').2 i x H2 hlt hy
    have hdr : ds.drop i = d :: ds.drop (i + 1) := by
      rw [List.drop_eq_getElem_cons hlt]
      congr 1
      exact (List.getElem?_eq_some_iff.mp hd).2
    rw [hdr] at q'
    obtain ⟨Γ2, e2, q2⟩ := q'
    refine gWp_mono (hg F _ Γ' S' σ' H2 d x Γ2 r2 List.mem_cons_self e2) fun σ3 H3 ⟨_, r3⟩ => ?_
    have := hb F { D with nx := fun Γ2 S2 => it S2 = some ds ∧ wLoop it ds t w (ds.drop (i + 1)) Γ2 S2 D, ct := fun Γ2 S2 => it S2 = some ds ∧ wLoop it ds t w (ds.drop (i + 1)) Γ2 S2 D, bk := D.nx } xo (U ++ T) Γ2 S' σ3 H3 r3.tail q2
    refine fun pins s I => thn (this pins s I) fun f s' z => ?_
    cases f with
    | next => obtain ⟨σ4, H4, I4, Γ4, S4, r4, e4, q4⟩ := z; exact ⟨σ4, H4, I4, Γ4, S4, r4, e4, q4⟩
    | cont => obtain ⟨σ4, H4, I4, Γ4, S4, r4, e4, q4⟩ := z; exact ⟨σ4, H4, I4, Γ4, S4, r4, e4, q4⟩
    | brk =>
      obtain ⟨σ4, H4, I4, Γ4, S4, r4, q4⟩ := z
      exact ⟨σ4, H4, I4, Γ4, S4, r4.drop fun q hq => List.mem_append_right _ hq, q4⟩
    | ret u => exact z
  · rintro σ' H' ⟨Γ', S', r', _, q'⟩
    rw [List.drop_length] at q'
    exact ⟨Γ', S', r'.drop fun q hq => List.mem_append_right _ hq, q'⟩
def wWhile (c : WT) (body : WS) : WS := fun Γ S D => ∃ W : Nat → Ga → So → Prop, (∃ m, W m Γ S) ∧ ∀ m Γ S, W m Γ S → c Γ S D.ex fun b S1 => if b = true then body Γ S1 { D with nx := fun Γ2 S2 => ∃ m', m' < m ∧ W m' Γ2 S2, ct := fun Γ2 S2 => ∃ m', m' < m ∧ W m' Γ2 S2, bk := D.nx } else D.nx Γ S1
theorem rs_while {c : Expr} {body : List Stmt} {wc : WT} {w : WS} {pos : Pos} (hp : PassesOwn (model X.prog X.w) X.A X.env X.xe) (hc : RT ci X c wc) (hb : RSs ci X body w) : RS ci X (.While c body [] pos) (wWhile wc w) := fun F D xo T Γ S σ H r q => by
  obtain ⟨W, ⟨m0, w0⟩, turn⟩ := q
  refine wpS_of (ps_while hp pt_wp pss_wp) ⟨fun m σ' H' => ∃ Γ' S', Rel F T Γ' S' σ' H' ∧ W m Γ' S', ⟨m0, Γ, S, r, w0⟩, ?_⟩
  rintro m σ1 H1 ⟨Γ1, S1, r1, w1⟩
  refine wpT_mono (hc F D.ex xo T Γ1 S1 σ1 H1 _ r1 (turn m Γ1 S1 w1)) fun b H2 ⟨S2, r2, q2⟩ => ?_
  cases b with
  | true =>
    refine iteT ⟨fun σ' H' => ∃ Γ' S', Rel F T Γ' S' σ' H' ∧ ∃ m', m' < m ∧ W m' Γ' S', fun σ' H' ⟨Γ', S', r', m', hm, w'⟩ => ⟨m', hm, Γ', S', r', w'⟩, ?_⟩
    have := hb F { D with nx := fun Γ2 S2 => ∃ m', m' < m ∧ W m' Γ2 S2, ct := fun Γ2 S2 => ∃ m', m' < m ∧ W m' Γ2 S2, bk := D.nx } xo T Γ1 S2 σ1 H2 r2 (by simpa using q2)
    refine fun pins s I => thn (this pins s I) fun f s' z => ?_
    cases f with
    | next => exact z
    | cont => exact z
    | brk => exact z
    | ret u => exact z
  | false => exact iteF ⟨Γ1, S2, r2, by simpa using q2⟩
end
end LP

namespace LP
open PySem PySem.Spec PyProof.Rows L2

/-! what defs promise -/
/-- of data alone: a value or an error; none: nothing is said -/
abbrev PC := List D → Option (Except Er D)
/-- of things that may change: as a wish -/
abbrev FC := List A → So → EK → AK → Prop
def spP (K : PySem.W.Frag) (ci : Ci) (G : PC) : Sp := fun vs H Q E => ∃ (ds : List D) (ex : List Addr) (o : Except Er D), ds.length = vs.length ∧ RelR (⟨H, [], [], ex⟩ : Fr K ci) [] ((ds.map A.d).zip vs) [] [] [] H ∧ G ds = some o ∧ match o with
  | .ok d => ∀ v H', (∃ S', Rel (⟨H, [], [], ex⟩ : Fr K ci) [(.d d, v)] [] S' [] H') → Q v H'
  | .error er => ∀ cls dd H', (∃ S ρ, RelR (⟨H, [], [], ex⟩ : Fr K ci) ρ [] [] S [] H' ∧ ErrRep ci (⟨H, [], [], ex⟩ : Fr K ci) ρ S er cls dd H') → E cls dd H'
def spOf (K : PySem.W.Frag) (ci : Ci) (fc : FC) : Sp := fun vs H Q E => ∃ (as : List A) (S : So) (ρ ex : List Addr) (Q' : AK) (ex' : EK), as.length = vs.length ∧ RelR (⟨H, ρ, mutA ρ S, ex⟩ : Fr K ci) ρ (as.zip vs) [] S [] H ∧ fc as S ex' Q' ∧
  (∀ v H', (∃ a S', Rel (⟨H, ρ, mutA ρ S, ex⟩ : Fr K ci) [(a, v)] [] S' [] H' ∧ Q' a S') → Q v H') ∧ (∀ cls dd H', ExW (⟨H, ρ, mutA ρ S, ex⟩ : Fr K ci) ex' cls dd H' → E cls dd H')
def stG (N : List Str) (as : List A) : Ga := as.map some ++ List.replicate (N.length - as.length) none
theorem rel_start {K : PySem.W.Frag} {ci : Ci} {F : Fr K ci} {ρ : List Addr} {S : So} {H : Hp} {N : List Str} {as : List A} {vs : List V} (r : RelR F ρ (as.zip vs) [] S [] H) (hl : as.length = vs.length) : RelR F ρ [] (stG N as) S (L2.start N vs) H := by
  have q := r.slots (Γ' := stG N as) (σ' := L2.start N vs) (by simp [stG, L2.start, hl]) fun i a e => by
    unfold stG at e
    by_cases hi : i < as.length
    · rw [List.getElem?_append_left (by simpa using hi), List.getElem?_map] at e
      cases e1 : as[i]? with
      | none => rw [e1] at e; cases e
      | some b =>
        rw [e1] at e; cases e
        have hv : i < vs.length := by omega
        refine ⟨vs[i], ?_, r.tl (a, vs[i]) ?_⟩
        · unfold L2.start
          rw [List.getElem?_append_left (by simpa using hv), List.getElem?_map]
          simp [hv]
        · exact List.mem_of_getElem? (i := i) (by rw [List.getElem?_zip_eq_some]; exact ⟨e1, by simp [hv]⟩)
    · rw [List.getElem?_append_right (by simpa using hi), List.getElem?_replicate] at e
      split at e <;> cases e
  exact q.drop fun x hx => by cases hx
section
variable {P : Program} {w0 : World} {K : PySem.W.Frag} {mg : Str → Option Value} {base : Heap} {ci : Ci} {x qual : Str} {params : Arguments} {body : List Stmt} {scope : Scope} {dvs : List V} {kws : List (Str × V)} {f : Addr} {fd : FuncData} {N ps : List Str} {k : Nat}
abbrev cxD (P : Program) (w0 : World) (K : PySem.W.Frag) (mg : Str → Option Value) (base : Heap) (N : List Str) (qual : Str) (scope : Scope) (f : Addr) (cdv : Value) (A : Around) (outer : List Env) (s : Shared) (H : Hp) (E : XK) : Cx := cxOf (L2.CX P w0) P w0 K mg base N qual scope f cdv A outer s H E
/-- the body, whatever calls it -/
abbrev Body (P : Program) (w0 : World) (K : PySem.W.Frag) (mg : Str → Option Value) (base : Heap) (ci : Ci) (N : List Str) (qual : Str) (scope : Scope) (f : Addr) (k : Nat) (body : List Stmt) (w : WS) : Prop :=
  ∀ (cdv : Value) (A : Around) (outer : List Env) (s : Shared) (H : Hp) (E : XK), Room k (cxD P w0 K mg base N qual scope f cdv A outer s H E).A → RSs ci (cxD P w0 K mg base N qual scope f cdv A outer s H E) body w
/-- a def of data -/
theorem fnP (F : FunD K x qual params body scope dvs kws f fd) (sc : FnScope N ps scope) {G : PC} {w : WS} (hlen : ∀ ds o, G ds = some o → ds.length = ps.length) (hb : Body P w0 K mg base ci N qual scope f k body w)
    (hv : ∀ ds o, G ds = some o → w (stG N (ds.map A.d)) [] { nx := fun _ _ => o = .ok .non, rt := fun a _ => ∃ d, a = .d d ∧ o = .ok d, ex := fun er _ => o = .error er }) : FnOk P w0 K mg base (L2.CX P w0) (k + 1) f fd ps (spP K ci G) := by
  refine F.ok sc (fun vs H Q E h => ?_) (fun cdv A outer s H vs Q E hr h => ?_)
  · obtain ⟨ds, ex, o, h1, _, h3, _⟩ := h
    rw [← h1, hlen ds o h3]
  · obtain ⟨ds, ex, o, h1, h2, h3, h4⟩ := h
    have tk : Takes (cxD P w0 K mg base N qual scope f cdv A outer s H E) (fun cls d _ H => E cls d H) := takes_of rfl rfl rfl rfl
    refine ⟨_, pss_wp, ?_⟩
    have r0 := rel_start (N := N) h2 (by rw [List.length_map]; exact h1)
    cases o with
    | ok d =>
      have xo : Xok (cxD P w0 K mg base N qual scope f cdv A outer s H E) (⟨H, [], [], ex⟩ : Fr K ci) (fun er _ => (Except.ok d : Except Er D) = .error er) := tk.imp fun c dd σ H' ⟨er, S, ρ, _, _, z⟩ => by cases z
      have := hb cdv A outer s H E hr _ _ xo [] _ [] _ H ⟨[], r0⟩ (hv ds _ h3)
      refine fun pins s' I => thn (this pins s' I) fun fl s2 z => ?_
      cases fl with
      | next =>
        obtain ⟨σ', H', I', Γ', S', r', e⟩ := z
        cases e
        exact ⟨σ', H', I', h4 _ _ ⟨S', r'.non.bare⟩⟩
      | ret u =>
        obtain ⟨v, σ', H', I', rv, a, S', r', d', e1, e2⟩ := z
        cases e2
        subst e1
        exact ⟨v, σ', H', I', rv, h4 _ _ ⟨S', r'⟩⟩
      | brk => obtain ⟨_, _, _, _, _, _, z⟩ := z; exact z.elim
      | cont => obtain ⟨_, _, _, _, _, _, z⟩ := z; exact z.elim
    | error er =>
      have xo : Xok (cxD P w0 K mg base N qual scope f cdv A outer s H E) (⟨H, [], [], ex⟩ : Fr K ci) (fun er' _ => (Except.error er : Except Er D) = .error er') := tk.imp fun c dd σ H' ⟨er', S, ρ, r', e', z⟩ => by
        cases z
        exact h4 _ _ _ ⟨S, ρ, r', e'⟩
      have := hb cdv A outer s H E hr _ _ xo [] _ [] _ H ⟨[], r0⟩ (hv ds _ h3)
      refine fun pins s' I => thn (this pins s' I) fun fl s2 z => ?_
      cases fl with
      | next => obtain ⟨_, _, _, _, _, _, z⟩ := z; cases z
      | ret u => obtain ⟨_, _, _, _, _, _, _, _, _, _, z⟩ := z; cases z
      | brk => obtain ⟨_, _, _, _, _, _, z⟩ := z; exact z.elim
      | cont => obtain ⟨_, _, _, _, _, _, z⟩ := z; exact z.elim
/-- a def of things that may change -/
theorem fnM (F : FunD K x qual params body scope dvs kws f fd) (sc : FnScope N ps scope) {fc : FC} {w : WS} (hlen : ∀ as S ex Q, fc as S ex Q → as.length = ps.length) (hb : Body P w0 K mg base ci N qual scope f k body w)
    (hv : ∀ as S ex Q, fc as S ex Q → w (stG N as) S { nx := fun _ S' => Q (.d .non) S', rt := Q, ex := ex }) : FnOk P w0 K mg base (L2.CX P w0) (k + 1) f fd ps (spOf K ci fc) := by
  refine F.ok sc (fun vs H Q E h => ?_) (fun cdv A outer s H vs Q E hr h => ?_)
  · obtain ⟨as, S, ρ, ex, Q', ex', h1, _, h3, _⟩ := h
    rw [← h1, hlen _ _ _ _ h3]
  · obtain ⟨as, S, ρ, ex, Q', ex', h1, h2, h3, h4, h5⟩ := h
    have tk : Takes (cxD P w0 K mg base N qual scope f cdv A outer s H E) (fun cls d _ H => E cls d H) := takes_of rfl rfl rfl rfl
    refine ⟨_, pss_wp, ?_⟩
    have r0 := rel_start (N := N) h2 h1
    have xo : Xok (cxD P w0 K mg base N qual scope f cdv A outer s H E) (⟨H, ρ, mutA ρ S, ex⟩ : Fr K ci) ex' := tk.imp fun c dd σ H' z => h5 _ _ _ z
    have := hb cdv A outer s H E hr _ { nx := fun _ S' => Q' (.d .non) S', rt := Q', ex := ex' } xo [] _ S _ H ⟨ρ, r0⟩ (hv as S ex' Q' h3)
    refine fun pins s' I => thn (this pins s' I) fun fl s2 z => ?_
    cases fl with
    | next =>
      obtain ⟨σ', H', I', Γ', S', r', e⟩ := z
      exact ⟨σ', H', I', h4 _ _ ⟨_, S', r'.non.bare, e⟩⟩
    | ret u =>
      obtain ⟨v, σ', H', I', rv, a, S', r', e⟩ := z
      exact ⟨v, σ', H', I', rv, h4 _ _ ⟨a, S', r', e⟩⟩
    | brk => obtain ⟨_, _, _, _, _, _, z⟩ := z; exact z.elim
    | cont => obtain ⟨_, _, _, _, _, _, z⟩ := z; exact z.elim
end

/-! calls -/
section
variable {K : PySem.W.Frag} {ci : Ci}
theorem rep_flat {M : List Addr} {H : Hp} : ∀ {d : D}, d.flat = true → Rep K ci M H d d.v
  | .non, _ => by rw [Rep]; rfl
  | .bl _, _ => by rw [Rep]; rfl
  | .int _, _ => by rw [Rep]; rfl
  | .str _, _ => by rw [Rep]; rfl
  | .tup _, h => by cases h
  | .lst _, h => by cases h
  | .ins _ _, h => by cases h
  | .dic _ _, h => by cases h
theorem RelR.flats {F : Fr K ci} {ρ : List Addr} {T : List (A × V)} {Γ : Ga} {S : So} {σ : L2.St} {H : Hp} (r : RelR F ρ T Γ S σ H) : ∀ {l : List D}, l.all D.flat = true → RelR F ρ ((l.map A.d).zip (l.map D.v) ++ T) Γ S σ H
  | [], _ => r
  | d :: l, h => by
    rw [List.all_cons, Bool.and_eq_true] at h
    exact (RelR.flats r h.2).push (rep_flat h.1)
theorem zip_app {α β : Type} {a c : List α} {b d : List β} (h : a.length = b.length) : (a ++ c).zip (b ++ d) = a.zip b ++ c.zip d := List.zip_append h
theorem spP_of {F : Fr K ci} {T : List (A × V)} {Γ : Ga} {S : So} {σ : L2.St} {H : Hp} {l dfl : List D} {vs : List V} {G : PC} {o : Except Er D} {Q : VK} {E : XK} (r : Rel F T Γ S σ H) (hl : l.length = vs.length) (hT : ∀ q ∈ (l.map A.d).zip vs, q ∈ T) (hf : dfl.all D.flat = true) (e : G (l ++ dfl) = some o)
    (k1 : ∀ d, o = .ok d → ∀ v H', Rel F ((.d d, v) :: T) Γ S σ H' → Q v H') (k2 : ∀ er, o = .error er → ∀ cls dd H', (∃ ρ, RelR F ρ T Γ S σ H' ∧ ErrRep ci F ρ S er cls dd H') → E cls dd H') : spP K ci G (vs ++ dfl.map D.v) H Q E := by
  obtain ⟨ρ, r⟩ := r
  refine ⟨l ++ dfl, mu F ρ S, o, by simp [hl], ?_, e, ?_⟩
  · have := (r.flats hf).shut (U := ((l ++ dfl).map A.d).zip (vs ++ dfl.map D.v)) (fun q hq => ?_) (fun q hq => ?_)
    · exact this
    · rw [List.map_append, zip_app (by simp [hl])] at hq
      rcases List.mem_append.mp hq with hq | hq
      · exact List.mem_append_right _ (hT q hq)
      · exact List.mem_append_left _ hq
    · have := (List.of_mem_zip hq).1
      obtain ⟨d, _, h⟩ := List.mem_map.mp this
      exact ⟨d, h.symm⟩
  · cases o with
    | ok d =>
      rintro v H' ⟨S', ρ', q⟩
      exact k1 d rfl v H' ⟨ρ, r.unshut q List.mem_cons_self⟩
    | error er =>
      rintro cls dd H' ⟨S', ρ', q, h⟩
      exact k2 er rfl cls dd H' ⟨ρ, r.unshutE q h⟩
theorem spOf_of {F : Fr K ci} {T : List (A × V)} {Γ : Ga} {S : So} {σ : L2.St} {H : Hp} {as : List A} {dfl : List D} {vs : List V} {fc : FC} {Q : VK} {E : XK} {ex : EK} {Q' : AK} (r : Rel F T Γ S σ H) (hl : as.length = vs.length) (hT : ∀ q ∈ as.zip vs, q ∈ T) (hf : dfl.all D.flat = true) (e : fc (as ++ dfl.map A.d) S ex Q')
    (k1 : ∀ a S' v H', Rel F ((a, v) :: T) Γ S' σ H' → Q' a S' → Q v H') (k2 : ∀ cls dd H', ExW F ex cls dd H' → E cls dd H') : spOf K ci fc (vs ++ dfl.map D.v) H Q E := by
  obtain ⟨ρ, r⟩ := r
  refine ⟨as ++ dfl.map A.d, S, ρ, F.ex, Q', ex, by simp [hl], ?_, e, ?_, ?_⟩
  · refine ((r.flats hf).here.bare).drop fun q hq => ?_
    rw [zip_app hl] at hq
    rcases List.mem_append.mp hq with hq | hq
    · exact List.mem_append_right _ (hT q hq)
    · exact List.mem_append_left _ hq
  · rintro v H' ⟨a, S', ⟨ρ', q⟩, h⟩
    exact k1 a S' v H' ⟨ρ', r.after q⟩ h
  · rintro cls dd H' ⟨er, S', ρ', q, h1, h2⟩
    exact k2 cls dd H' ⟨er, S', ρ', (r.there q), h1, h2⟩
end
structure CallP (P : Program) (w : World) (K : PySem.W.Frag) (mg : Str → Option Value) (base : Heap) (ci : Ci) (k : Nat) (x : Str) (dfl : List D) (sp : Sp) : Prop where
  ex : ∃ (f : Addr) (fd : FuncData) (ps : List Str) (ds : List Value), FnOk P w K mg base (L2.CX P w) k f fd ps sp ∧ mg x = some (.ref f) ∧ PySem.W.keepIn K (.ref f) = true ∧ Binds K fd ps ds ∧ Vals (dfl.map D.v) ds ∧ dfl.all D.flat = true
def fFn (dfl : List D) (G : PC) (fs : QFs) : QF := fun Γ S => (fs Γ S).bind fun as => (dataOf as).bind fun l => match G (l ++ dfl) with | some (.ok d) => some (.d d) | _ => none
def wFn (dfl : List D) (G : PC) (ws : WAs) : WE := fun Γ S ex Q => ws Γ S ex fun as S1 => ∃ l o, dataOf as = some l ∧ G (l ++ dfl) = some o ∧ match o with | .ok d => Q (.d d) S1 | .error er => ex er S1
def wFnM (dfl : List D) (fc : FC) (ws : WAs) : WE := fun Γ S ex Q => ws Γ S ex fun as S1 => fc (as ++ dfl.map A.d) S1 ex Q
theorem fn_some {dfl : List D} {G : PC} {fs : QFs} {Γ : Ga} {S : So} {a : A} (h : fFn dfl G fs Γ S = some a) : ∃ l d, fs Γ S = some (l.map A.d) ∧ G (l ++ dfl) = some (.ok d) ∧ a = .d d := by
  unfold fFn at h
  cases e1 : fs Γ S with
  | none => rw [e1] at h; cases h
  | some as =>
    rw [e1, Option.bind_some] at h
    cases e2 : dataOf as with
    | none => rw [e2] at h; cases h
    | some l =>
      rw [e2, Option.bind_some] at h
      split at h
      · rename_i d e3
        cases h
        rw [dataOf_eq e2]
        exact ⟨l, d, rfl, e3, rfl⟩
      · cases h
section
variable {ci : Ci} {X : Cx}
theorem passX {F : Fr X.K ci} {ex : EK} (xo : Xok X F ex) : Passes (L2.CX X.prog X.w) X (fun cls d H => ExW F ex cls d H) := passes_call xo fun _ _ _ _ h => h
theorem rp_call {k : Nat} {x : Str} {p pos : Pos} {e : Expr} {es : List Expr} {dfl : List D} {G : PC} {fs : QFs} (C : CallP X.prog X.w X.K X.mg X.base ci k x dfl (spP X.K ci G)) (hr : Room k X.A) (hg : Gl X x) (ha : RPs ci X (e :: es) fs)
    (hdb : (x == ("__debug__" : Str)) = false := by decide +kernel) (he : starEach (e :: es) X.env = (false, eval e X.env) :: starEach es X.env := by rfl) (hpl : (backTo pos (starEach es X.env)).any (·.1) = false := by kernel_rfl) : RP ci X (.Call (.Name x p) (e :: es) [] pos) (fFn dfl G fs) := fun F T Γ S σ H a r q => by
  obtain ⟨l, d, e1, e2, rfl⟩ := fn_some q
  obtain ⟨f, fd, ps, ds, h1, h2, h3, h4, h5, h6⟩ := C.ex
  refine wpX_of (pe_call (E := E0) h1 hr hg h2 h3 h4 h5 passL pa_wp hdb he hpl) (wpA_mono (ha.2 F T Γ S σ H _ r e1) fun vs H' ⟨hz, r1⟩ => ?_)
  exact spP_of r1 (by simpa using hz) (fun q hq => List.mem_append_left _ hq) h6 e2 (fun d' ed v H2 r2 => by cases ed; exact r2.drop dropA) fun er z => by cases z
theorem re_call {k : Nat} {x : Str} {p pos : Pos} {e : Expr} {es : List Expr} {dfl : List D} {G : PC} {ws : WAs} (C : CallP X.prog X.w X.K X.mg X.base ci k x dfl (spP X.K ci G)) (hr : Room k X.A) (hg : Gl X x) (ha : RA ci X (e :: es) ws)
    (hdb : (x == ("__debug__" : Str)) = false := by decide +kernel) (he : starEach (e :: es) X.env = (false, eval e X.env) :: starEach es X.env := by rfl) (hpl : (backTo pos (starEach es X.env)).any (·.1) = false := by kernel_rfl) : RE ci X (.Call (.Name x p) (e :: es) [] pos) (wFn dfl G ws) := fun F ex xo T Γ S σ H Q r q => by
  obtain ⟨f, fd, ps, ds, h1, h2, h3, h4, h5, h6⟩ := C.ex
  refine wpX_of (pe_call (E := fun cls d H => ExW F ex cls d H) h1 hr hg h2 h3 h4 h5 (passX xo) pa_wp hdb he hpl) (wpA_mono (ha F ex xo T Γ S σ H _ r q) fun vs H' ⟨as, S1, hz, _, r1, l, o, e1, e2, q1⟩ => ?_)
  rw [dataOf_eq e1] at r1 hz
  refine spP_of r1 (by simpa using hz) (fun q hq => List.mem_append_left _ hq) h6 e2 (fun d' ed v H2 r2 => ?_) fun er ee cls dd H2 ⟨ρ, r2, hE⟩ => ?_
  · subst ed; exact ⟨_, S1, r2.drop dropA, q1⟩
  · subst ee; exact ⟨er, S1, ρ, (r2.bare).drop (fun x hx => by cases hx), hE, q1⟩
theorem re_callM {k : Nat} {x : Str} {p pos : Pos} {e : Expr} {es : List Expr} {dfl : List D} {fc : FC} {ws : WAs} (C : CallP X.prog X.w X.K X.mg X.base ci k x dfl (spOf X.K ci fc)) (hr : Room k X.A) (hg : Gl X x) (ha : RA ci X (e :: es) ws)
    (hdb : (x == ("__debug__" : Str)) = false := by decide +kernel) (he : starEach (e :: es) X.env = (false, eval e X.env) :: starEach es X.env := by rfl) (hpl : (backTo pos (starEach es X.env)).any (·.1) = false := by kernel_rfl) : RE ci X (.Call (.Name x p) (e :: es) [] pos) (wFnM dfl fc ws) := fun F ex xo T Γ S σ H Q r q => by
  obtain ⟨f, fd, ps, ds, h1, h2, h3, h4, h5, h6⟩ := C.ex
  refine wpX_of (pe_call (E := fun cls d H => ExW F ex cls d H) h1 hr hg h2 h3 h4 h5 (passX xo) pa_wp hdb he hpl) (wpA_mono (ha F ex xo T Γ S σ H _ r q) fun vs H' ⟨as, S1, hz, _, r1, q1⟩ => ?_)
  exact spOf_of r1 hz (fun q hq => List.mem_append_left _ hq) h6 q1 (fun a S' v H2 r2 h => ⟨a, S', r2.drop dropA, h⟩) fun cls dd H2 h => h
end
end LP

namespace LP
open PySem PySem.Spec PyProof.Rows L2

/-! attributes -/
theorem zip_lookup {α : Type} : ∀ {ns : List Str} {vs : List α} {j : Nat} {f : Str}, ns.Nodup → ns[j]? = some f → j < vs.length → (ns.zip vs).lookup f = vs[j]?
  | [], vs, j, f, _, e, _ => by simp at e
  | n :: ns, [], j, f, _, e, h => by simp at h
  | n :: ns, v :: vs, 0, f, _, e, h => by simp at e; subst e; simp [List.lookup]
  | n :: ns, v :: vs, j + 1, f, nd, e, h => by
    have e' : ns[j]? = some f := by simpa using e
    have hne : (f == n) = false := by
      rw [beq_eq_false_iff_ne]
      intro z; subst z
      exact (List.nodup_cons.mp nd).1 (List.mem_of_getElem? e')
    rw [List.zip_cons_cons, List.lookup_cons, hne]
    simpa using zip_lookup (List.nodup_cons.mp nd).2 e' (by simpa using h)
theorem zip_lookup_none {α : Type} : ∀ {ns : List Str} {vs : List α} {f : Str}, f ∉ ns → (ns.zip vs).lookup f = none
  | [], vs, f, _ => by simp
  | n :: ns, [], f, _ => by simp
  | n :: ns, v :: vs, f, h => by
    have hne : (f == n) = false := by
      rw [beq_eq_false_iff_ne]
      intro z; subst z; exact h List.mem_cons_self
    rw [List.zip_cons_cons, List.lookup_cons, hne]
    exact zip_lookup_none fun z => h (List.mem_cons_of_mem _ z)
def putAt {α : Type} (l : List α) (j : Nat) (a : α) : List α := if j < l.length then l.set j a else l ++ [a]
theorem zip_putF : ∀ {ns : List Str} {vs : List V} {j : Nat} {f : Str} {y : V}, ns.Nodup → ns[j]? = some f → j ≤ vs.length → putF f y (ns.zip vs) = ns.zip (putAt vs j y)
  | [], vs, j, f, y, _, e, _ => by simp at e
  | n :: ns, [], j, f, y, _, e, h => by
    have : j = 0 := by simpa using h
    subst this
    simp at e; subst e
    simp [putF, putAt]
  | n :: ns, v :: vs, 0, f, y, _, e, h => by
    simp at e; subst e
    simp [putF, putAt]
  | n :: ns, v :: vs, j + 1, f, y, nd, e, h => by
    have e' : ns[j]? = some f := by simpa using e
    have hne : ¬ n = f := by
      intro z; subst z
      exact (List.nodup_cons.mp nd).1 (List.mem_of_getElem? e')
    have ih := zip_putF (vs := vs) (y := y) (List.nodup_cons.mp nd).2 e' (by simpa using h)
    rw [List.zip_cons_cons, putF, if_neg hne, ih]
    unfold putAt
    by_cases hj : j < vs.length
    · rw [if_pos hj, if_pos (by simpa using hj), List.set_cons_succ, List.zip_cons_cons]
    · rw [if_neg hj, if_neg (by simpa using hj), List.cons_append, List.zip_cons_cons]
/-- attribute f, the j-th, of class c -/
structure AttrOk (K : PySem.W.Frag) (ci : Ci) (c : Nat) (f : Str) (j : Nat) : Prop where
  cl : Cls K (ci c).1
  no : NoAttr K (ci c).1 f
  nd : (ci c).2.Nodup
  at_ : (ci c).2[j]? = some f
  few : (ci c).2.length < 1000
def fldV (okc : List Nat) (j : Nat) (S : So) : A → Option A
  | .d (.ins c fs) => if okc.contains c = true then (fs[j]?).map A.d else none
  | .loc k => match S[k]? with
    | some (.ins c fs) => if okc.contains c = true then fs[j]? else none
    | some (.frz (.ins c fs)) => if okc.contains c = true then (fs[j]?).map A.d else none
    | _ => none
  | _ => none
def fFld (okc : List Nat) (j : Nat) (f : QF) : QF := fun Γ S => (f Γ S).bind (fldV okc j S)
section
variable {ci : Ci} {X : Cx}
theorem fld_data {K : PySem.W.Frag} {M : List Addr} {H : Hp} {c : Nat} {fs : List D} {v : V} {j : Nat} {f : Str} {d : D} (A : AttrOk K ci c f j) (h : Rep K ci M H (.ins c fs) v) (e : fs[j]? = some d) : ∃ a C dx gs w, v = .ref a ∧ H a = some (.ins C dx gs) ∧ Cls K C ∧ NoAttr K C f ∧ gs.lookup f = some w ∧ Rep K ci M H d w := by
  rw [Rep] at h
  obtain ⟨p, dx, vs, e1, q, n, z, R⟩ := h
  obtain ⟨w, hw, rw'⟩ := R.getD e
  exact ⟨p, _, dx, _, w, e1, q, A.cl, A.no, by rw [zip_lookup A.nd A.at_ (List.getElem?_eq_some_iff.mp hw).1, hw], rw'⟩
theorem fld_end {F : Fr X.K ci} {T : List (A × V)} {Γ : Ga} {S : So} {σ : L2.St} {H : Hp} {okc : List Nat} {j : Nat} {f : Str} {a b : A} {v : V} (hA : ∀ c ∈ okc, AttrOk X.K ci c f j) (r : Rel F ((a, v) :: T) Γ S σ H)
    (e : fldV okc j S a = some b) : ∃ p C dx gs w, v = .ref p ∧ H p = some (.ins C dx gs) ∧ Cls X.K C ∧ NoAttr X.K C f ∧ gs.lookup f = some w ∧ Rel F ((b, w) :: T) Γ S σ H := by
  obtain ⟨ρ, r⟩ := r
  unfold fldV at e
  split at e
  · rename_i c fs
    split at e
    · rename_i hc
      cases e1 : fs[j]? with
      | none => rw [e1] at e; cases e
      | some d =>
        rw [e1] at e; cases e
        obtain ⟨p, C, dx, gs, w, h1, h2, h3, h4, h5, h6⟩ := fld_data (hA c (by simpa using hc)) (r.top List.mem_cons_self) e1
        exact ⟨p, C, dx, gs, w, h1, h2, h3, h4, h5, ρ, (r.push (a := .d d) h6).drop drop2⟩
    · cases e
  · rename_i k
    obtain ⟨p, hp, rfl⟩ := r.top (a := .loc k) (v := v) List.mem_cons_self
    split at e
    · rename_i c fs hs
      split at e
      · rename_i hc
        have Ao := hA c (by simpa using hc)
        obtain ⟨dx, vs, e1, z, R⟩ := r.st k p _ hp hs
        obtain ⟨w, hw, hr⟩ := R.getA e
        exact ⟨p, _, dx, _, w, rfl, e1, Ao.cl, Ao.no, by rw [zip_lookup Ao.nd Ao.at_ (List.getElem?_eq_some_iff.mp hw).1, hw], ρ, (r.push hr).drop drop2⟩
      · cases e
    · rename_i c fs hs
      split at e
      · rename_i hc
        cases e1 : fs[j]? with
        | none => rw [e1] at e; cases e
        | some d =>
          rw [e1] at e; cases e
          obtain ⟨p', C, dx, gs, w, h1, h2, h3, h4, h5, h6⟩ := fld_data (hA c (by simpa using hc)) (r.st k p _ hp hs) e1
          cases h1
          exact ⟨p, C, dx, gs, w, rfl, h2, h3, h4, h5, ρ, (r.push (a := .d d) h6).drop drop2⟩
      · cases e
    · cases e
  · cases e
theorem rp_fld {okc : List Nat} {j : Nat} {f : Str} {e : Expr} {fo : QF} {pos : Pos} (hA : ∀ c ∈ okc, AttrOk X.K ci c f j) (he : RP ci X e fo) (hb : attributeBase e f X.env (eval e X.env) = eval e X.env := by kernel_rfl) : RP ci X (.Attribute e f pos) (fFld okc j fo) := fun F T Γ S σ H b r q => by
  unfold fFld at q
  cases e1 : fo Γ S with
  | none => rw [e1] at q; cases q
  | some a =>
    rw [e1, Option.bind_some] at q
    refine wpX_of (pe_fld pe_wp hb) (wpX_mono (he F T Γ S σ H a r e1) fun v H' r1 => ?_)
    obtain ⟨p, C, dx, gs, w, h1, h2, h3, h4, h5, h6⟩ := fld_end hA r1 q
    exact ⟨p, C, dx, gs, w, h1, h2, h3, h4, h5, h6⟩
/-- o.f = e, o a thing that may change -/
def wSetF (okc : List Nat) (j : Nat) (wo we : WE) : WS := fun Γ S D => we Γ S D.ex fun b S1 => wo Γ S1 D.ex fun a S2 => ∃ k c fs, a = .loc k ∧ S2[k]? = some (.ins c fs) ∧ okc.contains c = true ∧ j ≤ fs.length ∧ D.nx Γ (S2.set k (.ins c (putAt fs j b)))
theorem AReps.putAt {K : PySem.W.Frag} {ρ M : List Addr} {H : Hp} {a : A} {v : V} {ds : List A} {vs : List V} {j : Nat} (q : ARep K ci ρ M H a v) (R : AReps K ci ρ M H ds vs) : AReps K ci ρ M H (putAt ds j a) (putAt vs j v) := by
  unfold LP.putAt
  rw [R.length]
  split
  · exact R.set q j
  · exact R.append ⟨v, [], rfl, q, rfl⟩
theorem rs_setF {okc : List Nat} {j : Nat} {f : Str} {o e : Expr} {wo we : WE} {pos' pos : Pos} (hA : ∀ c ∈ okc, AttrOk X.K ci c f j) (ho : RE ci X o wo) (he : RE ci X e we) (hs : swapsWith e (some (.Attribute o f pos')) pos.line X.env = pure false := by kernel_rfl) : RS ci X (.Assign [.Attribute o f pos'] e pos) (wSetF okc j wo we) := fun F D xo T Γ S σ H r q => by
  refine wpS_of (ps_fld pe_wp pe_wp hs) (wpX_mono (he F D.ex xo T Γ S σ H _ r q) fun y H1 ⟨b, S1, r1, q1⟩ => wpX_mono (ho F D.ex xo _ Γ S1 σ H1 _ r1 q1) fun x H2 ⟨a, S2, r2, k, c, fs, h1, h2, h3, h4, q2⟩ => ?_)
  subst h1
  have A := hA c (by simpa using h3)
  obtain ⟨ρ, r2⟩ := r2
  obtain ⟨p, hp, rfl⟩ := r2.top (a := .loc k) (v := x) List.mem_cons_self
  obtain ⟨dx, vs, e1, z, R⟩ := r2.st k p _ hp h2
  have hl : fs.length = vs.length := R.length
  refine ⟨p, _, dx, _, rfl, e1, A.cl, A.no, ?_, Γ, _, ⟨ρ, ?_⟩, q2⟩
  · rw [List.length_zip]; have := A.few; omega
  · have hb : ARep X.K ci ρ (mu F ρ S2) H2 b y := r2.tl (b, y) (by simp)
    have hpm : p ∈ mu F ρ S2 := List.mem_append_left _ (mutA_mem hp h2 rfl)
    have hh : ∀ a o, H2 a = some o → a ∉ mu F ρ S2 → (upd H2 p (.ins (ci c).1 dx (putF f y ((ci c).2.zip vs)))) a = some o ∧ a ∉ mu F ρ S2 := fun a o e n => ⟨by rw [upd_ne (fun w => n (by rw [w]; exact hpm))]; exact e, n⟩
    refine (r2.write (o := .ins (ci c).1 dx (putF f y ((ci c).2.zip vs))) (mo' := .ins c (putAt fs j b)) hp h2 rfl rfl ⟨dx, putAt vs j y, ?_, ?_, ?_⟩).drop fun q hq => by simp [hq]
    · rw [upd_same, zip_putF A.nd A.at_ (by omega)]
    · have := (List.getElem?_eq_some_iff.mp A.at_).1
      unfold LP.putAt; split <;> simp <;> omega
    · exact (AReps.putAt hb R).mono hh (List.prefix_refl _)
/-! methods of things that never change -/
structure MethP (P : Program) (w : World) (K : PySem.W.Frag) (mg : Str → Option Value) (base : Heap) (ci : Ci) (k : Nat) (c : Nat) (m : Str) (dfl : List D) (sp : Sp) : Prop where
  ex : ∃ (f : Addr) (fd : FuncData) (ps : List Str) (ds : List Value), FnOk P w K mg base (L2.CX P w) k f fd ps sp ∧ Cls K (ci c).1 ∧ Meth K (ci c).1 m f ∧ m ∉ (ci c).2 ∧ Binds K fd ps ds ∧ Vals (dfl.map D.v) ds ∧ dfl.all D.flat = true
def fMeth (mt : Nat → Option (List D × PC)) (fo : QF) (fs : QFs) : QF := fun Γ S => (fo Γ S).bind fun a => match a with
  | .d (.ins c flds) => (fs Γ S).bind fun as => (dataOf as).bind fun l => (mt c).bind fun (dfl, G) => match G (.ins c flds :: (l ++ dfl)) with
    | some (.ok d) => some (.d d)
    | _ => none
  | _ => none
theorem meth_some {mt : Nat → Option (List D × PC)} {fo : QF} {fs : QFs} {Γ : Ga} {S : So} {a : A} (h : fMeth mt fo fs Γ S = some a) : ∃ c flds l dfl G d, fo Γ S = some (.d (.ins c flds)) ∧ fs Γ S = some (l.map A.d) ∧ mt c = some (dfl, G) ∧ G (.ins c flds :: (l ++ dfl)) = some (.ok d) ∧ a = .d d := by
  unfold fMeth at h
  cases e1 : fo Γ S with
  | none => rw [e1] at h; cases h
  | some b =>
    rw [e1, Option.bind_some] at h
    split at h
    · rename_i c flds
      cases e2 : fs Γ S with
      | none => rw [e2] at h; cases h
      | some as =>
        rw [e2, Option.bind_some] at h
        cases e3 : dataOf as with
        | none => rw [e3] at h; cases h
        | some l =>
          rw [e3, Option.bind_some] at h
          cases e4 : mt c with
          | none => rw [e4] at h; cases h
          | some g =>
            obtain ⟨dfl, G⟩ := g
            rw [e4, Option.bind_some] at h
            dsimp only at h
            split at h
            · rename_i d e5
              cases h
              exact ⟨c, flds, l, dfl, G, d, rfl, by rw [dataOf_eq e3], e4, e5, rfl⟩
            · cases h
    · cases h
theorem ins_at {K : PySem.W.Frag} {M : List Addr} {H : Hp} {c : Nat} {fs : List D} {v : V} (h : Rep K ci M H (.ins c fs) v) : ∃ p dx vs, v = .ref p ∧ H p = some (.ins (ci c).1 dx ((ci c).2.zip vs)) := by
  rw [Rep] at h
  obtain ⟨p, dx, vs, e1, q, _⟩ := h
  exact ⟨p, dx, vs, e1, q⟩
theorem rp_meth {k : Nat} {m : Str} {o e : Expr} {es : List Expr} {apos pos : Pos} {mt : Nat → Option (List D × PC)} {fo : QF} {fs : QFs} {pl : Sem Bool} (hM : ∀ c dfl G, mt c = some (dfl, G) → MethP X.prog X.w X.K X.mg X.base ci k c m dfl (spP X.K ci G)) (hr : Room k X.A) (ho : RP ci X o fo) (ha : RPs ci X (e :: es) fs)
    (hst : starEach (e :: es) X.env = (false, eval e X.env) :: starEach es X.env := by kernel_rfl) (hpl : (backTo pos (starEach es X.env)).any (·.1) = false := by kernel_rfl)
    (ht : eval (.Call (.Attribute o m apos) (e :: es) [] pos) X.env = (do
      let ov ← eval o X.env
      standAt apos.atName
      let (f, first) ← holding [ov] (getMethod ov m pl)
      callWith pos f first (backTo pos (starEach (e :: es) X.env)) (backToKw pos (keywordEach [] X.env))) := by rfl) : RP ci X (.Call (.Attribute o m apos) (e :: es) [] pos) (fMeth mt fo fs) := fun F T Γ S σ H a r q => by
  obtain ⟨c, flds, l, dfl, G, d, e1, e2, e3, e4, rfl⟩ := meth_some q
  obtain ⟨f, fd, ps, ds, h1, h2, h3, h4, h5, h6, h7⟩ := (hM c dfl G e3).ex
  refine wpX_of (pe_meth (E := E0) pe_wp h2 h3 h1 hr h5 h6 passL pa_wp hst hpl ht) (wpX_mono (ho F T Γ S σ H _ r e1) fun v H1 r1 => ?_)
  obtain ⟨ρ1, q1⟩ := id r1
  obtain ⟨p, dx, vs, rfl, hp⟩ := ins_at (q1.top (a := .d (.ins c flds)) List.mem_cons_self)
  refine ⟨p, dx, _, rfl, hp, zip_lookup_none h4, wpA_mono (ha.2 F _ Γ S σ H1 _ r1 e2) fun us H2 ⟨hz, r2⟩ => ?_⟩
  exact spP_of (l := .ins c flds :: l) (vs := .ref p :: us) (o := .ok d) r2 (by simpa using hz) (fun q hq => by
    rw [List.map_cons, List.zip_cons_cons] at hq
    rcases List.mem_cons.mp hq with rfl | hq
    · simp
    · exact List.mem_append_left _ hq) h7 e4 (fun d' ed v H3 r3 => by
      cases ed
      refine r3.drop fun x hx => ?_
      rcases List.mem_cons.mp hx with rfl | hx
      · exact List.mem_cons_self
      · simp [hx]) fun er z => by cases z
theorem rp_meth0 {k : Nat} {m : Str} {o : Expr} {apos pos : Pos} {mt : Nat → Option (List D × PC)} {fo : QF} {pl : Sem Bool} (hM : ∀ c dfl G, mt c = some (dfl, G) → MethP X.prog X.w X.K X.mg X.base ci k c m dfl (spP X.K ci G)) (hr : Room k X.A) (ho : RP ci X o fo)
    (ht : eval (.Call (.Attribute o m apos) [] [] pos) X.env = (do
      let ov ← eval o X.env
      standAt apos.atName
      let (f, first) ← holding [ov] (getMethod ov m pl)
      callWith pos f first (backTo pos (starEach [] X.env)) (backToKw pos (keywordEach [] X.env))) := by rfl) : RP ci X (.Call (.Attribute o m apos) [] [] pos) (fMeth mt fo fNil) := fun F T Γ S σ H a r q => by
  obtain ⟨c, flds, l, dfl, G, d, e1, e2, e3, e4, rfl⟩ := meth_some q
  have hl : l = [] := by cases l with | nil => rfl | cons x y => cases e2
  subst hl
  obtain ⟨f, fd, ps, ds, h1, h2, h3, h4, h5, h6, h7⟩ := (hM c dfl G e3).ex
  refine wpX_of (pe_meth0 (E := E0) pe_wp h2 h3 h1 hr h5 h6 passL ht) (wpX_mono (ho F T Γ S σ H _ r e1) fun v H1 r1 => ?_)
  obtain ⟨ρ1, q1⟩ := id r1
  obtain ⟨p, dx, vs, rfl, hp⟩ := ins_at (q1.top (a := .d (.ins c flds)) List.mem_cons_self)
  refine ⟨p, dx, _, rfl, hp, zip_lookup_none h4, ?_⟩
  exact spP_of (l := [.ins c flds]) (vs := [.ref p]) (o := .ok d) r1 rfl (fun q hq => by simp at hq; simp [hq]) h7 e4 (fun d' ed v H3 r3 => by cases ed; exact r3.drop drop2) fun er z => by cases z
/-- a property -/
structure PropP (P : Program) (w : World) (K : PySem.W.Frag) (mg : Str → Option Value) (base : Heap) (ci : Ci) (k : Nat) (c : Nat) (m : Str) (G : PC) : Prop where
  ex : ∃ (p g : Addr) (fd : FuncData) (ps : List Str), FnOk P w K mg base (L2.CX P w) k g fd ps (spP K ci G) ∧ Cls K (ci c).1 ∧ PropOf K (ci c).1 m p g ∧ Binds K fd ps []
def propV (mt : Nat → Option PC) : A → Option A
  | .d (.ins c flds) => (mt c).bind fun G => match G [.ins c flds] with
    | some (.ok d) => some (.d d)
    | _ => none
  | _ => none
def fProp (mt : Nat → Option PC) (fo : QF) : QF := fun Γ S => (fo Γ S).bind (propV mt)
theorem rp_prop {k : Nat} {m : Str} {o : Expr} {pos : Pos} {mt : Nat → Option PC} {fo : QF} (hM : ∀ c G, mt c = some G → PropP X.prog X.w X.K X.mg X.base ci k c m G) (hr : Room (k + 1) X.A) (ho : RP ci X o fo) (hb : attributeBase o m X.env (eval o X.env) = eval o X.env := by kernel_rfl) : RP ci X (.Attribute o m pos) (fProp mt fo) := fun F T Γ S σ H a r q => by
  unfold fProp at q
  cases e1 : fo Γ S with
  | none => rw [e1] at q; cases q
  | some b =>
    rw [e1, Option.bind_some] at q
    unfold propV at q
    split at q
    · rename_i c flds
      cases e2 : mt c with
      | none => rw [e2] at q; cases q
      | some G =>
        rw [e2, Option.bind_some] at q
        split at q
        · rename_i d e3
          cases q
          obtain ⟨p, g, fd, ps, h1, h2, h3, h4⟩ := (hM c G e2).ex
          refine wpX_of (pe_prop (E := E0) (ds := []) pe_wp h2 h3 h1 hr h4 .nil passL hb) (wpX_mono (ho F T Γ S σ H _ r e1) fun v H1 r1 => ?_)
          obtain ⟨ρ1, q1⟩ := id r1
          obtain ⟨p, dx, vs, rfl, hp⟩ := ins_at (q1.top (a := .d (.ins c flds)) List.mem_cons_self)
          refine ⟨p, dx, _, rfl, hp, ?_⟩
          exact spP_of (l := [.ins c flds]) (vs := [.ref p]) (dfl := []) (o := .ok d) r1 rfl (fun q hq => by simp at hq; simp [hq]) rfl e3 (fun d' ed v H3 r3 => by cases ed; exact r3.drop drop2) fun er z => by cases z
        · cases q
    · cases q
/-! a new instance -/
abbrev PI' := List D → Option (Except Er (List D))
def spI (K : PySem.W.Frag) (ci : Ci) (c : Nat) (G : PI') : Sp := fun vs H Q E => ∃ (p : Addr) (ds : List D) (vs' : List V) (ex : List Addr) (o : Except Er (List D)), vs = .ref p :: vs' ∧ ds.length = vs'.length ∧ RelR (⟨H, [p], [p], ex⟩ : Fr K ci) [p] ((ds.map A.d).zip vs') [] [.ins c []] [] H ∧ G ds = some o ∧ match o with
  | .ok fs => ∀ H', (∃ S', Rel (⟨H, [p], [p], ex⟩ : Fr K ci) [] [] S' [] H' ∧ S'[0]? = some (.ins c (fs.map A.d))) → Q .non H'
  | .error er => ∀ cls dd H', (∃ S ρ, RelR (⟨H, [p], [p], ex⟩ : Fr K ci) ρ [] [] S [] H' ∧ ErrRep ci (⟨H, [p], [p], ex⟩ : Fr K ci) ρ S er cls dd H') → E cls dd H'
end
section
variable {P : Program} {w0 : World} {K : PySem.W.Frag} {mg : Str → Option Value} {base : Heap} {ci : Ci} {x qual : Str} {params : Arguments} {body : List Stmt} {scope : Scope} {dvs : List V} {kws : List (Str × V)} {f : Addr} {fd : FuncData} {N ps : List Str} {k : Nat}
theorem fnI {c : Nat} (F : FunD K x qual params body scope dvs kws f fd) (sc : FnScope N ps scope) {G : PI'} {w : WS} (hlen : ∀ ds o, G ds = some o → ds.length + 1 = ps.length) (hb : Body P w0 K mg base ci N qual scope f k body w)
    (hv : ∀ ds o, G ds = some o → w (stG N (.loc 0 :: ds.map A.d)) [.ins c []] { nx := fun _ S' => ∃ fs, o = .ok fs ∧ S'[0]? = some (.ins c (fs.map A.d)), rt := fun a S' => a = .d .non ∧ ∃ fs, o = .ok fs ∧ S'[0]? = some (.ins c (fs.map A.d)), ex := fun er _ => o = .error er }) : FnOk P w0 K mg base (L2.CX P w0) (k + 1) f fd ps (spI K ci c G) := by
  refine F.ok sc (fun vs H Q E h => ?_) (fun cdv A0 outer s H vs Q E hr h => ?_)
  · obtain ⟨p, ds, vs', ex, o, rfl, h1, _, h3, _⟩ := h
    rw [List.length_cons, ← h1, hlen ds o h3]
  · obtain ⟨p, ds, vs', ex, o, rfl, h1, h2, h3, h4⟩ := h
    have tk : Takes (cxD P w0 K mg base N qual scope f cdv A0 outer s H E) (fun cls d _ H => E cls d H) := takes_of rfl rfl rfl rfl
    refine ⟨_, pss_wp, ?_⟩
    have h2' : RelR (⟨H, [p], [p], ex⟩ : Fr K ci) [p] ((A.loc 0 :: ds.map A.d).zip (V.ref p :: vs')) [] [.ins c []] [] H := h2.push (a := .loc 0) (v := .ref p) ⟨p, rfl, rfl⟩
    have r0 := rel_start (N := N) h2' (by simp [h1])
    cases o with
    | ok fs =>
      have xo : Xok (cxD P w0 K mg base N qual scope f cdv A0 outer s H E) (⟨H, [p], [p], ex⟩ : Fr K ci) (fun er _ => (Except.ok fs : Except Er (List D)) = .error er) := tk.imp fun c dd σ H' ⟨er, S, ρ, _, _, z⟩ => by cases z
      have := hb cdv A0 outer s H E hr _ _ xo [] _ _ _ H ⟨[p], r0⟩ (hv ds _ h3)
      refine fun pins s' I => thn (this pins s' I) fun fl s2 z => ?_
      cases fl with
      | next =>
        obtain ⟨σ', H', I', Γ', S', r', fs', e, e2⟩ := z
        cases e
        exact ⟨σ', H', I', h4 _ ⟨S', r'.bare, e2⟩⟩
      | ret u =>
        obtain ⟨v, σ', H', I', rv, a, S', r', e0, fs', e1, e2⟩ := z
        cases e1
        subst e0
        have hv : v = .non := r'.asNon List.mem_cons_self
        subst hv
        exact ⟨_, σ', H', I', rv, h4 _ ⟨S', r'.tail, e2⟩⟩
      | brk => obtain ⟨_, _, _, _, _, _, z⟩ := z; exact z.elim
      | cont => obtain ⟨_, _, _, _, _, _, z⟩ := z; exact z.elim
    | error er =>
      have xo : Xok (cxD P w0 K mg base N qual scope f cdv A0 outer s H E) (⟨H, [p], [p], ex⟩ : Fr K ci) (fun er' _ => (Except.error er : Except Er (List D)) = .error er') := tk.imp fun c dd σ H' ⟨er', S, ρ, r', e', z⟩ => by
        cases z
        exact h4 _ _ _ ⟨S, ρ, r', e'⟩
      have := hb cdv A0 outer s H E hr _ _ xo [] _ _ _ H ⟨[p], r0⟩ (hv ds _ h3)
      refine fun pins s' I => thn (this pins s' I) fun fl s2 z => ?_
      cases fl with
      | next => obtain ⟨_, _, _, _, _, _, _, z, _⟩ := z; cases z
      | ret u => obtain ⟨_, _, _, _, _, _, _, _, _, _, z, _⟩ := z; cases z
      | brk => obtain ⟨_, _, _, _, _, _, z⟩ := z; exact z.elim
      | cont => obtain ⟨_, _, _, _, _, _, z⟩ := z; exact z.elim
end
structure MakeP (P : Program) (w : World) (K : PySem.W.Frag) (mg : Str → Option Value) (base : Heap) (ci : Ci) (k : Nat) (x : Str) (c : Nat) (dfl : List D) (G : PI') : Prop where
  ex : ∃ (f : Addr) (fd : FuncData) (ps : List Str) (ds : List Value), FnOk P w K mg base (L2.CX P w) k f fd ps (spI K ci c G) ∧ Mk K (ci c).1 f ∧ mg x = some (.ref (ci c).1) ∧ Binds K fd ps ds ∧ Vals (dfl.map D.v) ds ∧ dfl.all D.flat = true
  len : ∀ ds fs, G ds = some (.ok fs) → fs.length = (ci c).2.length
def fMake (c : Nat) (dfl : List D) (G : PI') (fs : QFs) : QF := fun Γ S => (fs Γ S).bind fun as => (dataOf as).bind fun l => match G (l ++ dfl) with | some (.ok d) => some (.d (.ins c d)) | _ => none
def wMake (c : Nat) (dfl : List D) (G : PI') (ws : WAs) : WE := fun Γ S ex Q => ws Γ S ex fun as S1 => ∃ l o, dataOf as = some l ∧ G (l ++ dfl) = some o ∧ match o with | .ok d => Q (.d (.ins c d)) S1 | .error er => ex er S1
section
variable {K : PySem.W.Frag} {ci : Ci}
theorem make_of {F : Fr K ci} {T : List (A × V)} {Γ : Ga} {S : So} {σ : L2.St} {H : Hp} {c : Nat} {l dfl : List D} {vs : List V} {G : PI'} {o : Except Er (List D)} {Q : VK} {E : XK} {x dx : Addr} (r : Rel F T Γ S σ H) (hl : l.length = vs.length) (hT : ∀ q ∈ (l.map A.d).zip vs, q ∈ T) (hf : dfl.all D.flat = true) (e : G (l ++ dfl) = some o)
    (hx : H x = none) (hdx : H dx = none) (hne : dx ≠ x) (hlen : ∀ fs, o = .ok fs → fs.length = (ci c).2.length)
    (k1 : ∀ d, o = .ok d → ∀ H', Rel F ((.d (.ins c d), .ref x) :: T) Γ S σ H' → Q (.ref x) H') (k2 : ∀ er, o = .error er → ∀ cls dd H', (∃ ρ, RelR F ρ T Γ S σ H' ∧ ErrRep ci F ρ S er cls dd H') → E cls dd H') :
    spI K ci c G (.ref x :: (vs ++ dfl.map D.v)) (upd (upd H dx (.own x)) x (.ins (ci c).1 dx [])) (fun v H2 => v = .non ∧ Q (.ref x) H2) E := by
  obtain ⟨ρ, r⟩ := r
  have hx2 : (upd H dx (.own x)) x = none := by rw [upd_ne hne.symm]; exact hx
  have r1 : RelR F ρ T Γ S σ (upd H dx (.own x)) := r.alloc hdx
  have r2 : RelR F ρ T Γ S σ (upd (upd H dx (.own x)) x (.ins (ci c).1 dx [])) := r1.alloc hx2
  have hxm := r1.fresh hx2
  have em : ∀ (S0 : So) (mo : MO), mu (⟨upd (upd H dx (.own x)) x (.ins (ci c).1 dx []), [x], [x], mu F ρ S⟩ : Fr K ci) [x] [.ins c []] = x :: mu F ρ S := fun _ _ => rfl
  refine ⟨x, l ++ dfl, vs ++ dfl.map D.v, mu F ρ S, o, rfl, by simp [hl], ?_, e, ?_⟩
  · have rf := r2.flats hf
    have hh : ∀ a u, (upd (upd H dx (.own x)) x (.ins (ci c).1 dx [])) a = some u → a ∉ mu F ρ S → a ≠ x → (upd (upd H dx (.own x)) x (.ins (ci c).1 dx [])) a = some u ∧ a ∉ x :: mu F ρ S := fun a u e n ne => ⟨e, fun z => by
      rcases List.mem_cons.mp z with z | z
      · exact ne z
      · exact n z⟩
    refine ⟨List.prefix_refl _, rfl, by simp [mutA, MO.live], fun k p o' e1 e2 => ?_, rfl, fun i a e => by simp at e, fun q hq => ?_, fun a u e _ => e, fun p hp => .inl (by simpa [mutA, MO.live] using hp), fun p hp => ⟨fun z => ?_, fun z => ?_⟩⟩
    · cases k with
      | zero =>
        simp at e1 e2; subst e1 e2
        exact ⟨dx, [], by rw [upd_same]; simp, Nat.zero_le _, rfl⟩
      | succ k => simp at e1
    · -- the arguments do not lean on x: they were there before
      have rf1 := r1.flats hf
      have hq' : q ∈ (dfl.map A.d).zip (dfl.map D.v) ++ T := by
        rw [List.map_append, zip_app (by simp [hl])] at hq
        rcases List.mem_append.mp hq with hq | hq
        · exact List.mem_append_right _ (hT q hq)
        · exact List.mem_append_left _ hq
      have hd : ∃ d, q.1 = A.d d := by
        obtain ⟨d, _, h⟩ := List.mem_map.mp (List.of_mem_zip hq).1
        exact ⟨d, h.symm⟩
      obtain ⟨d, hd⟩ := hd
      have h0 := rf1.tl q hq'
      rw [hd] at h0 ⊢
      refine Rep.mono (fun a u e n => ?_) d q.2 h0
      have ne : a ≠ x := ne_of_none e hx2
      refine ⟨by rw [upd_ne ne]; exact e, fun z => ?_⟩
      rcases List.mem_cons.mp z with z | z
      · exact ne z
      · exact n z
    · simp at z; subst z; exact hxm hp
    · have z' : (upd (upd H dx (.own x)) x (.ins (ci c).1 dx [])) p = none := z
      exact r2.fresh z' hp
  · cases o with
    | ok fs =>
      rintro H' ⟨S', ⟨ρ', q⟩, e0⟩
      refine ⟨rfl, k1 fs rfl H' ?_⟩
      have h0 : ∀ a u, (upd (upd H dx (.own x)) x (.ins (ci c).1 dx [])) a = some u → a ≠ x → H' a = some u := fun a u e n => q.ext a u e (by simp [n])
      have h1 : ∀ a u, H a = some u → H' a = some u := fun a u e => by
        have n1 : a ≠ dx := ne_of_none e hdx
        have n2 : a ≠ x := ne_of_none e hx
        exact h0 a u (by rw [upd_ne n2, upd_ne n1]; exact e) n2
      have hh : ∀ a u, H a = some u → a ∉ mu F ρ S → H' a = some u ∧ a ∉ mu F ρ S := fun a u e n => ⟨h1 a u e, n⟩
      have g : RelR F ρ T Γ S σ H' := r.move (List.prefix_refl _) r.len r.nd hh (fun k p o e1 e2 => (r.st k p o e1 e2).mono hh (List.prefix_refl _) fun hl => by
        obtain ⟨u, hu, _⟩ := (r.st k p o e1 e2).there hl
        rw [h1 p u hu, hu]) (fun a o e n => h1 a o (r.ext a o e n)) r.fr
      refine ⟨ρ, g.push ?_⟩
      have hρ : ρ'[0]? = some x := by
        obtain ⟨t, ht⟩ := q.pre
        rw [← ht]; rfl
      obtain ⟨dx', vs', v1, v2, v3⟩ := q.st 0 x _ hρ e0
      rw [ARep, Rep]
      refine ⟨x, dx', vs', rfl, v1, r.fresh hx, ?_, v3.data.mono fun a u e n => ⟨e, fun z => n (List.mem_append_right _ z)⟩⟩
      rw [← v3.data.length, hlen fs rfl]
    | error er =>
      rintro cls dd H' ⟨S', ρ', q, h⟩
      refine k2 er rfl cls dd H' ⟨ρ, ?_, ?_⟩
      · have h0 : ∀ a u, (upd (upd H dx (.own x)) x (.ins (ci c).1 dx [])) a = some u → a ≠ x → H' a = some u := fun a u e n => q.ext a u e (by simp [n])
        have h1 : ∀ a u, H a = some u → H' a = some u := fun a u e => by
          have n1 : a ≠ dx := ne_of_none e hdx
          have n2 : a ≠ x := ne_of_none e hx
          exact h0 a u (by rw [upd_ne n2, upd_ne n1]; exact e) n2
        have hh : ∀ a u, H a = some u → a ∉ mu F ρ S → H' a = some u ∧ a ∉ mu F ρ S := fun a u e n => ⟨h1 a u e, n⟩
        exact r.move (List.prefix_refl _) r.len r.nd hh (fun k p o e1 e2 => (r.st k p o e1 e2).mono hh (List.prefix_refl _) fun hl => by
          obtain ⟨u, hu, _⟩ := (r.st k p o e1 e2).there hl
          rw [h1 p u hu, hu]) (fun a o e n => h1 a o (r.ext a o e n)) r.fr
      · obtain ⟨a1, d', vs', a2, a3, a4, a5, a6⟩ := h
        exact ⟨a1, d', vs', a2, a3, fun z => a4 (List.mem_append_right _ z), a5, a6.mono fun a u e n => ⟨e, fun z => n (List.mem_append_right _ z)⟩⟩
end
section
variable {ci : Ci} {X : Cx}
theorem rp_make {k c : Nat} {x : Str} {p pos : Pos} {e : Expr} {es : List Expr} {dfl : List D} {G : PI'} {fs : QFs} (C : MakeP X.prog X.w X.K X.mg X.base ci k x c dfl G) (hr : Room (k + 1) X.A) (hg : Gl X x) (ha : RPs ci X (e :: es) fs)
    (hdb : (x == ("__debug__" : Str)) = false := by decide +kernel) (he : starEach (e :: es) X.env = (false, eval e X.env) :: starEach es X.env := by rfl) (hpl : (backTo pos (starEach es X.env)).any (·.1) = false := by kernel_rfl) : RP ci X (.Call (.Name x p) (e :: es) [] pos) (fMake c dfl G fs) := fun F T Γ S σ H a r q => by
  have : ∃ l d, fs Γ S = some (l.map A.d) ∧ G (l ++ dfl) = some (.ok d) ∧ a = .d (.ins c d) := by
    unfold fMake at q
    cases e1 : fs Γ S with
    | none => rw [e1] at q; cases q
    | some as =>
      rw [e1, Option.bind_some] at q
      cases e2 : dataOf as with
      | none => rw [e2] at q; cases q
      | some l =>
        rw [e2, Option.bind_some] at q
        split at q
        · rename_i d e3
          cases q
          exact ⟨l, d, by rw [dataOf_eq e2], e3, rfl⟩
        · cases q
  obtain ⟨l, d, e1, e2, rfl⟩ := this
  obtain ⟨f, fd, ps, ds, h1, h2, h3, h4, h5, h6⟩ := C.ex
  refine wpX_of (pe_make (E := E0) h2 h1 hr hg h3 h4 h5 passL pa_wp hdb he hpl) (wpA_mono (ha.2 F T Γ S σ H _ r e1) fun vs H' ⟨hz, r1⟩ x dx hx hdx hne => ?_)
  exact make_of (Q := fun v H' => Rel F ((.d (.ins c d), v) :: T) Γ S σ H') r1 (by simpa using hz) (fun q hq => List.mem_append_left _ hq) h6 e2 hx hdx hne (fun fs ef => by cases ef; exact C.len _ _ e2) (fun d' ed H2 r2 => by cases ed; exact r2.drop dropA) fun er z => by cases z
theorem re_make {k c : Nat} {x : Str} {p pos : Pos} {e : Expr} {es : List Expr} {dfl : List D} {G : PI'} {ws : WAs} (C : MakeP X.prog X.w X.K X.mg X.base ci k x c dfl G) (hr : Room (k + 1) X.A) (hg : Gl X x) (ha : RA ci X (e :: es) ws)
    (hdb : (x == ("__debug__" : Str)) = false := by decide +kernel) (he : starEach (e :: es) X.env = (false, eval e X.env) :: starEach es X.env := by rfl) (hpl : (backTo pos (starEach es X.env)).any (·.1) = false := by kernel_rfl) : RE ci X (.Call (.Name x p) (e :: es) [] pos) (wMake c dfl G ws) := fun F ex xo T Γ S σ H Q r q => by
  obtain ⟨f, fd, ps, ds, h1, h2, h3, h4, h5, h6⟩ := C.ex
  refine wpX_of (pe_make (E := fun cls d H => ExW F ex cls d H) h2 h1 hr hg h3 h4 h5 (passX xo) pa_wp hdb he hpl) (wpA_mono (ha F ex xo T Γ S σ H _ r q) fun vs H' ⟨as, S1, hz, _, r1, l, o, e1, e2, q1⟩ x dx hx hdx hne => ?_)
  rw [dataOf_eq e1] at r1 hz
  refine make_of r1 (by simpa using hz) (fun q hq => List.mem_append_left _ hq) h6 e2 hx hdx hne (fun fs ef => by subst ef; exact C.len _ _ e2) (fun d' ed H2 r2 => ?_) fun er ee cls dd H2 ⟨ρ, r2, hE⟩ => ?_
  · subst ed; exact ⟨_, S1, r2.drop dropA, q1⟩
  · subst ee; exact ⟨er, S1, ρ, (r2.bare).drop (fun x hx => by cases hx), hE, q1⟩
end
end LP

namespace LP
open PySem PySem.Spec PyProof.Rows L2
section
variable {ci : Ci} {X : Cx}
/-! chains of two comparisons -/
def fChain (g g' : So → A → A → Option D) (fa fb fc : QF) : QF := fun Γ S => (fa Γ S).bind fun x => (fb Γ S).bind fun y => (g S x y).bind fun d => match d with
  | .bl true => (fc Γ S).bind fun z => (g' S y z).map A.d
  | .bl false => some (.d (.bl false))
  | _ => none
theorem chain_some {g g' : So → A → A → Option D} {fa fb fc : QF} {Γ : Ga} {S : So} {r : A} (h : fChain g g' fa fb fc Γ S = some r) : ∃ x y b, fa Γ S = some x ∧ fb Γ S = some y ∧ g S x y = some (.bl b) ∧ ((b = false ∧ r = .d (.bl false)) ∨ (b = true ∧ ∃ z d, fc Γ S = some z ∧ g' S y z = some d ∧ r = .d d)) := by
  unfold fChain at h
  cases e1 : fa Γ S with
  | none => rw [e1] at h; cases h
  | some x =>
    cases e2 : fb Γ S with
    | none => rw [e1, e2] at h; cases h
    | some y =>
      rw [e1, e2, Option.bind_some, Option.bind_some] at h
      cases e3 : g S x y with
      | none => rw [e3] at h; cases h
      | some d =>
        rw [e3, Option.bind_some] at h
        split at h
        · cases e4 : fc Γ S with
          | none => rw [e4] at h; cases h
          | some z =>
            rw [e4, Option.bind_some] at h
            cases e5 : g' S y z with
            | none => rw [e5] at h; cases h
            | some d' => rw [e5] at h; cases h; exact ⟨x, y, true, rfl, rfl, e3, .inr ⟨rfl, z, d', rfl, e5, rfl⟩⟩
        · cases h; exact ⟨x, y, false, rfl, rfl, e3, .inl ⟨rfl, rfl⟩⟩
        · cases h
theorem rp_chain {op op' : CmpOp} {a b c : Expr} {pos : Pos} {g g' : So → A → A → Option D} {fa fb fc : QF} (ho : OpG ci X (compareOp op) g) (ho' : OpG ci X (compareOp op') g') (ha : RP ci X a fa) (hb : RP ci X b fb) (hc : RP ci X c fc)
    (hm : lastMarks [op, op'] [b, c] = false := by with_unfolding_all rfl) : RP ci X (.Compare a [op, op'] [b, c] pos) (fChain g g' fa fb fc) := fun F T Γ S σ H r hr q => by
  obtain ⟨x, y, bb, e1, e2, e3, e4⟩ := chain_some q
  obtain ⟨rr, hr1, hk⟩ := ho
  obtain ⟨rr', hr2, hk'⟩ := ho'
  refine wpX_of (pe_chain hr1 hr2 pe_wp pe_wp pe_wp hm) (wpX_mono (two ha hb hr e1 e2) fun v H1 h1 => wpX_mono h1 fun u H2 h2 => ?_)
  refine hk F _ Γ S σ H2 v u x y _ h2 (by simp) (by simp) e3 _ fun w H3 h3 => ?_
  refine ⟨bb, h3.asBl List.mem_cons_self, ?_⟩
  rcases e4 with ⟨rfl, rfl⟩ | ⟨rfl, z, d, e5, e6, rfl⟩
  · exact iteF ((h3.drop fun q hq => by simp [hq] : Rel F T Γ S σ H3).bl false)
  · refine iteT (wpX_mono (hc F _ Γ S σ H3 z h3 e5) fun t H4 h4 => ?_)
    exact hk' F _ Γ S σ H4 u t y z d h4 (by simp) (by simp) e6 _ fun w' H5 h5 => h5.drop fun q hq => by
      rcases List.mem_cons.mp hq with rfl | hq
      · exact List.mem_cons_self
      · simp [hq]
/-! texts -/
def strRep (s : Str) (n : Int) : Str := ⟨(List.replicate n.toNat s.cps).foldl (· ++ ·) #[]⟩
def gRepS (_ : So) : A → A → Option D
  | .d (.str s), .d (.int n) => if 0 ≤ n ∧ n ≤ 1000 ∧ s.length ≤ 10000 then some (.str (strRep s n)) else none
  | _, _ => none
theorem strRep_length (s : Str) (n : Int) : (strRep s n).length = n.toNat * s.length := by
  have : ∀ k : Nat, ((List.replicate k s.cps).foldl (· ++ ·) #[]).size = k * s.cps.size := by
    intro k
    induction k with
    | zero => simp
    | succ k ih => rw [List.replicate_succ', List.foldl_append, List.foldl_cons, List.foldl_nil, Array.size_append, ih, Nat.succ_mul]
  exact this _
theorem strRep_one (s : Str) : strRep s 1 = s := by
  unfold strRep
  simp
theorem strRep_empty {s : Str} {n : Int} (h : s.length = 0) : strRep s n = s := by
  unfold strRep
  have hs : s.cps = #[] := by
    apply Array.eq_empty_of_size_eq_zero
    exact h
  have : ∀ k : Nat, (List.replicate k s.cps).foldl (· ++ ·) #[] = (#[] : Array Nat) := by
    intro k
    induction k with
    | zero => rfl
    | succ k ih => rw [List.replicate_succ', List.foldl_append, ih, hs]; rfl
  rw [this]
  cases s; simp at hs; rw [hs]
theorem o_repS : OpG ci X (binaryOp .Mult) gRepS := ⟨fun x y H Q => ∃ s n, x = .str s ∧ y = .int n ∧ 0 ≤ n ∧ n ≤ 1000 ∧ s.length ≤ 10000 ∧ Q (.str (strRep s n)) H, by
  intro pins s σ H x y v u Q I rx ry h
  obtain ⟨z, n, rfl, rfl, h0, h1, h2, q⟩ := h
  obtain ⟨t, rfl⟩ := rx
  obtain ⟨t', rfl⟩ := ry
  have fin : ∀ (tk : Tok) (s' : Shared), Inv X pins σ H s' → EP X pins σ Q (.str (strRep z n) tk) s' := fun tk s' I' => ⟨.str (strRep z n), H, I', ⟨_, rfl⟩, q⟩
  refine P.mul_str (by rw [decide_eq_false (by omega), decide_eq_false (by omega)]; rfl) (fun hn _ => ?_) (fun hn _ => ?_) ?_
  · have h3 : (z.length : Int) ≤ (2 ^ 63 - 1) / n := by
      rw [Int.le_ediv_iff_mul_le (by omega)]
      have : (z.length : Int) * n ≤ 10000 * 1000 := Int.mul_le_mul (by omega) h1 (by omega) (by omega)
      omega
    omega
  · have : z.length * n.toNat ≤ 10000 * 1000 := Nat.mul_le_mul h2 (by omega)
    unfold Builtin.Str.tooLong
    exact decide_eq_false (by unfold sizeLine; omega)
  · split
    · have e0 : strRep z n = Str.empty := by
        have : n.toNat = 0 := by omega
        unfold strRep; rw [this]; rfl
      exact ⟨by decide, by rw [← e0]; exact fin _ _ (I.tok _)⟩
    · split
      · rename_i h3
        have e0 : strRep z n = z := by
          rw [Bool.or_eq_true] at h3
          rcases h3 with h3 | h3
          · have : n = 1 := by simpa using h3
            rw [this, strRep_one]
          · exact strRep_empty (by simpa using h3)
        have := fin t s I
        rw [e0] at this
        exact this
      · refine ⟨?_, fin _ _ (I.tok _)⟩
        show (strRep z n).length ≤ sizeLine
        rw [strRep_length]
        have : n.toNat * z.length ≤ 1000 * 10000 := Nat.mul_le_mul (by omega) h2
        unfold sizeLine; omega, fun F T Γ S σ H x y a b d r hx hy e Q k => by
  unfold gRepS at e
  split at e
  · split at e
    · rename_i hc
      cases e
      exact ⟨_, _, r.asStr hx, r.asInt hy, hc.1, hc.2.1, hc.2.2, k _ _ (r.str _)⟩
    · cases e
  · cases e⟩
/-- xs + ys, lists -/
def gCat (S : So) (a b : A) : Option D := (viewLs S a).bind fun l => (viewLs S b).bind fun m => if l.length + m.length ≤ sizeLine then some (.lst (l ++ m)) else none
where viewLs (S : So) : A → Option (List D)
  | .d (.lst l) => some l
  | .loc k => match S[k]? with
    | some (.lst as) => dataOf as
    | some (.frz (.lst l)) => some l
    | _ => none
  | _ => none
theorem viewLs_ok {K : PySem.W.Frag} {F : Fr K ci} {ρ : List Addr} {T : List (A × V)} {Γ : Ga} {S : So} {σ : L2.St} {H : Hp} {a : A} {v : V} {l : List D} (r : RelR F ρ T Γ S σ H) (h : ARep K ci ρ (mu F ρ S) H a v) (e : gCat.viewLs S a = some l) : ∃ p vs, v = .ref p ∧ H p = some (.lst vs) ∧ Reps K ci (mu F ρ S) H l vs := by
  unfold gCat.viewLs at e
  split at e
  · cases e
    rw [ARep, Rep] at h
    obtain ⟨p, vs, e1, q, rs⟩ := h
    exact ⟨p, vs, e1, q.1, rs⟩
  · rename_i k
    obtain ⟨p, hp, rfl⟩ := h
    split at e
    · rename_i as hs
      obtain ⟨vs, e1, q⟩ := r.st k p _ hp hs
      rw [dataOf_eq e] at q
      exact ⟨p, vs, rfl, e1, q.data⟩
    · rename_i l' hs
      cases e
      have := r.st k p _ hp hs
      rw [MRep, Rep] at this
      obtain ⟨p', vs, e1, q, rs⟩ := this
      cases e1
      exact ⟨p, vs, rfl, q.1, rs⟩
    · cases e
  · cases e
theorem o_cat : OpG ci X (binaryOp .Add) gCat := ⟨_, op_cat, fun F T Γ S σ H x y a b d r hx hy e Q k => by
  unfold gCat at e
  cases e1 : gCat.viewLs S a with
  | none => rw [e1] at e; cases e
  | some l =>
    rw [e1, Option.bind_some] at e
    cases e2 : gCat.viewLs S b with
    | none => rw [e2] at e; cases e
    | some m =>
      rw [e2, Option.bind_some] at e
      split at e
      · rename_i hl
        cases e
        obtain ⟨ρ, r⟩ := r
        obtain ⟨p, vs, rfl, h1, R1⟩ := viewLs_ok r (r.top hx) e1
        obtain ⟨q, ws, rfl, h2, R2⟩ := viewLs_ok r (r.top hy) e2
        exact ⟨p, q, vs, ws, rfl, rfl, h1, h2, by rw [← R1.length, ← R2.length]; exact hl, fun z hz => k _ _ ⟨ρ, r.newL hz (R1.append R2)⟩⟩
      · cases e⟩
/-- xs * n, a list -/
def gRepL (S : So) (a b : A) : Option D := (gCat.viewLs S a).bind fun l => match b with
  | .d (.int n) => if 0 ≤ n ∧ n ≤ 1000 ∧ l.length ≤ 1000 then some (.lst (List.replicate n.toNat l).flatten) else none
  | _ => none
theorem reps_rep {K : PySem.W.Frag} {M : List Addr} {H : Hp} {l : List D} {vs : List V} (R : Reps K ci M H l vs) : ∀ n : Nat, Reps K ci M H (List.replicate n l).flatten (List.replicate n vs).flatten
  | 0 => .nil
  | n + 1 => by rw [List.replicate_succ, List.replicate_succ, List.flatten_cons, List.flatten_cons]; exact R.append (reps_rep R n)
theorem o_repL : OpG ci X (binaryOp .Mult) gRepL := ⟨_, op_rep, fun F T Γ S σ H x y a b d r hx hy e Q k => by
  unfold gRepL at e
  cases e1 : gCat.viewLs S a with
  | none => rw [e1] at e; cases e
  | some l =>
    rw [e1, Option.bind_some] at e
    split at e
    · rename_i n
      split at e
      · rename_i hc
        cases e
        have hy' := r.asInt hy
        obtain ⟨ρ, r⟩ := r
        obtain ⟨p, vs, rfl, h1, R1⟩ := viewLs_ok r (r.top hx) e1
        refine ⟨p, n, vs, rfl, hy', h1, by omega, by omega, ?_, fun z hz => k _ _ ⟨ρ, r.newL hz (reps_rep R1 _)⟩⟩
        have := R1.length
        have h3 : vs.length * n.toNat ≤ 1000 * 1000 := Nat.mul_le_mul (by omega) (by omega)
        exact Nat.le_trans h3 (by decide)
      · cases e
    · cases e⟩
/-! methods of texts: join, split, partition -/
def gM1 (ci : Ci) (X : Cx) (id : String) (g : So → Str → A → Option D) : Prop := ∃ r, MtR X id r ∧ ∀ (F : Fr X.K ci) T Γ S σ H s b y d, Rel F T Γ S σ H → (b, y) ∈ T → g S s b = some d → ∀ Q : VK, (∀ v H', Rel F ((.d d, v) :: T) Γ S σ H' → Q v H') → r (.str s) [y] H Q
def fM1 (g : So → Str → A → Option D) (fo fe : QF) : QF := fun Γ S => (fo Γ S).bind fun a => (fe Γ S).bind fun b => match a with
  | .d (.str s) => (g S s b).map A.d
  | _ => none
theorem rp_m1 {id : String} {name : Str} {apos pos : Pos} {o e : Expr} {g : So → Str → A → Option D} {fo fe : QF} (slot : Slot "str" name id) (ty : typeOf (.builtin id) = pure (.type "method_descriptor")) (hg : gM1 ci X id g) (ho : RP ci X o fo) (he : RP ci X e fe)
    (hs : starEach [e] X.env = [(false, eval e X.env)] := by kernel_rfl) (hbase : attributeBase o name X.env (eval o X.env) = eval o X.env := by kernel_rfl) (hline : (apos.endLine == pos.line) = true := by kernel_rfl) : RP ci X (.Call (.Attribute o name apos) [e] [] pos) (fM1 g fo fe) := fun F T Γ S σ H z r q => by
  obtain ⟨rr, hr, hk⟩ := hg
  unfold fM1 at q
  cases e1 : fo Γ S with
  | none => rw [e1] at q; cases q
  | some a =>
    cases e2 : fe Γ S with
    | none => rw [e1, e2] at q; cases q
    | some b =>
      rw [e1, e2, Option.bind_some, Option.bind_some] at q
      split at q
      · rename_i s
        cases e3 : g S s b with
        | none => rw [e3] at q; cases q
        | some d =>
          rw [e3] at q; cases q
          refine wpX_of (pe_m1 slot ty hr pe_wp pe_wp hs hbase hline) (wpX_mono (ho F T Γ S σ H _ r e1) fun v H1 h1 => ?_)
          have hv := h1.asStr List.mem_cons_self
          subst hv
          refine ⟨⟨s, rfl⟩, wpX_mono (he F _ Γ S σ H1 _ h1 e2) fun u H2 h2 => ?_⟩
          exact hk F _ Γ S σ H2 s b u d h2 List.mem_cons_self e3 _ fun w H3 h3 => h3.drop drop3
      · cases q
def wM1 (g : So → Str → A → Option D) (fo : QF) (we : WE) : WE := fun Γ S ex Q => ∃ s, fo Γ S = some (.d (.str s)) ∧ we Γ S ex fun b S2 => ∃ d, g S2 s b = some d ∧ Q (.d d) S2
theorem re_m1 {id : String} {name : Str} {apos pos : Pos} {o e : Expr} {g : So → Str → A → Option D} {fo : QF} {we : WE} (slot : Slot "str" name id) (ty : typeOf (.builtin id) = pure (.type "method_descriptor")) (hg : gM1 ci X id g) (ho : RP ci X o fo) (he : RE ci X e we)
    (hs : starEach [e] X.env = [(false, eval e X.env)] := by kernel_rfl) (hbase : attributeBase o name X.env (eval o X.env) = eval o X.env := by kernel_rfl) (hline : (apos.endLine == pos.line) = true := by kernel_rfl) : RE ci X (.Call (.Attribute o name apos) [e] [] pos) (wM1 g fo we) := fun F ex xo T Γ S σ H Q r q => by
  obtain ⟨rr, hr, hk⟩ := hg
  obtain ⟨s, e1, q⟩ := q
  refine wpX_of (pe_m1 slot ty hr pe_wp pe_wp hs hbase hline) (wpX_mono (ho F T Γ S σ H _ r e1) fun v H1 h1 => ?_)
  have hv := h1.asStr List.mem_cons_self
  subst hv
  refine ⟨⟨s, rfl⟩, wpX_mono (he F ex xo _ Γ S σ H1 _ h1 q) fun u H2 ⟨b, S2, h2, d, e3, q2⟩ => ?_⟩
  exact hk F _ Γ S2 σ H2 s b u d h2 List.mem_cons_self e3 _ fun w H3 h3 => ⟨_, S2, h3.drop drop3, q2⟩
def gJoin (S : So) (s : Str) (a : A) : Option D := (viewQ S a).bind fun l => (dStrs l).bind fun ys => if (ys.map (·.length)).sum + ys.length * s.length ≤ 16777216 then some (.str (Str.join s ys)) else none
theorem m_join : gM1 ci X "str.join" gJoin := ⟨_, mt_join, fun F T Γ S σ H s b y d r hb e Q k => by
  unfold gJoin at e
  cases e1 : viewQ S b with
  | none => rw [e1] at e; cases e
  | some l =>
    rw [e1, Option.bind_some] at e
    cases e2 : dStrs l with
    | none => rw [e2] at e; cases e
    | some ys =>
      rw [e2, Option.bind_some] at e
      split at e
      · rename_i hz
        cases e
        obtain ⟨ρ, r'⟩ := id r
        obtain ⟨p, vs, rfl, hq, R⟩ := r'.viewQ (r'.top hb) e1
        have := strs_reps' e2 R
        subst this
        exact ⟨s, p, ys, rfl, rfl, hq, hz, by rw [show Txt.join s ys = Str.join s ys from TL.join_eq s ys]; exact k _ _ (r.str _)⟩
      · cases e⟩
where strs_reps' {K : PySem.W.Frag} {M : List Addr} {H : Hp} {l : List D} {vs : List V} {bs : List Str} (h : dStrs l = some bs) (r : Reps K ci M H l vs) : vs = bs.map V.str := strs_reps h r
theorem reps_strs {K : PySem.W.Frag} {M : List Addr} {H : Hp} : ∀ ys : List Str, Reps K ci M H (ys.map D.str) (ys.map V.str)
  | [] => .nil
  | y :: ys => .cons (by rw [Rep]) (reps_strs ys)
def gSplit (_ : So) (s : Str) (a : A) : Option D := match a with
  | .d (.str b) => if b.length ≠ 0 ∧ s.length + 2 ≤ sizeLine then some (.lst ((Txt.split s b).map D.str)) else none
  | _ => none
theorem m_split : gM1 ci X "str.split" gSplit := ⟨_, mt_split, fun F T Γ S σ H s b y d r hb e Q k => by
  unfold gSplit at e
  split at e
  · rename_i t
    split at e
    · rename_i hc
      cases e
      refine ⟨s, t, rfl, by rw [r.asStr hb], by simpa using hc.1, hc.2, fun p hp => ?_⟩
      obtain ⟨ρ, r'⟩ := r
      exact k _ _ ⟨ρ, r'.newL hp (reps_strs _)⟩
    · cases e
  · cases e⟩
/-! f-strings -/
def fFmt (f : QF) : QF := fun Γ S => (f Γ S).bind fun a => match a with
  | .d (.str s) => if s.length ≤ sizeLine then some (.d (.str s)) else none
  | .d (.int i) => if i.natAbs.log2 < 1920 then some (.d (.str (toString i))) else none
  | _ => none
theorem rp_fmt {e : Expr} {f : QF} {pos : Pos} (h : RP ci X e f) : RP ci X (.FormattedValue e (-1) none pos) (fFmt f) := fun F T Γ S σ H z r q => by
  unfold fFmt at q
  cases e1 : f Γ S with
  | none => rw [e1] at q; cases q
  | some a =>
    rw [e1, Option.bind_some] at q
    refine wpX_of (pe_fmt pe_wp) (wpX_mono (h F T Γ S σ H _ r e1) fun v H1 h1 => ?_)
    split at q
    · split at q
      · rename_i hs
        cases q
        exact .inl ⟨_, h1.asStr List.mem_cons_self, hs, h1.tail.str _⟩
      · cases q
    · split at q
      · rename_i hs
        cases q
        exact .inr ⟨_, h1.asInt List.mem_cons_self, hs, h1.tail.str _⟩
      · cases q
    · cases q
/-- the parts, glued from the left -/
def RJ (ci : Ci) (X : Cx) (es : List Expr) (fs : List QF) : Prop := Paired (fun e f => RP ci X e f) es fs
def glue (Γ : Ga) (S : So) : Str → List QF → Option Str
  | acc, [] => some acc
  | acc, f :: fs => (f Γ S).bind fun a => match a with
    | .d (.str s) => if (acc ++ s).length ≤ sizeLine then glue Γ S (acc ++ s) fs else none
    | _ => none
def fJoin (fs : List QF) : QF := fun Γ S => (glue Γ S Str.empty fs).map fun s => .d (.str s)
theorem rj_nil : RJ ci X [] [] := .nil
theorem rj_cons {e : Expr} {f : QF} {es : List Expr} {fs : List QF} (h : RP ci X e f) (r : RJ ci X es fs) : RJ ci X (e :: es) (f :: fs) := .cons h r
theorem pj_wp : ∀ es : List Expr, PJ X es (es.map (wpX X))
  | [] => .nil
  | e :: es => .cons pe_wp (pj_wp es)
theorem glue_run {F : Fr X.K ci} {T : List (A × V)} {Γ : Ga} {S : So} {σ : L2.St} {out : Str} : ∀ {es : List Expr} {fs : List QF} {acc : Str} {H : Hp}, RJ ci X es fs → Rel F T Γ S σ H → glue Γ S acc fs = some out → tJs (es.map (wpX X)) acc σ H (fun o H' => o = out ∧ Rel F T Γ S σ H')
  | _, _, acc, H, .nil, r, q => by cases q; exact ⟨rfl, r⟩
  | _, _, acc, H, .cons (l₁ := es) (l₂ := fs) h hs, r, q => by
    rename_i e f
    unfold glue at q
    cases e1 : f Γ S with
    | none => rw [e1] at q; cases q
    | some a =>
      rw [e1, Option.bind_some] at q
      split at q
      · rename_i s
        split at q
        · rename_i hl
          refine wpX_mono (h F T Γ S σ H _ r e1) fun v H1 h1 => ⟨s, h1.asStr List.mem_cons_self, hl, glue_run hs h1.tail q⟩
        · cases q
      · cases q
theorem rp_joined {v1 v2 : Expr} {rest : List Expr} {fs : List QF} {pos : Pos} (h : RJ ci X (v1 :: v2 :: rest) fs) : RP ci X (.JoinedStr (v1 :: v2 :: rest) pos) (fJoin fs) := fun F T Γ S σ H z r q => by
  unfold fJoin at q
  cases e1 : glue Γ S Str.empty fs with
  | none => rw [e1] at q; cases q
  | some out =>
    rw [e1] at q; cases q
    refine wpX_of (pe_joined (pj_wp _)) ?_
    have := glue_run h r e1
    exact tJs_mono this fun o H' ⟨h1, h2⟩ => by subst h1; exact h2.str _
where tJs_mono : ∀ {es : List Expr} {acc : Str} {σ : L2.St} {H : Hp} {Q Q' : Str → Hp → Prop}, tJs (es.map (wpX X)) acc σ H Q → (∀ o H', Q o H' → Q' o H') → tJs (es.map (wpX X)) acc σ H Q'
  | [], _, _, _, _, _, h, k => k _ _ h
  | _ :: _, _, _, _, _, _, h, k => wpX_mono h fun v H1 ⟨y, a, b, c⟩ => ⟨y, a, b, tJs_mono c k⟩
theorem rp_joined1 {e : Expr} {f : QF} {pos : Pos} (h : RP ci X e f) : RP ci X (.JoinedStr [e] pos) f := fun F T Γ S σ H z r q => wpX_of (pe_joined1 pe_wp) (h F T Γ S σ H z r q)
/-! walks over texts, pairs -/
def iS (f : QF) : QI := fun Γ S => (f Γ S).bind fun a => match a with
  | .d (.str s) => if s.length ≤ sizeLine then some fun _ => some (s.cps.toList.map fun c => .str ⟨#[c]⟩) else none
  | _ => none
theorem ri_str {tg e : Expr} {f : QF} (h : RP ci X e f) : RI ci X tg e (iS f) := fun F T Γ S σ H it ds r q1 q2 => by
  unfold iS at q1
  cases e1 : f Γ S with
  | none => rw [e1] at q1; cases q1
  | some a =>
    rw [e1, Option.bind_some] at q1
    split at q1
    · rename_i s
      split at q1
      · rename_i hs
        cases q1; cases q2
        refine wpI_of (pi_str pe_wp) (wpX_mono (h F T Γ S σ H _ r e1) fun v H1 h1 => ?_)
        have hv := h1.asStr List.mem_cons_self
        subst hv
        have hl : (s.cps.toList.map fun c => D.str ⟨#[c]⟩).length = s.cps.size := by simp
        refine ⟨s, rfl, [], ⟨by rw [hl]; exact hs, fun _ => True, _, by rw [hl]; exact walk_str, fun F T Γ S σ H r _ _ => ⟨trivial, ?_⟩⟩, h1.tail⟩
        rintro i x H' hi ⟨rfl, c, hc, rfl⟩
        rw [hl] at hi
        refine ⟨.str ⟨#[c]⟩, ?_, r.str _⟩
        rw [List.getElem?_map]
        have : s.cps.toList[i]? = some c := by rw [Array.getElem?_toList]; exact hc
        rw [this]; rfl
      · cases q1
    · cases q1
def pairD (a b : D) : D := .tup [a, b]
def iZ (f g : QF) : QI := fun Γ S => (f Γ S).bind fun a => (g Γ S).map fun b S' => (viewL S' a).bind fun l => (viewL S' b).map fun m => List.zipWith pairD l m
def iE (f : QF) : QI := fun Γ S => (f Γ S).map fun a S' => (viewL S' a).map fun l => List.zipWith pairD ((List.range l.length).map fun (i : Nat) => D.int (i : Int)) l
theorem newPair {K : PySem.W.Frag} {F : Fr K ci} {ρ : List Addr} {T : List (A × V)} {Γ : Ga} {S : So} {σ : L2.St} {H : Hp} {p : Addr} {x y : V} {a b : D} (r : RelR F ρ T Γ S σ H) (hp : H p = none) (h1 : Rep K ci (mu F ρ S) H a x) (h2 : Rep K ci (mu F ρ S) H b y) : Rel F ((.d (pairD a b), .ref p) :: T) Γ S σ (upd H p (.tup [x, y])) := ⟨ρ, r.newT hp (.cons h1 (.cons h2 .nil))⟩
theorem ri_zip {e e2 : Expr} {elts : List Expr} {kk : Nat} {tpos p pos : Pos} {f g : QF} (hg : Gl X "zip") (hm : X.mg "zip" = none) (h1 : RP ci X e f) (h2 : RP ci X e2 g) (hs : starEach [e, e2] X.env = (false, eval e X.env) :: starEach [e2] X.env := by kernel_rfl) (hs2 : starEach [e2] X.env = [(false, eval e2 X.env)] := by kernel_rfl) (hpl : (backTo pos (starEach [e2] X.env)).any (·.1) = false := by kernel_rfl) : RI ci X (.Tuple elts kk tpos) (.Call (.Name "zip" p) [e, e2] [] pos) (iZ f g) := fun F T Γ S σ H it ds r q1 q2 => by
  unfold iZ at q1
  cases e1 : f Γ S with
  | none => rw [e1] at q1; cases q1
  | some a =>
    cases e3 : g Γ S with
    | none => rw [e1, e3] at q1; cases q1
    | some b =>
      rw [e1, e3] at q1; cases q1
      dsimp only at q2
      cases e4 : viewL S a with
      | none => rw [e4] at q2; cases q2
      | some l =>
        cases e5 : viewL S b with
        | none => rw [e4, e5] at q2; cases q2
        | some m =>
          rw [e4, e5] at q2
          obtain rfl : List.zipWith pairD l m = ds := Option.some.inj q2
          refine wpI_of (pi_zip hg hm (pa_cons pe_wp (pa_cons pe_wp pa_nil hs2) hs) hs hpl) (wpX_mono (h1 F T Γ S σ H _ r e1) fun v H1 r1 => wpX_monoI (h2 F _ Γ S σ H1 _ r1 e3) fun u H2 hz r2 => ?_)
          obtain ⟨ρ, q⟩ := id r2
          obtain ⟨p, vs, rfl, hq, R⟩ := q.viewL (q.top (a := a) (v := v) (by simp)) e4
          obtain ⟨p', vs', rfl, hq', R'⟩ := q.viewL (q.top (a := b) (v := u) (by simp)) e5
          have hn : (List.zipWith pairD l m).length = min vs.length vs'.length := by rw [List.length_zipWith, R.length, R'.length]
          refine ⟨p, p', vs, vs', rfl, hq, hq', [(b, .ref p'), (a, .ref p)], ⟨?_, fun H => ∃ xs ys, SqL X.K H p xs ∧ SqL X.K H p' ys ∧ min xs.length ys.length = (List.zipWith pairD l m).length, (Itz X.K p p').yld, ⟨?_, ?_, fun _ _ _ _ _ _ y => y⟩, ?_⟩, r2⟩
          · have := hz p vs (.inl hq)
            rw [hn]; omega
          · rintro i H hi ⟨xs, ys, h1, h2, h3⟩
            have a1 : i < xs.length := by omega
            have a2 : i < ys.length := by omega
            exact ⟨xs, ys, xs[i], ys[i], h1, h2, by simp [a1], by simp [a2]⟩
          · rintro H ⟨xs, ys, h1, h2, h3⟩
            exact ⟨xs, ys, h1, h2, by omega⟩
          · intro F T Γ S σ H r hU hS
            dsimp only at hS
            obtain ⟨ρ, r⟩ := r
            cases e6 : viewL S a with
            | none => rw [e6] at hS; cases hS
            | some l' =>
              cases e7 : viewL S b with
              | none => rw [e6, e7] at hS; cases hS
              | some m' =>
                rw [e6, e7] at hS
                have hS' : List.zipWith pairD l' m' = List.zipWith pairD l m := Option.some.inj hS
                obtain ⟨_, xs, ex, hx, Rx⟩ := r.viewL (r.top (a := a) (v := .ref p) (hU _ (by simp))) e6
                cases ex
                obtain ⟨_, ys, ey, hy, Ry⟩ := r.viewL (r.top (a := b) (v := .ref p') (hU _ (by simp))) e7
                cases ey
                refine ⟨⟨xs, ys, hx, hy, by rw [← hS', List.length_zipWith, Rx.length, Ry.length]⟩, ?_⟩
                rintro i w H' hi ⟨t, x, y, rfl, ht, rfl, g1, g2⟩
                obtain ⟨d1, k1, k2⟩ := Rx.get (g1 xs hx)
                obtain ⟨d2, k3, k4⟩ := Ry.get (g2 ys hy)
                refine ⟨pairD d1 d2, ?_, newPair r ht k2 k4⟩
                rw [← hS', List.getElem?_zipWith, k1, k3]
theorem ri_enum {e : Expr} {elts : List Expr} {kk : Nat} {tpos p pos : Pos} {f : QF} (hg : Gl X "enumerate") (hm : X.mg "enumerate" = none) (h1 : RP ci X e f) (hs : starEach [e] X.env = [(false, eval e X.env)] := by kernel_rfl) : RI ci X (.Tuple elts kk tpos) (.Call (.Name "enumerate" p) [e] [] pos) (iE f) := fun F T Γ S σ H it ds r q1 q2 => by
  unfold iE at q1
  cases e1 : f Γ S with
  | none => rw [e1] at q1; cases q1
  | some a =>
    rw [e1] at q1; cases q1
    dsimp only at q2
    cases e4 : viewL S a with
    | none => rw [e4] at q2; cases q2
    | some l =>
      rw [e4] at q2
      obtain rfl : List.zipWith pairD ((List.range l.length).map fun (i : Nat) => D.int (i : Int)) l = ds := Option.some.inj q2
      refine wpI_of (pi_enum hg hm (pa_cons pe_wp pa_nil hs) hs) (wpX_monoI (h1 F T Γ S σ H _ r e1) fun v H1 hz r1 => ?_)
      obtain ⟨ρ, q⟩ := id r1
      obtain ⟨p, vs, rfl, hq, R⟩ := q.viewL (q.top (a := a) (v := v) (by simp)) e4
      have hn : ∀ l : List D, (List.zipWith pairD ((List.range l.length).map fun (i : Nat) => D.int (i : Int)) l).length = l.length := fun l => by simp
      refine ⟨p, vs, rfl, hq, [(a, .ref p)], ⟨?_, fun H => ∃ xs, SqL X.K H p xs ∧ xs.length = l.length, (Ite X.K p).yld, ⟨?_, ?_, fun _ _ _ _ _ _ y => y⟩, ?_⟩, r1⟩
      · have := hz p vs (.inl hq)
        rw [hn, R.length]; exact this
      · rintro i H hi ⟨xs, h1, h3⟩
        rw [hn] at hi
        have a1 : i < xs.length := by omega
        exact ⟨xs, xs[i], h1, by simp [a1]⟩
      · rintro H ⟨xs, h1, h3⟩
        exact ⟨xs, h1, by rw [hn]; omega⟩
      · intro F T Γ S σ H r hU hS
        dsimp only at hS
        obtain ⟨ρ, r⟩ := r
        cases e6 : viewL S a with
        | none => rw [e6] at hS; cases hS
        | some l' =>
          rw [e6] at hS
          have hS' : List.zipWith pairD ((List.range l'.length).map fun (i : Nat) => D.int (i : Int)) l' = List.zipWith pairD ((List.range l.length).map fun (i : Nat) => D.int (i : Int)) l := Option.some.inj hS
          obtain ⟨_, xs, ex, hx, Rx⟩ := r.viewL (r.top (a := a) (v := .ref p) (hU _ (by simp))) e6
          cases ex
          have hll : l'.length = l.length := by rw [← hn l', hS', hn l]
          refine ⟨⟨xs, hx, by rw [← Rx.length, hll]⟩, ?_⟩
          rintro i w H' hi ⟨t, x, rfl, ht, rfl, g1⟩
          rw [hn] at hi
          obtain ⟨d1, k1, k2⟩ := Rx.get (g1 xs hx)
          refine ⟨pairD (.int (i : Nat)) d1, ?_, newPair r ht (by rw [Rep]) k2⟩
          rw [← hS', List.getElem?_zipWith, k1, List.getElem?_map, List.getElem?_range (by omega)]
          rfl
end
end LP

namespace LP
open PySem PySem.Spec PyProof.Rows L2
/-! lists that may change: their methods, items stored -/
section
variable {ci : Ci} {X : Cx}
def MutL (ci : Ci) (X : Cx) (id : String) (g : So → List A → List A → Option (List A × A)) : Prop := ∃ r, MtR X id r ∧ ∀ (F : Fr X.K ci) ρ T Γ S σ H k l as vs l' res p, RelR F ρ T Γ S σ H → ρ[k]? = some p → S[k]? = some (.lst l) → as.length = vs.length → (∀ q ∈ as.zip vs, q ∈ T) → g S l as = some (l', res) →
  ∀ Q : VK, (∀ v H', Rel F ((res, v) :: T) Γ (S.set k (.lst l')) σ H' → Q v H') → r (.ref p) vs H Q
theorem RelR.lstW {K : PySem.W.Frag} {F : Fr K ci} {ρ : List Addr} {T : List (A × V)} {Γ : Ga} {S : So} {σ : L2.St} {H : Hp} {k : Nat} {p : Addr} {l l' : List A} {vs' : List V} (r : RelR F ρ T Γ S σ H) (hp : ρ[k]? = some p) (hs : S[k]? = some (.lst l)) (R : AReps K ci ρ (mu F ρ S) H l' vs') : RelR F ρ T Γ (S.set k (.lst l')) σ (upd H p (.lst vs')) := by
  have hpm : p ∈ mu F ρ S := List.mem_append_left _ (mutA_mem hp hs rfl)
  have hh : ∀ a o, H a = some o → a ∉ mu F ρ S → (upd H p (.lst vs')) a = some o ∧ a ∉ mu F ρ S := fun a o e n => ⟨by rw [upd_ne (fun w => n (by rw [w]; exact hpm))]; exact e, n⟩
  exact r.write hp hs rfl rfl ⟨vs', upd_same, R.mono hh (List.prefix_refl _)⟩
theorem RelR.lstAt {K : PySem.W.Frag} {F : Fr K ci} {ρ : List Addr} {T : List (A × V)} {Γ : Ga} {S : So} {σ : L2.St} {H : Hp} {k : Nat} {p : Addr} {l : List A} (r : RelR F ρ T Γ S σ H) (hp : ρ[k]? = some p) (hs : S[k]? = some (.lst l)) : ∃ vs, H p = some (.lst vs) ∧ AReps K ci ρ (mu F ρ S) H l vs := r.st k p _ hp hs
/-- a temporary is put on a changed store -/
theorem RelR.pushN {K : PySem.W.Frag} {F : Fr K ci} {ρ : List Addr} {T : List (A × V)} {Γ : Ga} {S : So} {σ : L2.St} {H : Hp} (r : RelR F ρ T Γ S σ H) : RelR F ρ ((.d .non, .non) :: T) Γ S σ H := r.push (by rw [ARep, Rep])
def gApp (_ : So) (l as : List A) : Option (List A × A) := match as with
  | [a] => if l.length < sizeLine then some (l ++ [a], .d .non) else none
  | _ => none
theorem l_append : MutL ci X "list.append" gApp := ⟨_, (mt_append : MtM X "list.append" rAppend), fun F ρ T Γ S σ H k l as vs l' res p r hp hs hl hT e Q kk => by
  unfold gApp at e
  split at e
  · rename_i a
    split at e
    · rename_i hz
      cases e
      obtain ⟨v, rfl, hv⟩ := as1 (F := F) hl hT
      obtain ⟨ws, e1, R⟩ := r.lstAt hp hs
      refine ⟨p, ws, v, rfl, rfl, e1, by rw [← R.length]; exact hz, kk _ _ ⟨ρ, ((r.lstW hp hs (R.append (es := [a]) (ws := [v]) ⟨v, [], rfl, r.tl _ hv, rfl⟩))).pushN⟩⟩
    · cases e
  · cases e⟩
def gExt (S : So) (l as : List A) : Option (List A × A) := match as with
  | [.d (.lst m)] => if l.length + m.length ≤ sizeLine then some (l ++ m.map A.d, .d .non) else none
  | _ => none
theorem l_extend : MutL ci X "list.extend" gExt := ⟨_, (mt_extend : MtM X "list.extend" rExtend), fun F ρ T Γ S σ H k l as vs l' res p r hp hs hl hT e Q kk => by
  unfold gExt at e
  split at e
  · rename_i m
    split at e
    · rename_i hz
      cases e
      obtain ⟨v, rfl, hv⟩ := as1 (F := F) hl hT
      obtain ⟨ws, e1, R⟩ := r.lstAt hp hs
      have h2 := r.tl _ hv
      rw [ARep, Rep] at h2
      obtain ⟨p2, vs2, rfl, h3, R2⟩ := h2
      refine ⟨p, p2, ws, vs2, rfl, rfl, e1, h3.1, by rw [← R.length, ← R2.length]; exact hz, kk _ _ ⟨ρ, ((r.lstW hp hs (R.append (.ofData R2)))).pushN⟩⟩
    · cases e
  · cases e⟩
def gPop (_ : So) (l as : List A) : Option (List A × A) := match as with
  | [] => (l[l.length - 1]?).map fun a => (l.dropLast, a)
  | _ => none
theorem AReps.takeN {K : PySem.W.Frag} {ρ M : List Addr} {H : Hp} : ∀ (n : Nat) {ds : List A} {vs : List V}, AReps K ci ρ M H ds vs → AReps K ci ρ M H (ds.take n) (vs.take n)
  | 0, ds, vs, r => rfl
  | n + 1, [], vs, r => by rw [AReps] at r; subst r; rfl
  | n + 1, d :: ds, vs, ⟨v, rr, e, r1, r2⟩ => by subst e; exact ⟨v, _, rfl, r1, AReps.takeN n r2⟩
theorem AReps.dropN {K : PySem.W.Frag} {ρ M : List Addr} {H : Hp} : ∀ (n : Nat) {ds : List A} {vs : List V}, AReps K ci ρ M H ds vs → AReps K ci ρ M H (ds.drop n) (vs.drop n)
  | 0, ds, vs, r => r
  | n + 1, [], vs, r => by rw [AReps] at r; subst r; rfl
  | n + 1, d :: ds, vs, ⟨v, rr, e, r1, r2⟩ => by subst e; exact AReps.dropN n r2
theorem l_pop : MutL ci X "list.pop" gPop := ⟨_, (mt_pop : MtM X "list.pop" rPop), fun F ρ T Γ S σ H k l as vs l' res p r hp hs hl hT e Q kk => by
  unfold gPop at e
  split at e
  · cases e1 : l[l.length - 1]? with
    | none => rw [e1] at e; cases e
    | some a =>
      rw [e1] at e; cases e
      cases vs with
      | cons _ _ => cases hl
      | nil =>
        obtain ⟨ws, e2, R⟩ := r.lstAt hp hs
        obtain ⟨y, hy, hr⟩ := R.getA e1
        rw [R.length] at hy
        refine ⟨p, ws, y, rfl, rfl, e2, hy, kk _ _ ⟨ρ, ?_⟩⟩
        have := ((r.push hr).lstW hp hs (l' := l.dropLast) (vs' := ws.dropLast) (by rw [List.dropLast_eq_take, List.dropLast_eq_take, R.length]; exact R.takeN _))
        exact this
  · cases e⟩
def gClear (_ : So) (l as : List A) : Option (List A × A) := match as with
  | [] => some ([], .d .non)
  | _ => none
theorem l_clear : MutL ci X "list.clear" gClear := ⟨_, (mt_clear : MtM X "list.clear" rClear), fun F ρ T Γ S σ H k l as vs l' res p r hp hs hl hT e Q kk => by
  unfold gClear at e
  split at e
  · cases e
    cases vs with
    | cons _ _ => cases hl
    | nil =>
      obtain ⟨ws, e2, R⟩ := r.lstAt hp hs
      exact ⟨p, ws, rfl, rfl, e2, kk _ _ ⟨ρ, (r.lstW hp hs (l' := []) (vs' := []) rfl).pushN⟩⟩
  · cases e⟩
def wLM (g : So → List A → List A → Option (List A × A)) (wo : WE) (ws : WAs) : WE := fun Γ S ex Q => wo Γ S ex fun a S1 => ∃ k l0, a = .loc k ∧ S1[k]? = some (.lst l0) ∧ ws Γ S1 ex fun as S2 => ∃ l l' res, S2[k]? = some (.lst l) ∧ g S2 l as = some (l', res) ∧ Q res (S2.set k (.lst l'))
theorem re_lm {id : String} {name : Str} {o e : Expr} {es : List Expr} {apos cpos : Pos} {g : So → List A → List A → Option (List A × A)} {wo : WE} {ws : WAs} (slot : Slot "list" name id) (hty : typeOf (.builtin id) = pure (.type "method_descriptor")) (hg : MutL ci X id g) (ho : RE ci X o wo) (ha : RA ci X (e :: es) ws)
    (hbase : attributeBase o name X.env (eval o X.env) = eval o X.env := by kernel_rfl)
    (hfew : ((backTo cpos (starEach (e :: es) X.env)).all (fun x => !x.1) && (backToKw cpos (keywordEach [] X.env)).all (fun x => x.1.isSome)
      && decide ((e :: es).length + ([] : List Keyword).length + (if ([] : List Keyword).isEmpty then 0 else 1) < 30)) = true := by rfl)
    (hline : (apos.endLine == cpos.line) = true := by kernel_rfl) (hs : starEach (e :: es) X.env = (false, eval e X.env) :: starEach es X.env := by kernel_rfl) (hplain : (backTo cpos (starEach es X.env)).any (·.1) = false := by kernel_rfl) :
    RE ci X (.Call (.Attribute o name apos) (e :: es) [] cpos) (wLM g wo ws) := fun F ex xo T Γ S σ H Q r q => by
  obtain ⟨rr, hr, hk⟩ := hg
  refine wpX_of (pe_bm PySem.F.plainAttrs_list slot hty hr pe_wp pa_wp hbase hfew hline hs hplain) (wpX_mono (ho F ex xo T Γ S σ H _ r q) fun v H1 ⟨a, S1, r1, k, l0, e1, e2, q1⟩ => ?_)
  subst e1
  have r1' := r1
  obtain ⟨ρ1, s1⟩ := r1'
  obtain ⟨p, hp, rfl⟩ := s1.top (a := .loc k) (v := v) List.mem_cons_self
  obtain ⟨vs0, h0, _⟩ := s1.lstAt hp e2
  refine ⟨.inl ⟨rfl, vs0, SqL.of h0⟩, wpA_mono (ha F ex xo _ Γ S1 σ H1 _ r1 q1) fun us H2 ⟨as, S2, hz, _, r2, l, l', res, e3, e4, q2⟩ => ?_⟩
  have r2' := r2
  obtain ⟨ρ2, s2⟩ := r2'
  obtain ⟨p2, hp2, e5⟩ := s2.top (a := .loc k) (v := .ref p) (by simp)
  cases e5
  exact hk F ρ2 _ Γ S2 σ H2 k l as us l' res p s2 hp2 e3 hz (fun q hq => List.mem_append_left _ hq) e4 _ fun w H3 h3 => ⟨res, _, h3.drop fun x hx => by
    rcases List.mem_cons.mp hx with rfl | hx
    · exact List.mem_cons_self
    · simp [hx], q2⟩
theorem re_lm0 {id : String} {name : Str} {o : Expr} {apos cpos : Pos} {g : So → List A → List A → Option (List A × A)} {wo : WE} (slot : Slot "list" name id) (hty : typeOf (.builtin id) = pure (.type "method_descriptor")) (hg : MutL ci X id g) (ho : RE ci X o wo)
    (hbase : attributeBase o name X.env (eval o X.env) = eval o X.env := by kernel_rfl) (hline : (apos.endLine == cpos.line) = true := by kernel_rfl) :
    RE ci X (.Call (.Attribute o name apos) [] [] cpos) (wLM g wo wNil) := fun F ex xo T Γ S σ H Q r q => by
  obtain ⟨rr, hr, hk⟩ := hg
  refine wpX_of (pe_bm0 PySem.F.plainAttrs_list slot hty hr pe_wp hbase hline) (wpX_mono (ho F ex xo T Γ S σ H _ r q) fun v H1 ⟨a, S1, r1, k, l0, e1, e2, l, l', res, e3, e4, q2⟩ => ?_)
  subst e1
  have r1' := r1
  obtain ⟨ρ1, s1⟩ := r1'
  obtain ⟨p, hp, rfl⟩ := s1.top (a := .loc k) (v := v) List.mem_cons_self
  obtain ⟨vs0, h0, _⟩ := s1.lstAt hp e2
  exact ⟨.inl ⟨rfl, vs0, SqL.of h0⟩, hk F ρ1 _ Γ S1 σ H1 k l [] [] l' res p s1 hp e3 rfl (fun q hq => by cases hq) e4 _ fun w H3 h3 => ⟨res, _, h3.drop drop2, q2⟩⟩
/-- xs[i] = e -/
def wSetIx (wo wi we : WE) : WS := fun Γ S D => we Γ S D.ex fun b S1 => wo Γ S1 D.ex fun a S2 => wi Γ S2 D.ex fun j S3 => ∃ k l n m, a = .loc k ∧ j = .d (.int n) ∧ S3[k]? = some (.lst l) ∧ ixN l.length n = some m ∧ D.nx Γ (S3.set k (.lst (l.set m b)))
theorem rs_setIx {o i e : Expr} {wo wi we : WE} {pos pos' : Pos} (ho : RE ci X o wo) (hi : RE ci X i wi) (he : RE ci X e we) (hs : swapsWithSole [.Subscript o i pos'] e pos.line X.env = pure false := by kernel_rfl) (hw : swappedStores [.Subscript o i pos'] e X.env = pure none := by kernel_rfl)
    (h1 : (assignEach [.Subscript o i pos'] X.env).map (·.2) = [assign (.Subscript o i pos') X.env] := by kernel_rfl)
    (ha : ∀ v, assign (.Subscript o i pos') X.env v = (do
      let ov ← holding [v] (eval o X.env)
      let iv ← holding [v, ov] (eval i X.env)
      standAt pos'
      holding [v, ov, iv] (setItem ov iv v)
      release [v, ov, iv] []) := by intro _; rfl) : RS ci X (.Assign [.Subscript o i pos'] e pos) (wSetIx wo wi we) := fun F D xo T Γ S σ H r q =>
  wpS_of (ps_asg pe_wp (pg_sub pe_wp pe_wp set_list ha) hs hw h1) (wpX_mono (he F D.ex xo T Γ S σ H _ r q) fun y H1 ⟨b, S1, r1, q1⟩ => wpX_mono (ho F D.ex xo _ Γ S1 σ H1 _ r1 q1) fun x H2 ⟨a, S2, r2, q2⟩ => wpX_mono (hi F D.ex xo _ Γ S2 σ H2 _ r2 q2) fun z H3 ⟨j, S3, r3, k, l, n, m, e1, e2, e3, e4, q3⟩ => by
    subst e1 e2
    have hz := r3.asInt (v := z) List.mem_cons_self
    obtain ⟨ρ, r3⟩ := r3
    obtain ⟨p, hp, rfl⟩ := r3.top (a := .loc k) (v := x) (by simp)
    obtain ⟨ws, h5, R⟩ := r3.lstAt hp e3
    have hb := r3.tl (b, y) (by simp)
    refine ⟨p, ws, n, m, rfl, hz, h5, by rw [← R.length]; exact e4, Γ, _, ⟨ρ, ?_⟩, q3⟩
    exact (r3.lstW hp e3 (R.set hb m)).drop fun q hq => by simp [hq])
/-! isinstance, of built-in types -/
inductive TN where
  | int | bool | str | list | tuple | none | dict
  deriving DecidableEq
def TN.nm : TN → String
  | .int => "int" | .bool => "bool" | .str => "str" | .list => "list" | .tuple => "tuple" | .none => "NoneType" | .dict => "dict"
def TN.sub : TN → TN → Bool
  | .bool, .int => true
  | a, b => decide (a = b)
theorem tn_kit (a b : TN) (h : b ≠ .none) : kitB a.nm b.nm = some (a.sub b) := by
  cases a <;> cases b <;> first | (exact absurd rfl h) | decide +kernel
def tyA (S : So) : A → Option TN
  | .d .non => some .none | .d (.bl _) => some .bool | .d (.int _) => some .int | .d (.str _) => some .str
  | .d (.tup _) => some .tuple | .d (.lst _) => some .list | .d (.dic _ _) => some .dict
  | .loc k => match S[k]? with
    | some (.lst _) => some .list
    | some (.dK _ _) => some .dict
    | some (.frz (.lst _)) => some .list
    | _ => none
  | _ => none
theorem rd_ty {K : PySem.W.Frag} {H : Hp} {p : Addr} {vs : List V} {M : List Addr} (h : (Rd H p (.tup vs) ∧ p ∉ M) ∨ Tw K p vs) : TyX K H (.ref p) (.type "tuple") := by
  rcases h with ⟨h | ⟨o, h⟩, _⟩ | ⟨o, its, n, h1, h2, _⟩
  · exact .base (.tup h)
  · exact .fTuple h
  · exact .kTuple h1 h2
theorem tyA_ok {K : PySem.W.Frag} {F : Fr K ci} {ρ : List Addr} {T : List (A × V)} {Γ : Ga} {S : So} {σ : L2.St} {H : Hp} {a : A} {v : V} {t : TN} (r : RelR F ρ T Γ S σ H) (h : ARep K ci ρ (mu F ρ S) H a v) (e : tyA S a = some t) : TyX K H v (.type t.nm) := by
  unfold tyA at e
  split at e
  · cases e; rw [ARep, Rep] at h; subst h; exact .base .non
  · cases e; rw [ARep, Rep] at h; subst h; exact .base (.bl _)
  · cases e; rw [ARep, Rep] at h; subst h; exact .base (.int _)
  · cases e; rw [ARep, Rep] at h; subst h; exact .base (.str _)
  · cases e; rw [ARep, Rep] at h; obtain ⟨p, vs, rfl, q, _⟩ := h; exact rd_ty q
  · cases e; rw [ARep, Rep] at h; obtain ⟨p, vs, rfl, q, _⟩ := h; exact .base (.lst q.1)
  · cases e; rw [ARep, Rep] at h; obtain ⟨p, vs, rfl, q, _⟩ := h
    rcases q with q | ⟨o, q⟩
    · exact .base (.dK q)
    · exact .fDict q
  · rename_i k
    obtain ⟨p, hp, rfl⟩ := h
    split at e
    · rename_i hs; cases e; obtain ⟨vs, q, _⟩ := r.st k p _ hp hs; exact .base (.lst q)
    · rename_i hs; cases e; obtain ⟨vs, q, _⟩ := r.st k p _ hp hs; exact .base (.dK q)
    · rename_i hs; cases e
      have := r.st k p _ hp hs
      rw [MRep, Rep] at this
      obtain ⟨p', vs, e1, q, _⟩ := this
      cases e1
      exact .base (.lst q.1)
    · cases e
  · cases e
def fIsi (ts : List TN) (f : QF) : QF := fun Γ S => (f Γ S).bind fun a => (tyA S a).map fun t => .d (.bl (ts.any t.sub))
/-- isinstance(x, int) -/
theorem rp_isi (t : TN) {n : Str} {e : Expr} {f : QF} {p p2 pos : Pos} (hg : Gl X "isinstance") (hm : X.mg "isinstance" = none) (hg2 : Gl X n) (hm2 : X.mg n = none) (hv2 : bootBuiltins n = some (.type t.nm)) (he : RP ci X e f) (ht : t ≠ .none := by decide) (hn2 : n ≠ "__name__" := by decide) (hdb2 : (n == ("__debug__" : Str)) = false := by decide +kernel)
    (hs : starEach [e, .Name n p2] X.env = (false, eval e X.env) :: starEach [.Name n p2] X.env := by kernel_rfl) : RP ci X (.Call (.Name "isinstance" p) [e, .Name n p2] [] pos) (fIsi [t] f) := fun F T Γ S σ H z r q => by
  unfold fIsi at q
  cases e1 : f Γ S with
  | none => rw [e1] at q; cases q
  | some a =>
    rw [e1, Option.bind_some] at q
    cases e2 : tyA S a with
    | none => rw [e2] at q; cases q
    | some u =>
      rw [e2] at q; cases q
      refine wpX_of (pe_callB call_isi hg hm (by decide +kernel) (pa_cons pe_wp (pa_cons (pe_bltn (v := .ty t.nm) hg2 hm2 hv2 rfl hn2 hdb2) pa_nil) hs) (by decide) (by decide) hs) (wpX_mono (he F T Γ S σ H _ r e1) fun v H1 r1 => ?_)
      obtain ⟨ρ, q1⟩ := id r1
      exact ⟨v, _, _, _, _, rfl, .ty _, tyA_ok q1 (q1.top (a := a) List.mem_cons_self) e2, kit_ty (tn_kit u t ht), by simpa using r1.tail.bl _⟩
/-- isinstance(x, (list, tuple)) -/
theorem rp_isi2 (t t' : TN) {n n' : Str} {e : Expr} {f : QF} {p p2 p3 p4 pos : Pos} {kt : Nat} (hg : Gl X "isinstance") (hm : X.mg "isinstance" = none) (hg2 : Gl X n) (hm2 : X.mg n = none) (hv2 : bootBuiltins n = some (.type t.nm)) (hg3 : Gl X n') (hm3 : X.mg n' = none) (hv3 : bootBuiltins n' = some (.type t'.nm)) (he : RP ci X e f) (ht : t ≠ .none := by decide) (hn2 : n ≠ "__name__" := by decide) (hdb2 : (n == ("__debug__" : Str)) = false := by decide +kernel)
    (ht' : t' ≠ .none := by decide) (hn3 : n' ≠ "__name__" := by decide) (hdb3 : (n' == ("__debug__" : Str)) = false := by decide +kernel)
    (hs : starEach [e, .Tuple [.Name n p2, .Name n' p3] kt p4] X.env = (false, eval e X.env) :: starEach [.Tuple [.Name n p2, .Name n' p3] kt p4] X.env := by kernel_rfl) : RP ci X (.Call (.Name "isinstance" p) [e, .Tuple [.Name n p2, .Name n' p3] kt p4] [] pos) (fIsi [t, t'] f) := fun F T Γ S σ H z r q => by
  unfold fIsi at q
  cases e1 : f Γ S with
  | none => rw [e1] at q; cases q
  | some a =>
    rw [e1, Option.bind_some] at q
    cases e2 : tyA S a with
    | none => rw [e2] at q; cases q
    | some u =>
      rw [e2] at q; cases q
      refine wpX_of (pe_callB call_isiT hg hm (by decide +kernel) (pa_cons pe_wp (pa_cons (pe_tup (pa_cons (pe_bltn (v := .ty t.nm) hg2 hm2 hv2 rfl hn2 hdb2) (pa_cons (pe_bltn (v := .ty t'.nm) hg3 hm3 hv3 rfl hn3 hdb3) pa_nil))) pa_nil) hs) (by decide) (by decide) hs) (wpX_mono (he F T Γ S σ H _ r e1) fun v H1 r1 => ⟨by show 2 ≤ sizeLine; decide, fun tp htp => ?_⟩)
      obtain ⟨ρ, q1⟩ := id (r1.alloc (o := .tup [.ty t.nm, .ty t'.nm]) htp)
      refine ⟨v, tp, _, _, _, _, rfl, upd_same, .cons (.ty _) (.cons (.ty _) .nil), tyA_ok q1 (q1.top (a := a) List.mem_cons_self) e2, kitAny_cons (kit_ty (tn_kit u t ht)) (fun hf => kitAny_cons (kit_ty (tn_kit u t' ht')) (fun hf2 => ?_) (fun hb => ?_)) (fun hb => ?_), (r1.alloc htp).tail.bl _⟩
      · show some false = _; simp [hf, hf2]
      · simp [hb]
      · simp [hb]
/-- int(text) -/
def gIntS (_ : So) : List A → Option D
  | [.d (.str s)] => if s.length ≤ 640 then (PySem.intText? s).map .int else none
  | _ => none
theorem c_intS : CallG ci X (.type "int") gIntS := ⟨_, call_int_str, fun F T Γ S σ H as vs d r hl hT e Q k => by
  unfold gIntS at e
  split at e
  · rename_i s
    split at e
    · rename_i h
      obtain ⟨v, rfl, hv⟩ := as1 (F := F) hl hT
      cases e1 : PySem.intText? s with
      | none => rw [e1] at e; cases e
      | some n =>
        rw [e1] at e; cases e
        exact ⟨s, n, by rw [r.asStr hv], e1, h, k _ _ (r.int _)⟩
    · cases e
  · cases e⟩
end
end LP

namespace LP
open PySem PySem.Spec PyProof.Rows L2
section
variable {ci : Ci} {X : Cx}
/-! comprehensions whose elements have effects -/
def noEx : EK := fun _ _ => False
theorem xok_no {Y : Cx} {F : Fr Y.K ci} : Xok Y F noEx := fun u s' ⟨a, B, sI, pins, σ, H, cls, d, e, I, nb, up, sky, na, os, ag, er, S, ρ, _, _, z⟩ => z.elim
def RCE (ci : Ci) (X : Cx) (ifs : List Expr) (b : WT) : Prop := (ifs = [] ∧ b = fun _ S _ Q => Q true S) ∨ ∃ e, ifs = [e] ∧ RT ci X e b
theorem rce_nil : RCE ci X [] (fun _ S _ Q => Q true S) := .inl ⟨rfl, rfl⟩
theorem rce_one {e : Expr} {b : WT} (h : RT ci X e b) : RCE ci X [e] b := .inr ⟨e, rfl, h⟩
def wLcL (it : So → Option (List D)) (ds : List D) (t : TgF) (vs : List Nat) (b : WT) (w : WE) (Γ : Ga) (Q : AK) : List D → List D → So → Prop
  | acc, [], S => Q (.d (.lst acc)) S
  | acc, d :: r, S => ∃ Γ', t (wipeG Γ vs) d = some Γ' ∧ b Γ' S noEx fun c S1 => if c = true then w Γ' S1 noEx fun a S2 => ∃ x, a = .d x ∧ it S2 = some ds ∧ wLcL it ds t vs b w Γ Q (acc ++ [x]) r S2 else it S1 = some ds ∧ wLcL it ds t vs b w Γ Q acc r S1
def wLc (wi : WI) (t : TgF) (vs : List Nat) (b : WT) (w : WE) : WE := fun Γ S ex Q => wi Γ S ex fun it ds S1 => wLcL it ds t vs b w Γ Q [] ds S1
theorem comp_runE {elt tg iter : Expr} {ifs : List Expr} {scope : Scope} {vs : List Nat} {wi : WI} {t : TgF} {ws : List Nat} {b : WT} {w : WE} (hi : RIE ci X tg iter wi) (hg : BlkX X scope fun Y => RG ci Y tg t ws) (hw : ∀ i ∈ ws, i ∈ vs) (hb : BlkX X scope fun Y => RCE ci Y ifs b) (hf : BlkX X scope fun Y => RE ci Y elt w)
    {F : Fr X.K ci} {ex : EK} (xo : Xok X F ex) {T : List (A × V)} {Γ : Ga} {S : So} {σ : L2.St} {H : Hp} {Q : AK} (r : Rel F T Γ S σ H) (q : wLc wi t vs b w Γ S ex Q) {QV : VK} (k : ∀ p H' a S', Rel F ((a, .ref p) :: T) Γ S' σ H' → Q a S' → QV (.ref p) H') :
    tLc (wpI X tg iter) (gB X scope tg) (tB' X scope ifs) (eB X scope elt) vs σ H QV := by
  refine wpI_mono (hi F ex xo T Γ S σ H _ r q) fun J H1 ⟨U, S1, it, ds, ⟨hsz, G, Y, W, spec⟩, e2, r1, q1⟩ Dl hD => ?_
  obtain ⟨ρ1, r1⟩ := r1
  obtain ⟨V', hV, r1⟩ := r1.keep
  have hgs := r1.gs
  let T1 := V' ++ (U ++ T)
  let Pv : Nat → Hp → Prop := fun i H' => ∃ acc vs' Hb ρ S', acc.length ≤ i ∧ wLcL it ds t vs b w Γ Q acc (ds.drop i) S' ∧ it S' = some ds ∧ Hb Dl = none ∧ H' = upd Hb Dl (.lst vs') ∧ acc.length = vs'.length ∧ RelR F ρ ((acc.map A.d).zip vs' ++ T1) Γ S' σ Hb
  refine lc_it W Pv ⟨[], [], H1, ρ1, S1, Nat.le_refl _, q1, e2, hD, rfl, rfl, r1⟩ ?_ ?_ ?_
  · rintro i H' _ ⟨acc, vs', Hb, ρ, S', _, _, e3, h2, rfl, h3, h4⟩
    exact (spec F _ Γ S' σ _ ⟨ρ, h4.alloc h2⟩ (fun q hq => by simp [T1, hq]) e3).1
  · rintro i x H2 H3 hlt ⟨acc, vs', Hb, ρ, S', hai, hq, e3, h2, rfl, h3, h4⟩ hy
    have rin := h4.hideIn (o := .lst vs') h2
    obtain ⟨d, hd, r3⟩ := (spec _ _ Γ S' σ _ ⟨ρ, rin⟩ (fun q hq => by simp [T1, hq]) e3).2 i x H3 hlt hy
    have hdr : ds.drop i = d :: ds.drop (i + 1) := by
      rw [List.drop_eq_getElem_cons hlt]
      congr 1
      exact (List.getElem?_eq_some_iff.mp hd).2
    rw [hdr] at hq
    obtain ⟨Γ', e4, hq⟩ := hq
    have hlen : vs'.length < sizeLine := by omega
    obtain ⟨ρ3, r3⟩ := r3
    intro s0 H0 C cl fp
    refine gWp_mono (hg s0 H0 C cl fp _ _ (wipeG Γ vs) S' (L2.wipe σ vs) H3 d x Γ' ⟨ρ3, r3.wipe vs⟩ List.mem_cons_self e4) fun σ2 H4 ⟨w1, r4⟩ => ?_
    refine ⟨by rw [w1 vs hw, wipe_idem vs vs fun _ h => h], ?_⟩
    have back : ∀ {ρ5 : List Addr} {S5 : So} {T5 : List (A × V)} {H5 : Hp}, RelR (F.hide (upd Hb Dl (.lst vs')) ρ S' Dl) ρ5 (T5 ++ ((acc.map A.d).zip vs' ++ T1)) Γ' S5 σ2 H5 → H5 Dl = some (.lst vs') ∧ RelR F ρ5 (T5 ++ ((acc.map A.d).zip vs' ++ T1)) Γ S5 σ (less H5 Dl) := fun {ρ5 S5 T5 H5} r5 => by
      obtain ⟨q1, q2⟩ := h4.hideOut h2 r5
      refine ⟨q1, q2.slots hgs fun j a e => ?_⟩
      obtain ⟨v, v1, v2⟩ := hV j a e
      exact ⟨v, v1, q2.tl (a, v) (by simp [T1, v2])⟩
    intro s0 H0 C cl fp
    have tst : wpC (X.blk s0 H0 scope (compEnvC scope cl C X.env) fp) ifs σ2 H4 (fun c H' => ∃ S5, Rel (F.hide (upd Hb Dl (.lst vs')) ρ S' Dl) ((.d d, x) :: ((acc.map A.d).zip vs' ++ T1)) Γ' S5 σ2 H' ∧ (if c = true then w Γ' S5 noEx fun a S2 => ∃ x, a = .d x ∧ it S2 = some ds ∧ wLcL it ds t vs b w Γ Q (acc ++ [x]) (ds.drop (i + 1)) S2 else it S5 = some ds ∧ wLcL it ds t vs b w Γ Q acc (ds.drop (i + 1)) S5)) := by
      rcases hb s0 H0 C cl fp with ⟨rfl, rfl⟩ | ⟨e0, rfl, hbb⟩
      · exact wpC_of pts_nil ⟨S', r4, hq⟩
      · exact wpC_of (pts_one pt_wp) (wpT_mono (hbb _ noEx xok_no _ Γ' S' σ2 H4 _ r4 hq) fun c H5 ⟨S5, r5, q5⟩ => ⟨S5, r5, q5⟩)
    refine wpC_mono tst fun c' H5 ⟨S5, r5, q5⟩ => ?_
    cases c' with
    | false =>
      rw [if_neg Bool.false_ne_true] at q5
      refine iteF ?_
      obtain ⟨ρ5, r5⟩ := r5
      obtain ⟨q1, q2⟩ := back (T5 := [_]) r5
      refine ⟨acc, vs', less H5 Dl, ρ5, S5, by omega, q5.2, q5.1, less_same, ?_, h3, q2.drop fun q hq => List.mem_cons_of_mem _ hq⟩
      rw [← upd_less]
      funext z
      by_cases hz : z = Dl
      · subst hz; rw [upd_same, q1]
      · rw [upd_ne hz]
    | true =>
      rw [if_pos rfl] at q5
      refine iteT ?_
      intro s0 H0 C cl fp
      refine wpX_mono (hf s0 H0 C cl fp _ noEx xok_no _ Γ' S5 σ2 H5 _ r5 q5) fun y H6 ⟨a6, S6, r6, d6, e6, e7, q6⟩ => ?_
      subst e6
      obtain ⟨ρ6, r6⟩ := r6
      obtain ⟨q1, q2⟩ := back (T5 := [_, _]) r6
      refine ⟨vs', q1, hlen, acc ++ [d6], vs' ++ [y], less H6 Dl, ρ6, S6, by simp; omega, q6, e7, less_same, upd_less, by simp [h3], ?_⟩
      refine q2.drop fun q hq => ?_
      have e7 : ((acc ++ [d6]).map A.d).zip (vs' ++ [y]) = (acc.map A.d).zip vs' ++ [(A.d d6, y)] := by
        rw [List.map_append, List.zip_append (by simp [h3])]; rfl
      rw [e7] at hq
      simp only [List.mem_append, List.mem_cons, List.not_mem_nil, or_false, List.cons_append, List.nil_append] at hq ⊢
      rcases hq with (hq | hq) | hq
      · exact .inr (.inr (.inl hq))
      · exact .inl hq
      · exact .inr (.inr (.inr hq))
  · rintro H' ⟨acc, vs', Hb, ρ, S', _, hq, _, h2, rfl, h3, h4⟩
    rw [List.drop_length] at hq
    have R := reps_of h4 h3 fun q hq => List.mem_append_left _ hq
    refine k Dl _ (.d (.lst acc)) S' ⟨ρ, (h4.newL h2 R).drop fun q hq => ?_⟩ hq
    rcases List.mem_cons.mp hq with rfl | hq
    · exact List.mem_cons_self
    · simp [T1, hq]
theorem re_lc {elt tg iter : Expr} {ifs : List Expr} {scope : Scope} {own : List (Str × Nat)} {pos : Pos} {wi : WI} {t : TgF} {ws : List Nat} {b : WT} {w : WE} (hc : X.calm = true) (hN : X.N.Nodup) (hi : RIE ci X tg iter wi) (ok : BlkOk X.N X.env.scope scope own)
    (hg : BlkX X scope fun Y => RG ci Y tg t ws) (hb : BlkX X scope fun Y => RCE ci Y ifs b) (hf : BlkX X scope fun Y => RE ci Y elt w) (hw : ∀ i ∈ ws, i ∈ own.map (·.2) := by decide) (hs : ∀ x, foldedSetIterable iter X.env x = pure x := by intro _; rfl) :
    RE ci X (.ListComp elt [⟨tg, iter, ifs, 0⟩] scope pos) (wLc wi t (own.map (·.2)) b w) := fun F ex xo T Γ S σ H Q r q =>
  wpX_of (pe_lc (te := eB X scope elt) (tt := tB' X scope ifs) (g := gB X scope tg) hc hN pi_wp ok (fun s H C cl fp => ⟨fun pins s' σ H' v u Q I r h => h s H C cl fp pins s' u I r⟩)
    (fun s H C cl fp => ⟨fun pins s' σ H' Q I h => h s H C cl fp pins s' I⟩) (fun s H C cl fp => ⟨fun pins s' σ H' Q I h => h s H C cl fp pins s' I⟩) hs) (comp_runE hi hg hw hb hf xo r q fun p H' a S' h1 h2 => ⟨a, S', h1, h2⟩)
/-- x = [..] on one line -/
theorem rs_asgLc (i : Nat) {y : Str} {py : Pos} {elt tg iter : Expr} {ifs : List Expr} {scope : Scope} {own : List (Str × Nat)} {pos spos : Pos} {wi : WI} {t : TgF} {ws : List Nat} {b : WT} {w : WE} (hc : X.calm = true) (hN : X.N.Nodup) (hi : RIE ci X tg iter wi) (ok : BlkOk X.N X.env.scope scope own)
    (hg : BlkX X scope fun Y => RG ci Y tg t ws) (hb : BlkX X scope fun Y => RCE ci Y ifs b) (hf : BlkX X scope fun Y => RE ci Y elt w) (hsw : swapsWith (.ListComp elt [⟨tg, iter, ifs, 0⟩] scope pos) (some (.Name y py)) spos.line X.env = pure true) (hy : X.N[i]? = some y := by rfl) (hyl : X.env.scope.names.lookup y = some .local := by kernel_rfl)
    (hw : ∀ i ∈ ws, i ∈ own.map (·.2) := by decide) (hs : ∀ x, foldedSetIterable iter X.env x = pure x := by intro _; rfl) :
    RS ci X (.Assign [.Name y py] (.ListComp elt [⟨tg, iter, ifs, 0⟩] scope pos) spos) (wAsg i (wLc wi t (own.map (·.2)) b w)) := fun F D xo T Γ S σ H r q =>
  wpS_of (ps_setLc (te := eB X scope elt) (tt := tB' X scope ifs) (g := gB X scope tg) hc hN hy hyl hsw pi_wp ok (fun s H C cl fp => ⟨fun pins s' σ H' v u Q I r h => h s H C cl fp pins s' u I r⟩)
    (fun s H C cl fp => ⟨fun pins s' σ H' Q I h => h s H C cl fp pins s' I⟩) (fun s H C cl fp => ⟨fun pins s' σ H' Q I h => h s H C cl fp pins s' I⟩) hs) (comp_runE hi hg hw hb hf xo r q fun p H' a S' h1 h2 => ⟨_, S', (h1.put i List.mem_cons_self).tail, h2⟩)
theorem rs_asgLcP (i : Nat) {y : Str} {py : Pos} {elt tg iter : Expr} {ifs : List Expr} {scope : Scope} {own : List (Str × Nat)} {pos spos : Pos} {fi : QI} {t : TgF} {ws : List Nat} {b : QB} {f : QF} (hc : X.calm = true) (hN : X.N.Nodup) (hi : RI ci X tg iter fi) (ok : BlkOk X.N X.env.scope scope own)
    (hg : BlkX X scope fun Y => RG ci Y tg t ws) (hb : BlkX X scope fun Y => RC ci Y ifs b) (hf : BlkX X scope fun Y => RP ci Y elt f) (hsw : swapsWith (.ListComp elt [⟨tg, iter, ifs, 0⟩] scope pos) (some (.Name y py)) spos.line X.env = pure true) (hy : X.N[i]? = some y := by rfl) (hyl : X.env.scope.names.lookup y = some .local := by kernel_rfl)
    (hw : ∀ i ∈ ws, i ∈ own.map (·.2) := by decide) (hs : ∀ x, foldedSetIterable iter X.env x = pure x := by intro _; rfl) :
    RS ci X (.Assign [.Name y py] (.ListComp elt [⟨tg, iter, ifs, 0⟩] scope pos) spos) (wAsg i (wP (fComp fi t (own.map (·.2)) b f))) := fun F D xo T Γ S σ H r ⟨a, e, q⟩ =>
  wpS_of (ps_setLc (te := eB X scope elt) (tt := tB' X scope ifs) (g := gB X scope tg) hc hN hy hyl hsw pi_wp ok (fun s H C cl fp => ⟨fun pins s' σ H' v u Q I r h => h s H C cl fp pins s' u I r⟩)
    (fun s H C cl fp => ⟨fun pins s' σ H' Q I h => h s H C cl fp pins s' I⟩) (fun s H C cl fp => ⟨fun pins s' σ H' Q I h => h s H C cl fp pins s' I⟩) hs) (comp_run hi hg hw hb hf r e fun p H' h1 => ⟨_, S, (h1.put i List.mem_cons_self).tail, q⟩)
end
end LP

namespace LP
open PySem PySem.Spec PyProof.Rows L2
section
variable {ci : Ci} {X : Cx}
/-! operators of any kind, by values -/
theorem OpG.or {fv : Value → Value → Sem Value} {g g' h : So → A → A → Option D} (o : OpG ci X fv g) (o' : OpG ci X fv g') (k : ∀ S a b d, h S a b = some d → g S a b = some d ∨ g' S a b = some d) : OpG ci X fv h := by
  obtain ⟨r, h1, h2⟩ := o
  obtain ⟨r', h1', h2'⟩ := o'
  refine ⟨_, h1.or h1', fun F T Γ S σ H x y a b d rr hx hy e Q kk => ?_⟩
  rcases k S a b d e with e | e
  · exact .inl (h2 F T Γ S σ H x y a b d rr hx hy e Q kk)
  · exact .inr (h2' F T Γ S σ H x y a b d rr hx hy e Q kk)
def gPlus (S : So) : A → A → Option D
  | .d (.int i), .d (.int j) => some (.int (i + j))
  | .d (.str s), .d (.str t) => if s.length + t.length ≤ sizeLine then some (.str (s ++ t)) else none
  | a, b => gCat S a b
theorem o_plus : OpG ci X (binaryOp .Add) gPlus := o_add.or o_cat fun S a b d e => by
  unfold gPlus at e
  split at e
  · exact .inl e
  · exact .inl e
  · exact .inr e
def gTimes (S : So) : A → A → Option D
  | .d (.int i), .d (.int j) => if decide ((-(2 ^ 64) < i ∧ i < 2 ^ 64) ∨ (-(2 ^ 64) < j ∧ j < 2 ^ 64)) = true then some (.int (i * j)) else none
  | .d (.str s), .d (.int n) => if 0 ≤ n ∧ n ≤ 1000 ∧ s.length ≤ 10000 then some (.str (strRep s n)) else none
  | a, b => gRepL S a b
theorem o_times : OpG ci X (binaryOp .Mult) gTimes := (o_mul.or o_repS (h := fun S a b => match a, b with
  | .d (.int i), .d (.int j) => gMul S (.d (.int i)) (.d (.int j))
  | .d (.str s), .d (.int n) => gRepS S (.d (.str s)) (.d (.int n))
  | _, _ => none) fun S a b d e => by
    split at e
    · exact .inl e
    · exact .inr e
    · cases e).or o_repL fun S a b d e => by
  unfold gTimes at e
  split at e
  · exact .inl e
  · exact .inl e
  · exact .inr e
/-- text or list or tuple -/
def slV (S : So) : A → Option Int → Option Int → Option D
  | .d (.str s), l, h => if s.length ≤ sizeLine then some (.str (cutS s l h)) else none
  | .d (.tup t), l, h => some (.tup (cutD t l h))
  | a, l, h => (viewL S a).map fun ds => .lst (cutD ds l h)
def fSl (f : QF) (lo hi : QO) : QF := fun Γ S => (f Γ S).bind fun a => (lo Γ S).bind fun l => (hi Γ S).bind fun h => (slV S a l h).map A.d
theorem sl_end {F : Fr X.K ci} {T : List (A × V)} {Γ : Ga} {S : So} {σ : L2.St} {H : Hp} {a : A} {v : V} {l u : Option Int} {d : D} (r : Rel F ((a, v) :: T) Γ S σ H) (e : slV S a l u = some d) {Q : VK} (k : ∀ w H', Rel F ((.d d, w) :: T) Γ S σ H' → Q w H') : rSlL X.K v l u H Q ∨ rSlS v l u H Q ∨ rSlA X.K v l u H Q := by
  unfold slV at e
  split at e
  · rename_i s
    split at e
    · rename_i hs
      cases e
      exact .inr (.inl ⟨s, r.asStr List.mem_cons_self, hs, k _ _ (r.tail.str _)⟩)
    · cases e
  · rename_i t
    cases e
    obtain ⟨ρ, r⟩ := r
    obtain ⟨p, vs, rfl, hq, R⟩ := RelR.viewT (r.top (a := .d (.tup t)) List.mem_cons_self) rfl
    have hl := R.length
    refine .inr (.inr ⟨p, vs, rfl, hq, fun hw => k _ _ ⟨ρ, ?_⟩, fun _ p' hp' => k _ _ ⟨ρ, (r.newT hp' (cut_reps R)).drop drop2⟩⟩)
    have e1 : cutD t l u = t := by
      unfold cutD
      rw [hl, hw.1, hw.2, ← hl]
      simp
    rw [e1]
    exact r
  · cases e5 : viewL S a with
    | none => rw [e5] at e; cases e
    | some ds =>
      rw [e5] at e; cases e
      obtain ⟨ρ, r⟩ := r
      obtain ⟨p, vs, rfl, hq, R⟩ := r.viewL (r.top (a := a) List.mem_cons_self) e5
      exact .inl ⟨p, vs, rfl, hq, fun p' hp => k _ _ ⟨ρ, (r.newL hp (cut_reps R)).drop drop2⟩⟩
theorem rp_sl {e : Expr} {lo hi : Option Expr} {f : QF} {fl fh : QO} {p2 pos : Pos} (he : RP ci X e f) (hl : RO ci X lo fl) (hh : RO ci X hi fh) : RP ci X (.Subscript e (.Slice lo hi none p2) pos) (fSl f fl fh) := fun F T Γ S σ H z r q => by
  obtain ⟨a, l, u, e1, e2, e3, e4⟩ := sl_some q
  cases e5 : slV S a l u with
  | none => rw [e5] at e4; cases e4
  | some d =>
    rw [e5] at e4; cases e4
    refine wpX_of (pe_slice (sl_list.or (sl_str.or sl_tupA)) pe_wp po_wp po_wp) (slice_run he hl hh r e1 e2 e3 (R := fun v l u H' => rSlL X.K v l u H' _ ∨ rSlS v l u H' _ ∨ rSlA X.K v l u H' _) fun v H' h' => ?_)
    exact sl_end h' e5 fun w H2 h2 => h2
/-- int of anything -/
theorem CallG.or {fv : Value} {g g' h : So → List A → Option D} (o : CallG ci X fv g) (o' : CallG ci X fv g') (k : ∀ S as d, h S as = some d → g S as = some d ∨ g' S as = some d) : CallG ci X fv h := by
  obtain ⟨r, h1, h2⟩ := o
  obtain ⟨r', h1', h2'⟩ := o'
  refine ⟨_, h1.or h1', fun F T Γ S σ H as vs d rr hl hx e Q kk => ?_⟩
  rcases k S as d e with e | e
  · exact .inl (h2 F T Γ S σ H as vs d rr hl hx e Q kk)
  · exact .inr (h2' F T Γ S σ H as vs d rr hl hx e Q kk)
def gIntA (S : So) : List A → Option D
  | [.d (.str s)] => if s.length ≤ 640 then (PySem.intText? s).map .int else none
  | as => gInt S as
theorem c_intA : CallG ci X (.type "int") gIntA := c_int.or c_intS fun S as d e => by
  unfold gIntA at e
  split at e
  · exact .inr e
  · exact .inl e
/-- in: a text, or a list | tuple of flat things -/
def gInU (neg : Bool) (S : So) (a b : A) : Option D := match b with
  | .d (.str _) => gInS neg S a b
  | b => gIn neg S a b
theorem o_inU : OpG ci X (compareOp .In) (gInU false) := o_in.or o_inS fun S a b d e => by
  unfold gInU at e
  split at e
  · exact .inr e
  · exact .inl e
theorem o_ninU : OpG ci X (compareOp .NotIn) (gInU true) := o_nin.or o_ninS fun S a b d e => by
  unfold gInU at e
  split at e
  · exact .inr e
  · exact .inl e
end
end LP

namespace LP
open PySem PySem.Spec PyProof.Rows L2
/-! chains as tests, walks over what comes with effects, calls by keywords -/
section
variable {ci : Ci} {X : Cx}
theorem rb_chain {op op' : CmpOp} {a b c : Expr} {pos : Pos} {g g' : So → A → A → Option D} {fa fb fc : QF} (ho : OpG ci X (compareOp op) g) (ho' : OpG ci X (compareOp op') g') (ha : RP ci X a fa) (hb : RP ci X b fb) (hc : RP ci X c fc)
    (hm : lastMarks [op, op'] [b, c] = false := by with_unfolding_all rfl) : RB ci X (.Compare a [op, op'] [b, c] pos) (bV (fChain g g' fa fb fc)) := fun F T Γ S σ H rb r q => by
  obtain ⟨x, y, b0, e1, e2, e3, e4⟩ := chain_some (bv_some q)
  obtain ⟨rr, hr1, hk⟩ := ho
  obtain ⟨rr', hr2, hk'⟩ := ho'
  refine wpT_of (pt_chain hr1 hr2 pe_wp pe_wp pe_wp hm) (wpX_mono (two ha hb r e1 e2) fun v H1 h1 => wpX_mono h1 fun u H2 h2 => ?_)
  refine hk F _ Γ S σ H2 v u x y _ h2 (by simp) (by simp) e3 _ fun w H3 h3 => ?_
  refine ⟨b0, h3.asBl List.mem_cons_self, ?_⟩
  rcases e4 with ⟨rfl, e4⟩ | ⟨rfl, z, d, e5, e6, e4⟩
  · cases e4
    exact iteF ⟨false, rfl, rfl, h3.drop fun q hq => by simp [hq]⟩
  · cases e4
    refine iteT (wpX_mono (hc F _ Γ S σ H3 z h3 e5) fun t H4 h4 => ?_)
    exact hk' F _ Γ S σ H4 u t y z _ h4 (by simp) (by simp) e6 _ fun w' H5 h5 => ⟨rb, h5.asBl List.mem_cons_self, rfl, h5.drop fun q hq => by simp [hq]⟩
theorem rie_list {tg e : Expr} {w : WE} (h : RE ci X e w) : RIE ci X tg e (wIL w) := fun F ex xo T Γ S σ H Q r q => by
  refine wpI_of (pi_list pe_wp) (wpX_monoI (h F ex xo T Γ S σ H _ r q) fun v H' hz hh => ?_)
  obtain ⟨a, S1, h', ds, q2, q3⟩ := hh
  obtain ⟨ρ, h'⟩ := id h'
  obtain ⟨p, vs, rfl, hq, R⟩ := h'.viewL (h'.top List.mem_cons_self) q2
  refine ⟨p, rfl, ⟨vs, hq⟩, [(a, .ref p)], S1, _, ds, ⟨by rw [R.length]; exact hz p vs (.inl hq), fun H => ∃ xs, SqL X.K H p xs ∧ xs.length = ds.length, fun i H x H' => H' = H ∧ ∀ xs, SqL X.K H p xs → xs[i]? = some x, ⟨?_, ?_, ?_⟩, ?_⟩, q2, ⟨ρ, h'⟩, q3⟩
  · rintro i H hi ⟨xs, hs, hl⟩
    exact ⟨xs, xs[i]'(by omega), hs, by simp⟩
  · rintro H ⟨xs, hs, hl⟩
    exact ⟨xs, hs, by omega⟩
  · rintro i H x H' hi _ ⟨h1, h2⟩
    exact ⟨h1, h2⟩
  · intro F T Γ S σ H r hU hS
    obtain ⟨ρ, r⟩ := r
    have hm : (a, V.ref p) ∈ T := hU _ List.mem_cons_self
    obtain ⟨p', vs', e, hq', R'⟩ := r.viewL (r.top hm) hS
    cases e
    refine ⟨⟨vs', hq', R'.length.symm⟩, ?_⟩
    rintro i x H' hi ⟨rfl, h2⟩
    obtain ⟨d, hd, rd⟩ := R'.get (h2 vs' hq')
    exact ⟨d, hd, ρ, r.push rd⟩
def wIR1 (w : WE) : WI := fun Γ S ex Q => w Γ S ex fun a S1 => ∃ j : Int, a = .d (.int j) ∧ -(2 ^ 62) ≤ j ∧ j ≤ 16777216 ∧ Q (fun _ => some (rangeD 0 j.toNat)) (rangeD 0 j.toNat) S1
theorem rie_r1 {tg e : Expr} {w : WE} {p pos : Pos} (hg : Gl X "range") (hm : X.mg "range" = none) (h : RE ci X e w) (hs : starEach [e] X.env = [(false, eval e X.env)] := by kernel_rfl) : RIE ci X tg (.Call (.Name "range" p) [e] [] pos) (wIR1 w) := fun F ex xo T Γ S σ H Q r q => by
  refine wpI_of (pi_range1 hg hm (pa_cons pe_wp pa_nil hs) hs) (wpX_mono (h F ex xo T Γ S σ H _ r q) fun v H' hh => ?_)
  obtain ⟨a, S1, h', j, ea, h1, h2, q3⟩ := hh
  subst ea
  have := h'.asInt List.mem_cons_self
  subst this
  exact ⟨j, rfl, h1, by omega, [], S1, _, _, range_spec (by omega), rfl, h'.tail, q3⟩
end
/-- some of a list's items, by their places -/
def sel {α : Type} (ix : List Nat) (l : List α) : List α := ix.filterMap fun i => l[i]?
theorem sel_map {α β : Type} (f : α → β) (ix : List Nat) (l : List α) : sel ix (l.map f) = (sel ix l).map f := by
  unfold sel
  induction ix with
  | nil => rfl
  | cons i ix ih =>
    rw [List.filterMap_cons, List.filterMap_cons, List.getElem?_map]
    cases l[i]? with
    | none => exact ih
    | some a => exact congrArg _ ih
theorem sel_mem {α : Type} {ix : List Nat} {l : List α} {a : α} (h : a ∈ sel ix l) : a ∈ l := by
  unfold sel at h
  obtain ⟨i, _, e⟩ := List.mem_filterMap.mp h
  exact List.mem_of_getElem? e
theorem sel_zip {α β : Type} (ix : List Nat) {l : List α} {m : List β} (h : l.length = m.length) : (sel ix l).zip (sel ix m) = sel ix (l.zip m) := by
  have h1 : sel ix l = (sel ix (l.zip m)).map Prod.fst := by rw [← sel_map, List.map_fst_zip (by omega)]
  have h2 : sel ix m = (sel ix (l.zip m)).map Prod.snd := by rw [← sel_map, List.map_snd_zip (by omega)]
  rw [h1, h2]
  exact (List.zip_map' ..).trans (by simp)
theorem sel_len {α β : Type} (ix : List Nat) {l : List α} {m : List β} (h : l.length = m.length) : (sel ix l).length = (sel ix m).length := by
  have h1 : sel ix l = (sel ix (l.zip m)).map Prod.fst := by rw [← sel_map, List.map_fst_zip (by omega)]
  have h2 : sel ix m = (sel ix (l.zip m)).map Prod.snd := by rw [← sel_map, List.map_snd_zip (by omega)]
  rw [h1, h2]; simp
theorem paired_get {vs : List V} {us : List Value} (h : Vals vs us) : ∀ i : Nat, (vs[i]? = none ∧ us[i]? = none) ∨ ∃ v u, vs[i]? = some v ∧ us[i]? = some u ∧ RelV v u := by
  induction h with
  | nil => intro i; simp
  | cons r _ ih =>
    intro i
    cases i with
    | zero => exact .inr ⟨_, _, rfl, rfl, r⟩
    | succ i => simpa using ih i
theorem sel_vals {vs : List V} {us : List Value} (h : Vals vs us) (ix : List Nat) : Vals (sel ix vs) (sel ix us) := by
  unfold sel
  induction ix with
  | nil => exact .nil
  | cons i ix ih =>
    rw [List.filterMap_cons, List.filterMap_cons]
    rcases paired_get h i with ⟨e1, e2⟩ | ⟨v, u, e1, e2, r⟩
    · rw [e1, e2]; exact ih
    · rw [e1, e2]; exact .cons r ih
/-! binding -/
section
variable {K : PySem.W.Frag} {x qual : Str} {params : Arguments} {body : List Stmt} {scope : Scope} {dvs : List V} {f : Addr} {fd : FuncData} {ps : List Str}
/-- the places of a call's values: n by place, then the defaults, then those by name -/
abbrev KB (K : PySem.W.Frag) (fd : FuncData) (ps : List Str) (n : Nat) (ks : List Str) (ix : List Nat) (dfl : List D) (its : List Value) : Prop := KBn K fd ps n ks (fun us ws => sel ix (us ++ its ++ ws)) (fun vs zs => sel ix (vs ++ dfl.map D.v ++ zs))
theorem kb_dfl {dfl : List D} (F : FunD K x qual params body scope (dfl.map D.v) [] f fd) (n : Nat) (ks : List Str) (ix : List Nat) (hd : dfl ≠ [])
    (h : ∀ (T : Addr) (kV doc pm : Value) (an : Option Addr) (cdv ct : Value) (us its ws : List Value), us.length = n → its.length = (dfl.map D.v).length → ws.length = ks.length →
      ∃ k, bindArgs (PySem.W.fnOf x qual params body scope (.ref T) kV doc pm an cdv ct) ⟨us, ks.zip ws⟩ = seqItems? (.ref T) >>= k ∧ k (some its.toArray) = pure (ps.zip (sel ix (us ++ its ++ ws)))) : ∃ its : List Value, KB K fd ps n ks ix dfl its := by
  obtain ⟨its, b⟩ := F.kbindsD n ks (fun a b c => sel ix (a ++ b ++ c)) (by simpa using hd) (fun r1 r2 r3 => sel_vals ((r1.append r2).append r3) ix) h
  exact ⟨its, b⟩
theorem kb_none (F : FunD K x qual params body scope [] [] f fd) (n : Nat) (ks : List Str) (ix : List Nat)
    (h : ∀ (kV doc pm : Value) (an : Option Addr) (cdv ct : Value) (us ws : List Value), us.length = n → ws.length = ks.length → bindArgs (PySem.W.fnOf x qual params body scope .none kV doc pm an cdv ct) ⟨us, ks.zip ws⟩ = pure (ps.zip (sel ix (us ++ [] ++ ws)))) : ∃ its : List Value, KB K fd ps n ks ix [] its := by
  obtain ⟨oc, od, dV, kV, doc, pm, an, cdv, ct, osl, rfl, lk, hcd, hD, hK⟩ := F.ex
  rcases hD with ⟨_, rfl⟩ | ⟨e, _⟩
  · exact ⟨[], ⟨fun s us ws _ l1 l2 => .of_eq (h kV doc pm an cdv ct us ws l1 l2), fun r1 r2 => sel_vals ((r1.append .nil).append r2) ix⟩⟩
  · exact absurd rfl e
end
/-! the call -/
def wpK (X : Cx) (kws : List Keyword) : TA := fun σ H Q => ∀ (pos : Pos) (pins : List (Addr × Obj)) (s : Shared), Inv X pins σ H s → wpAny (model X.prog X.w) X.A (evalAll ((backToKw pos (keywordEach kws X.env)).map (·.2))) (AP X pins σ Q) X.xe s
section
variable {ci : Ci} {X : Cx}
theorem pk_wp {kws : List Keyword} : PK X kws (wpK X kws) := ⟨fun pos pins s σ H Q I h => h pos pins s I⟩
theorem wpK_of {kws : List Keyword} {t : TA} {σ : L2.St} {H : Hp} (h : PK X kws t) {Q : List V → Hp → Prop} (q : t σ H Q) : wpK X kws σ H Q := fun pos pins s I => h.run pos pins s σ H Q I q
theorem wpK_mono {kws : List Keyword} {σ : L2.St} {H : Hp} {Q Q' : List V → Hp → Prop} (h : wpK X kws σ H Q) (k : ∀ v H', Q v H' → Q' v H') : wpK X kws σ H Q' := fun pos pins s I => thn (h pos pins s I) fun _ _ ⟨v, H', I', r, q⟩ => ⟨v, H', I', r, k v H' q⟩
def RK (ci : Ci) (X : Cx) (kws : List Keyword) (w : WAs) : Prop := ∀ (F : Fr X.K ci) ex, Xok X F ex → ∀ T Γ S σ H Q, Rel F T Γ S σ H → w Γ S ex Q → wpK X kws σ H (AEnd F kws.length T Γ σ Q)
theorem rk_nil : RK ci X [] wNil := fun F ex _ T Γ S σ H Q r q => wpK_of pk_nil ⟨[], S, rfl, rfl, r, q⟩
theorem rk_cons {e : Expr} {kws : List Keyword} {nm : Option Str} {kpos : Pos} {w : WE} {ws : WAs} (h : RE ci X e w) (hs : RK ci X kws ws) : RK ci X (⟨nm, e, kpos⟩ :: kws) (wCons w ws) := fun F ex xo T Γ S σ H Q r q => by
  refine wpK_of (pk_cons pe_wp pk_wp) (wpX_mono (h F ex xo T Γ S σ H _ r q) fun v H1 ⟨a, S1, r1, q1⟩ => wpK_mono (hs F ex xo _ Γ S1 σ H1 _ r1 q1) fun vs H2 ⟨as, S2, hz, hn, r2, q2⟩ => ?_)
  refine ⟨a :: as, S2, by simp [hz], by simp [hn], r2.drop fun x hx => ?_, q2⟩
  rw [List.zip_cons_cons] at hx
  simp only [List.cons_append, List.mem_cons, List.mem_append] at hx ⊢
  rcases hx with hx | hx | hx <;> simp [hx]
end
structure CallK (P : Program) (w : World) (K : PySem.W.Frag) (mg : Str → Option Value) (base : Heap) (ci : Ci) (k : Nat) (x : Str) (n : Nat) (ks : List Str) (ix : List Nat) (dfl : List D) (sp : Sp) : Prop where
  ex : ∃ (f : Addr) (fd : FuncData) (ps : List Str) (its : List Value), FnOk P w K mg base (L2.CX P w) k f fd ps sp ∧ mg x = some (.ref f) ∧ PySem.W.keepIn K (.ref f) = true ∧ KB K fd ps n ks ix dfl its ∧ dfl.all D.flat = true
structure MakeK (P : Program) (w : World) (K : PySem.W.Frag) (mg : Str → Option Value) (base : Heap) (ci : Ci) (k : Nat) (x : Str) (c n : Nat) (ks : List Str) (ix : List Nat) (dfl : List D) (G : PI') : Prop where
  ex : ∃ (f : Addr) (fd : FuncData) (ps : List Str) (its : List Value), FnOk P w K mg base (L2.CX P w) k f fd ps (spI K ci c G) ∧ Mk K (ci c).1 f ∧ mg x = some (.ref (ci c).1) ∧ KB K fd ps (n + 1) ks (0 :: ix.map (· + 1)) dfl its ∧ dfl.all D.flat = true
  len : ∀ ds fs, G ds = some (.ok fs) → fs.length = (ci c).2.length
def wFnK (ix : List Nat) (dfl : List D) (G : PC) (ws wk : WAs) : WE := fun Γ S ex Q => ws Γ S ex fun as S1 => wk Γ S1 ex fun bs S2 => ∃ l o, dataOf (sel ix (as ++ dfl.map A.d ++ bs)) = some l ∧ G l = some o ∧ match o with | .ok d => Q (.d d) S2 | .error er => ex er S2
def wMakeK (c : Nat) (ix : List Nat) (dfl : List D) (G : PI') (ws wk : WAs) : WE := fun Γ S ex Q => ws Γ S ex fun as S1 => wk Γ S1 ex fun bs S2 => ∃ l o, dataOf (sel ix (as ++ dfl.map A.d ++ bs)) = some l ∧ G l = some o ∧ match o with | .ok d => Q (.d (.ins c d)) S2 | .error er => ex er S2
section
variable {ci : Ci} {X : Cx}
def tCallN (n m : Nat) (sp : Sp) (gv : List V → List V → List V) (E : XK) (t tk : TA) : TE := fun σ H Q => t σ H fun vs H1 => tk σ H1 fun zs H2 => vs.length = n ∧ zs.length = m ∧ sp (gv vs zs) H2 Q E
theorem run_kb {k n : Nat} {f : Addr} {fd : FuncData} {ps ks : List Str} {sp : Sp} {E : XK} {g : List Value → List Value → List Value} {gv : List V → List V → List V} {pins : List (Addr × Obj)} {σ : L2.St} {H : Hp} {s : Shared} {Q : VK} {us ws : List Value} {vs zs : List V}
    (F : FnOk X.prog X.w X.K X.mg X.base (L2.CX X.prog X.w) k f fd ps sp) (hr : Room k X.A) (hb : KBn X.K fd ps n ks g gv) (hx : Passes (L2.CX X.prog X.w) X E) (I : Inv X pins σ H s) (r : Vals vs us) (rz : Vals zs ws) (l1 : vs.length = n) (l2 : zs.length = ks.length) (h : sp (gv vs zs) H Q E) :
    wpAny (model X.prog X.w) X.A (call (.ref f) us (ks.zip ws)) (EP X pins σ Q) X.xe s := by
  refine wpAny_call (codeAny_mono (F.run X.A X.stack s H _ _ _ Q E hr I.env0 (hb.to s us ws I.kIn (r.length.symm.trans l1) (rz.length.symm.trans l2)) (hb.rel r rz) h) fun z s2 hz => ?_)
  cases z with
  | error e => exact hx pins σ H s e s2 I hz
  | ok fl =>
    cases fl with
    | ret u => exact I.after hz
    | next => cases hz
    | brk => cases hz
    | cont => cases hz
theorem pe_kb0 {k : Nat} {f : Addr} {fd : FuncData} {ps ks : List Str} {sp : Sp} {E : XK} {g : List Value → List Value → List Value} {gv : List V → List V → List V} {x : Str} {p pos : Pos} {kws : List Keyword} {tk : TA}
    (F : FnOk X.prog X.w X.K X.mg X.base (L2.CX X.prog X.w) k f fd ps sp) (hr : Room k X.A) (hg : Gl X x) (hm : X.mg x = some (.ref f)) (hk : PySem.W.keepIn X.K (.ref f) = true) (hb : KBn X.K fd ps 0 ks g gv) (hx : Passes (L2.CX X.prog X.w) X E) (hkw : PK X kws tk)
    (hall : (backToKw pos (keywordEach kws X.env)).all (fun z => z.1.isSome) = true) (hks : (backToKw pos (keywordEach kws X.env)).filterMap (fun z => z.1) = ks) (hdb : (x == ("__debug__" : Str)) = false)
    (hpl : ((backTo pos (starEach [] X.env)).any (fun z => z.1) || (backToKw pos (keywordEach kws X.env)).any (fun z => z.1.isNone)) = false) :
    PE X (.Call (.Name x p) [] kws pos) (tCallN 0 ks.length sp gv E tNil tk) := by
  constructor
  intro pins s σ H Q I h
  refine wpAny_Call_Name_kw (ld_glob I hg hm ?_ hdb)
  refine PySem.W.callWith_KW0 (h₀ := X.base) I.ok.mod.kin hk hall ?_ hpl
  refine thn (hkw.run pos pins s σ H _ I h) fun ws s2 ⟨zs, H2, I2, rz, l1, l2, q2⟩ => ⟨I2.kIn, ?_⟩
  rw [hks]
  exact run_kb (us := []) (vs := []) F hr hb hx I2 .nil rz l1 l2 q2
theorem pe_kb {k n : Nat} {f : Addr} {fd : FuncData} {ps ks : List Str} {sp : Sp} {E : XK} {g : List Value → List Value → List Value} {gv : List V → List V → List V} {x : Str} {p pos : Pos} {e : Expr} {es : List Expr} {kws : List Keyword} {t tk : TA}
    (F : FnOk X.prog X.w X.K X.mg X.base (L2.CX X.prog X.w) k f fd ps sp) (hr : Room k X.A) (hg : Gl X x) (hm : X.mg x = some (.ref f)) (hk : PySem.W.keepIn X.K (.ref f) = true) (hb : KBn X.K fd ps n ks g gv) (hx : Passes (L2.CX X.prog X.w) X E) (ha : PA X (e :: es) t) (hkw : PK X kws tk)
    (hall : (backToKw pos (keywordEach kws X.env)).all (fun z => z.1.isSome) = true) (hks : (backToKw pos (keywordEach kws X.env)).filterMap (fun z => z.1) = ks) (hdb : (x == ("__debug__" : Str)) = false)
    (he : starEach (e :: es) X.env = (false, eval e X.env) :: starEach es X.env) (hpl : ((backTo pos (starEach (e :: es) X.env)).any (fun z => z.1) || (backToKw pos (keywordEach kws X.env)).any (fun z => z.1.isNone)) = false) :
    PE X (.Call (.Name x p) (e :: es) kws pos) (tCallN n ks.length sp gv E t tk) := by
  constructor
  intro pins s σ H Q I h
  refine wpAny_Call_Name_kw (ld_glob I hg hm ?_ hdb)
  refine PySem.W.callWith_KW (h₀ := X.base) I.ok.mod.kin hk hall (thn (ha.run pos pins s σ H _ I h) fun us s1 ⟨vs, H1, I1, r, q⟩ => ?_) hpl he
  refine thn (hkw.run pos pins s1 σ H1 _ I1 q) fun ws s2 ⟨zs, H2, I2, rz, l1, l2, q2⟩ => ⟨I2.kIn, ?_⟩
  rw [hks]
  exact run_kb F hr hb hx I2 r rz l1 l2 q2
theorem spP_all {K : PySem.W.Frag} {ci : Ci} {F : Fr K ci} {T : List (A × V)} {Γ : Ga} {S : So} {σ : L2.St} {H : Hp} {l : List D} {vs : List V} {G : PC} {o : Except Er D} {Q : VK} {E : XK} (r : Rel F T Γ S σ H) (hl : l.length = vs.length) (hT : ∀ q ∈ (l.map A.d).zip vs, q ∈ T) (e : G l = some o)
    (k1 : ∀ d, o = .ok d → ∀ v H', Rel F ((.d d, v) :: T) Γ S σ H' → Q v H') (k2 : ∀ er, o = .error er → ∀ cls dd H', (∃ ρ, RelR F ρ T Γ S σ H' ∧ ErrRep ci F ρ S er cls dd H') → E cls dd H') : spP K ci G vs H Q E := by
  have := spP_of (G := G) (dfl := []) r hl hT rfl (by rw [List.append_nil]; exact e) k1 k2
  simpa using this
theorem Rel.flats {K : PySem.W.Frag} {ci : Ci} {F : Fr K ci} {T : List (A × V)} {Γ : Ga} {S : So} {σ : L2.St} {H : Hp} (r : Rel F T Γ S σ H) {l : List D} (h : l.all D.flat = true) : Rel F ((l.map A.d).zip (l.map D.v) ++ T) Γ S σ H := let ⟨ρ, r⟩ := r; ⟨ρ, r.flats h⟩
theorem three {as bs : List A} {vs zs : List V} {dfl : List D} {T : List (A × V)} {ix : List Nat} (h1 : as.length = vs.length) (h2 : bs.length = zs.length) {q : A × V} (hq : q ∈ (sel ix (as ++ dfl.map A.d ++ bs)).zip (sel ix (vs ++ dfl.map D.v ++ zs))) : q ∈ (dfl.map A.d).zip (dfl.map D.v) ++ (bs.zip zs ++ (as.zip vs ++ T)) := by
  rw [sel_zip ix (by simp [h1, h2])] at hq
  have := sel_mem hq
  rw [List.append_assoc, List.append_assoc, zip_app h1, zip_app (by simp)] at this
  simp only [List.mem_append] at this ⊢
  rcases this with h | h | h <;> simp [h]
theorem callK_end {F : Fr X.K ci} {ex : EK} {T : List (A × V)} {Γ : Ga} {S2 : So} {σ : L2.St} {H : Hp} {as bs : List A} {vs zs : List V} {dfl : List D} {ix : List Nat} {G : PC} {Q : AK} (h1 : as.length = vs.length) (h2 : bs.length = zs.length) (hf : dfl.all D.flat = true)
    (r : Rel F (bs.zip zs ++ (as.zip vs ++ T)) Γ S2 σ H) (q : ∃ l o, dataOf (sel ix (as ++ dfl.map A.d ++ bs)) = some l ∧ G l = some o ∧ match o with | .ok d => Q (.d d) S2 | .error er => ex er S2) :
    spP X.K ci G (sel ix (vs ++ dfl.map D.v ++ zs)) H (VEnd F T Γ σ Q) (fun cls dd H => ExW F ex cls dd H) := by
  obtain ⟨l, o, e1, e2, q1⟩ := q
  have e3 := dataOf_eq e1
  have r1 := r.flats hf
  refine spP_all r1 ?_ (fun z hz => ?_) e2 (fun d' ed v H2 r2 => ?_) fun er ee cls dd H2 ⟨ρ, r2, hE⟩ => ?_
  · have := congrArg List.length e3
    rw [sel_len ix (m := vs ++ dfl.map D.v ++ zs) (by simp [h1, h2])] at this
    simpa using this.symm
  · rw [← e3] at hz
    exact three h1 h2 hz
  · subst ed; exact ⟨_, S2, r2.drop fun x hx => by simp only [List.mem_cons, List.mem_append] at hx ⊢; rcases hx with hx | hx <;> simp [hx], q1⟩
  · subst ee; exact ⟨er, S2, ρ, (r2.bare).drop (fun x hx => by cases hx), hE, q1⟩
theorem re_callK0 {k : Nat} {x : Str} {p pos : Pos} {kws : List Keyword} {ks : List Str} {ix : List Nat} {dfl : List D} {G : PC} {wk : WAs} (C : CallK X.prog X.w X.K X.mg X.base ci k x 0 ks ix dfl (spP X.K ci G)) (hr : Room k X.A) (hg : Gl X x) (hk : RK ci X kws wk) (hn : ks.length = kws.length := by kernel_rfl)
    (hall : (backToKw pos (keywordEach kws X.env)).all (fun z => z.1.isSome) = true := by kernel_rfl) (hks : (backToKw pos (keywordEach kws X.env)).filterMap (fun z => z.1) = ks := by rfl) (hdb : (x == ("__debug__" : Str)) = false := by decide +kernel)
    (hpl : ((backTo pos (starEach [] X.env)).any (fun z => z.1) || (backToKw pos (keywordEach kws X.env)).any (fun z => z.1.isNone)) = false := by kernel_rfl) : RE ci X (.Call (.Name x p) [] kws pos) (wFnK ix dfl G wNil wk) := fun F ex xo T Γ S σ H Q r q => by
  obtain ⟨f, fd, ps, its, h1, h2, h3, h4, h5⟩ := C.ex
  refine wpX_of (pe_kb0 (E := fun cls d H => ExW F ex cls d H) h1 hr hg h2 h3 h4 (passX xo) pk_wp hall hks hdb hpl) (wpK_mono (hk F ex xo T Γ S σ H _ r q) fun zs H2 ⟨bs, S2, hz, hm, r2, q2⟩ => ?_)
  exact ⟨rfl, by rw [← hz, hm, hn], callK_end (as := []) (vs := []) rfl hz h5 r2 q2⟩
theorem re_callK {k n : Nat} {x : Str} {p pos : Pos} {e : Expr} {es : List Expr} {kws : List Keyword} {ks : List Str} {ix : List Nat} {dfl : List D} {G : PC} {ws wk : WAs} (C : CallK X.prog X.w X.K X.mg X.base ci k x n ks ix dfl (spP X.K ci G)) (hr : Room k X.A) (hg : Gl X x) (ha : RA ci X (e :: es) ws) (hk : RK ci X kws wk) (hn0 : n = (e :: es).length := by rfl) (hn : ks.length = kws.length := by kernel_rfl)
    (hall : (backToKw pos (keywordEach kws X.env)).all (fun z => z.1.isSome) = true := by kernel_rfl) (hks : (backToKw pos (keywordEach kws X.env)).filterMap (fun z => z.1) = ks := by rfl) (hdb : (x == ("__debug__" : Str)) = false := by decide +kernel) (he : starEach (e :: es) X.env = (false, eval e X.env) :: starEach es X.env := by rfl)
    (hpl : ((backTo pos (starEach (e :: es) X.env)).any (fun z => z.1) || (backToKw pos (keywordEach kws X.env)).any (fun z => z.1.isNone)) = false := by kernel_rfl) : RE ci X (.Call (.Name x p) (e :: es) kws pos) (wFnK ix dfl G ws wk) := fun F ex xo T Γ S σ H Q r q => by
  obtain ⟨f, fd, ps, its, h1, h2, h3, h4, h5⟩ := C.ex
  refine wpX_of (pe_kb (E := fun cls d H => ExW F ex cls d H) h1 hr hg h2 h3 h4 (passX xo) pa_wp pk_wp hall hks hdb he hpl) (wpA_mono (ha F ex xo T Γ S σ H _ r q) fun vs H1 ⟨as, S1, hz1, hm1, r1, q1⟩ => wpK_mono (hk F ex xo _ Γ S1 σ H1 _ r1 q1) fun zs H2 ⟨bs, S2, hz, hm, r2, q2⟩ => ?_)
  exact ⟨by rw [← hz1, hm1, hn0], by rw [← hz, hm, hn], callK_end hz1 hz h5 r2 q2⟩
theorem makeK_end {F : Fr X.K ci} {ex : EK} {T : List (A × V)} {Γ : Ga} {S2 : So} {σ : L2.St} {H : Hp} {as bs : List A} {vs zs : List V} {dfl : List D} {ix : List Nat} {G : PI'} {Q : AK} {c : Nat} {x dx : Addr} (hG : ∀ ds fs, G ds = some (.ok fs) → fs.length = (ci c).2.length) (h1 : as.length = vs.length) (h2 : bs.length = zs.length) (hf : dfl.all D.flat = true)
    (hx : H x = none) (hdx : H dx = none) (hne : dx ≠ x) (r : Rel F (bs.zip zs ++ (as.zip vs ++ T)) Γ S2 σ H) (q : ∃ l o, dataOf (sel ix (as ++ dfl.map A.d ++ bs)) = some l ∧ G l = some o ∧ match o with | .ok d => Q (.d (.ins c d)) S2 | .error er => ex er S2) :
    spI X.K ci c G (.ref x :: sel ix (vs ++ dfl.map D.v ++ zs)) (upd (upd H dx (.own x)) x (.ins (ci c).1 dx [])) (fun v H2 => v = .non ∧ VEnd F T Γ σ Q (.ref x) H2) (fun cls dd H => ExW F ex cls dd H) := by
  obtain ⟨l, o, e1, e2, q1⟩ := q
  have e3 := dataOf_eq e1
  have r1 := r.flats hf
  have := make_of (dfl := []) (l := l) (vs := sel ix (vs ++ dfl.map D.v ++ zs)) (Q := VEnd F T Γ σ Q) (E := fun cls dd H => ExW F ex cls dd H) r1 ?_ (fun z hz => ?_) rfl (by rw [List.append_nil]; exact e2) hx hdx hne (fun fs ef => by subst ef; exact hG _ _ e2) (fun d' ed H2 r2 => ?_) fun er ee cls dd H2 ⟨ρ, r2, hE⟩ => ?_
  · simpa using this
  · have := congrArg List.length e3
    rw [sel_len ix (m := vs ++ dfl.map D.v ++ zs) (by simp [h1, h2])] at this
    simpa using this.symm
  · rw [← e3] at hz
    exact three h1 h2 hz
  · subst ed; exact ⟨_, S2, r2.drop fun x hx => by simp only [List.mem_cons, List.mem_append] at hx ⊢; rcases hx with hx | hx <;> simp [hx], q1⟩
  · subst ee; exact ⟨er, S2, ρ, (r2.bare).drop (fun x hx => by cases hx), hE, q1⟩
theorem sel_succ {α : Type} (ix : List Nat) (a : α) (l m n : List α) : sel (0 :: ix.map (· + 1)) ((a :: l) ++ m ++ n) = a :: sel ix (l ++ m ++ n) := by
  unfold sel
  rw [List.filterMap_cons]
  simp only [List.cons_append, List.getElem?_cons_zero, List.filterMap_map]
  congr 1
theorem re_makeK0 {k c : Nat} {x : Str} {p pos : Pos} {kws : List Keyword} {ks : List Str} {ix : List Nat} {dfl : List D} {G : PI'} {wk : WAs} (C : MakeK X.prog X.w X.K X.mg X.base ci k x c 0 ks ix dfl G) (hr : Room (k + 1) X.A) (hg : Gl X x) (hk : RK ci X kws wk) (hn : ks.length = kws.length := by kernel_rfl)
    (hall : (backToKw pos (keywordEach kws X.env)).all (fun z => z.1.isSome) = true := by kernel_rfl) (hks : (backToKw pos (keywordEach kws X.env)).filterMap (fun z => z.1) = ks := by rfl) (hdb : (x == ("__debug__" : Str)) = false := by decide +kernel)
    (hpl : ((backTo pos (starEach [] X.env)).any (fun z => z.1) || (backToKw pos (keywordEach kws X.env)).any (fun z => z.1.isNone)) = false := by kernel_rfl) : RE ci X (.Call (.Name x p) [] kws pos) (wMakeK c ix dfl G wNil wk) := fun F ex xo T Γ S σ H Q r q => by
  obtain ⟨f, fd, ps, its, h1, h2, h3, h4, h5⟩ := C.ex
  refine wpX_of (pe_makeK0 (E := fun cls d H => ExW F ex cls d H) h2 h1 hr hg h3 h4 (passX xo) pk_wp hall hks hdb hpl) (wpK_mono (hk F ex xo T Γ S σ H _ r q) fun zs H2 ⟨bs, S2, hz, hm, r2, q2⟩ => ?_)
  refine ⟨rfl, by rw [← hz, hm, hn], fun y dx hx hdx hne => ?_⟩
  show spI X.K ci c G (sel (0 :: ix.map (· + 1)) ((V.ref y :: []) ++ dfl.map D.v ++ zs)) _ _ _
  rw [sel_succ]
  exact makeK_end (as := []) (vs := []) C.len rfl hz h5 hx hdx hne r2 q2
theorem re_makeK {k n c : Nat} {x : Str} {p pos : Pos} {e : Expr} {es : List Expr} {kws : List Keyword} {ks : List Str} {ix : List Nat} {dfl : List D} {G : PI'} {ws wk : WAs} (C : MakeK X.prog X.w X.K X.mg X.base ci k x c n ks ix dfl G) (hr : Room (k + 1) X.A) (hg : Gl X x) (ha : RA ci X (e :: es) ws) (hk : RK ci X kws wk) (hn0 : n = (e :: es).length := by rfl) (hn : ks.length = kws.length := by kernel_rfl)
    (hall : (backToKw pos (keywordEach kws X.env)).all (fun z => z.1.isSome) = true := by kernel_rfl) (hks : (backToKw pos (keywordEach kws X.env)).filterMap (fun z => z.1) = ks := by rfl) (hdb : (x == ("__debug__" : Str)) = false := by decide +kernel) (he : starEach (e :: es) X.env = (false, eval e X.env) :: starEach es X.env := by rfl)
    (hpl : ((backTo pos (starEach (e :: es) X.env)).any (fun z => z.1) || (backToKw pos (keywordEach kws X.env)).any (fun z => z.1.isNone)) = false := by kernel_rfl) : RE ci X (.Call (.Name x p) (e :: es) kws pos) (wMakeK c ix dfl G ws wk) := fun F ex xo T Γ S σ H Q r q => by
  obtain ⟨f, fd, ps, its, h1, h2, h3, h4, h5⟩ := C.ex
  refine wpX_of (L2.pe_makeK (E := fun cls d H => ExW F ex cls d H) h2 h1 hr hg h3 h4 (passX xo) pa_wp pk_wp hall hks hdb he hpl) (wpA_mono (ha F ex xo T Γ S σ H _ r q) fun vs H1 ⟨as, S1, hz1, hm1, r1, q1⟩ => wpK_mono (hk F ex xo _ Γ S1 σ H1 _ r1 q1) fun zs H2 ⟨bs, S2, hz, hm, r2, q2⟩ => ?_)
  refine ⟨by rw [← hz1, hm1, hn0], by rw [← hz, hm, hn], fun y dx hx hdx hne => ?_⟩
  show spI X.K ci c G (sel (0 :: ix.map (· + 1)) ((V.ref y :: vs) ++ dfl.map D.v ++ zs)) _ _ _
  rw [sel_succ]
  exact makeK_end C.len hz1 hz h5 hx hdx hne r2 q2
end
end LP

namespace LP
open PySem PySem.Spec PyProof.Rows L2
section
variable {ci : Ci} {X : Cx}
/-! comprehensions, their own names told -/
theorem rp_lcv (own : List (Str × Nat)) {elt tg iter : Expr} {ifs : List Expr} {scope : Scope} {pos : Pos} {fi : QI} {t : TgF} {ws : List Nat} {b : QB} {f : QF} (hv : own.map (·.2) = ws) (hc : X.calm = true) (hN : X.N.Nodup) (hi : RI ci X tg iter fi) (ok : blkC X.N X.env.scope scope own = true)
    (hg : BlkX X scope fun Y => RG ci Y tg t ws) (hb : BlkX X scope fun Y => RC ci Y ifs b) (hf : BlkX X scope fun Y => RP ci Y elt f) (hs : ∀ x, foldedSetIterable iter X.env x = pure x := by intro _; rfl) :
    RP ci X (.ListComp elt [⟨tg, iter, ifs, 0⟩] scope pos) (fComp fi t ws b f) := by
  subst hv
  exact rp_lc hc hN hi (blkOk_by ok) hg hb hf (fun i h => h) hs
theorem re_lcv (own : List (Str × Nat)) {elt tg iter : Expr} {ifs : List Expr} {scope : Scope} {pos : Pos} {wi : WI} {t : TgF} {ws : List Nat} {b : WT} {w : WE} (hv : own.map (·.2) = ws) (hc : X.calm = true) (hN : X.N.Nodup) (hi : RIE ci X tg iter wi) (ok : blkC X.N X.env.scope scope own = true)
    (hg : BlkX X scope fun Y => RG ci Y tg t ws) (hb : BlkX X scope fun Y => RCE ci Y ifs b) (hf : BlkX X scope fun Y => RE ci Y elt w) (hs : ∀ x, foldedSetIterable iter X.env x = pure x := by intro _; rfl) :
    RE ci X (.ListComp elt [⟨tg, iter, ifs, 0⟩] scope pos) (wLc wi t ws b w) := by
  subst hv
  exact re_lc hc hN hi (blkOk_by ok) hg hb hf (fun i h => h) hs
theorem rs_asgLcv (i : Nat) (own : List (Str × Nat)) {y : Str} {py : Pos} {elt tg iter : Expr} {ifs : List Expr} {scope : Scope} {pos spos : Pos} {wi : WI} {t : TgF} {ws : List Nat} {b : WT} {w : WE} (hv : own.map (·.2) = ws) (hc : X.calm = true) (hN : X.N.Nodup) (hi : RIE ci X tg iter wi) (ok : blkC X.N X.env.scope scope own = true)
    (hg : BlkX X scope fun Y => RG ci Y tg t ws) (hb : BlkX X scope fun Y => RCE ci Y ifs b) (hf : BlkX X scope fun Y => RE ci Y elt w) (hsw : swapsWith (.ListComp elt [⟨tg, iter, ifs, 0⟩] scope pos) (some (.Name y py)) spos.line X.env = pure true) (hy : X.N[i]? = some y := by rfl) (hyl : X.env.scope.names.lookup y = some .local := by kernel_rfl)
    (hs : ∀ x, foldedSetIterable iter X.env x = pure x := by intro _; rfl) :
    RS ci X (.Assign [.Name y py] (.ListComp elt [⟨tg, iter, ifs, 0⟩] scope pos) spos) (wAsg i (wLc wi t ws b w)) := by
  subst hv
  exact rs_asgLc i hc hN hi (blkOk_by ok) hg hb hf hsw hy hyl (fun i h => h) hs
theorem rs_asgLcPv (i : Nat) (own : List (Str × Nat)) {y : Str} {py : Pos} {elt tg iter : Expr} {ifs : List Expr} {scope : Scope} {pos spos : Pos} {fi : QI} {t : TgF} {ws : List Nat} {b : QB} {f : QF} (hv : own.map (·.2) = ws) (hc : X.calm = true) (hN : X.N.Nodup) (hi : RI ci X tg iter fi) (ok : blkC X.N X.env.scope scope own = true)
    (hg : BlkX X scope fun Y => RG ci Y tg t ws) (hb : BlkX X scope fun Y => RC ci Y ifs b) (hf : BlkX X scope fun Y => RP ci Y elt f) (hsw : swapsWith (.ListComp elt [⟨tg, iter, ifs, 0⟩] scope pos) (some (.Name y py)) spos.line X.env = pure true) (hy : X.N[i]? = some y := by rfl) (hyl : X.env.scope.names.lookup y = some .local := by kernel_rfl)
    (hs : ∀ x, foldedSetIterable iter X.env x = pure x := by intro _; rfl) :
    RS ci X (.Assign [.Name y py] (.ListComp elt [⟨tg, iter, ifs, 0⟩] scope pos) spos) (wAsg i (wP (fComp fi t ws b f))) := by
  subst hv
  exact rs_asgLcP i hc hN hi (blkOk_by ok) hg hb hf hsw hy hyl (fun i h => h) hs
end
end LP

namespace LP
open PySem PySem.Spec PyProof.Rows L2 SX
/-! plain laws: equality of flat data, loops, effectful comprehensions, texts by their signs -/
/-- equality: of flat things, or of any data -/
def gEqU (neg : Bool) (S : So) (a b : A) : Option D := match a, b with
  | .d x, .d y => if x.flat = true ∧ y.flat = true ∧ scal x.v y.v = true then some (.bl (if neg then !decide (x.v = y.v) else decide (x.v = y.v))) else gEq neg S (.d x) (.d y)
  | a, b => gEq neg S a b
section
variable {ci : Ci} {X : Cx}
theorem Rel.atFlat {K : PySem.W.Frag} {F : Fr K ci} {T : List (A × V)} {Γ : Ga} {S : So} {σ : L2.St} {H : Hp} {d : D} {v : V} (r : Rel F T Γ S σ H) (h : (A.d d, v) ∈ T) (hf : d.flat = true) : v = d.v := by
  obtain ⟨ρ, r⟩ := r
  exact Rep.flat hf (r.top h)
theorem o_eqU (hu : X.A.units + 64 < cLine) : OpG ci X (compareOp .Eq) (gEqU false) := by
  obtain ⟨r, h1, h2⟩ := o_eq (ci := ci) hu
  refine ⟨_, op_eq.or h1, fun F T Γ S σ H x y a b d rr hx hy e Q kk => ?_⟩
  unfold gEqU at e
  split at e
  · split at e
    · rename_i hc
      cases e
      rw [rr.atFlat hx hc.1, rr.atFlat hy hc.2.1]
      exact .inl ⟨hc.2.2, kk _ _ (rr.bl _)⟩
    · exact .inr (h2 F T Γ S σ H x y _ _ d rr hx hy e Q kk)
  · exact .inr (h2 F T Γ S σ H x y _ _ d rr hx hy e Q kk)
theorem o_neU (hu : X.A.units + 64 < cLine) : OpG ci X (compareOp .NotEq) (gEqU true) := by
  obtain ⟨r, h1, h2⟩ := o_ne (ci := ci) hu
  refine ⟨_, op_ne.or h1, fun F T Γ S σ H x y a b d rr hx hy e Q kk => ?_⟩
  unfold gEqU at e
  split at e
  · split at e
    · rename_i hc
      cases e
      rw [rr.atFlat hx hc.1, rr.atFlat hy hc.2.1]
      exact .inl ⟨hc.2.2, kk _ _ (rr.bl _)⟩
    · exact .inr (h2 F T Γ S σ H x y _ _ d rr hx hy e Q kk)
  · exact .inr (h2 F T Γ S σ H x y _ _ d rr hx hy e Q kk)
end
theorem gEq_ii (neg : Bool) (S : So) (i j : Int) : gEqU neg S (.d (.int i)) (.d (.int j)) = some (.bl (if neg then !decide (i = j) else decide (i = j))) := by
  simp [gEqU, D.flat, D.v, scal]
theorem gEq_ss (neg : Bool) (S : So) (i j : Str) : gEqU neg S (.d (.str i)) (.d (.str j)) = some (.bl (if neg then !decide (i = j) else decide (i = j))) := by
  simp [gEqU, D.flat, D.v, scal]
theorem gEq_bb (neg : Bool) (S : So) (i j : Bool) : gEqU neg S (.d (.bl i)) (.d (.bl j)) = some (.bl (if neg then !decide (i = j) else decide (i = j))) := by
  simp [gEqU, D.flat, D.v, scal]
theorem gEq_nn (neg : Bool) (S : So) : gEqU neg S (.d .non) (.d .non) = some (.bl (!neg)) := by
  cases neg <;> simp [gEqU, D.flat, D.v, scal]
theorem chain_le (fa fb fc : QF) (Γ : Ga) (S : So) : fChain gLe gLe fa fb fc Γ S = (fa Γ S).bind fun x => (fb Γ S).bind fun y => match x, y with
    | .d (.int a), .d (.int b) => if a ≤ b then (fc Γ S).bind fun z => match z with | .d (.int c) => some (.d (.bl (decide (b ≤ c)))) | _ => none else some (.d (.bl false))
    | _, _ => none := by
  unfold fChain
  congr 1; funext x; congr 1; funext y
  unfold gLe gI
  split
  · rename_i a b
    simp only [if_true, Option.bind_some]
    by_cases h : a ≤ b
    · simp only [h, decide_true, if_true]
      congr 1; funext z
      match z with
      | .d (.int c) => rfl
      | .d .non => rfl
      | .d (.bl _) => rfl
      | .d (.str _) => rfl
      | .d (.tup _) => rfl
      | .d (.lst _) => rfl
      | .d (.ins _ _) => rfl
      | .d (.dic _ _) => rfl
      | .loc _ => rfl
    · simp only [h, decide_false, if_false]
  · rename_i h1
    first
      | rfl
      | (split
         · exact (h1 _ _ rfl rfl).elim
         · rfl)
def setA (S : So) (a j b : A) : Option So := match a, j with
  | .loc k, .d (.int n) => match S[k]? with
    | some (.lst l) => (ixN l.length n).map fun m => S.set k (.lst (l.set m b))
    | _ => none
  | _, _ => none
theorem setIx_eq (wo wi we : WE) (Γ : Ga) (S : So) (E : Dn) : wSetIx wo wi we Γ S E = we Γ S E.ex fun b S1 => wo Γ S1 E.ex fun a S2 => wi Γ S2 E.ex fun j S3 => ∃ S4, setA S3 a j b = some S4 ∧ E.nx Γ S4 := by
  unfold wSetIx
  congr 1; funext b S1; congr 1; funext a S2; congr 1; funext j S3
  apply propext
  constructor
  · rintro ⟨k, l, n, m, rfl, rfl, e1, e2, q⟩
    exact ⟨_, by simp [setA, e1, e2], q⟩
  · rintro ⟨S4, e, q⟩
    unfold setA at e
    split at e
    · rename_i k n
      split at e
      · rename_i l el
        cases e2 : ixN l.length n with
        | none => rw [e2] at e; cases e
        | some m => rw [e2] at e; cases e; exact ⟨k, l, n, m, rfl, rfl, el, e2, q⟩
      · cases e
    · cases e
/-- loops -/
theorem loop_inv {it : So → Option (List D)} {ds : List D} {t : TgF} {body : WS} {E : Dn} (I : List D → Ga → So → Prop)
    (h : ∀ d r Γ S (nx : Ga → So → Prop), I (d :: r) Γ S → (∀ Γ2 S2, it S2 = some ds → I r Γ2 S2 → nx Γ2 S2) → ∃ Γ', t Γ d = some Γ' ∧ body Γ' S { E with nx := fun Γ2 S2 => nx Γ2 S2, ct := fun Γ2 S2 => nx Γ2 S2, bk := E.nx })
    (he : ∀ Γ S, I [] Γ S → E.nx Γ S) : ∀ (r : List D) (Γ : Ga) (S : So), I r Γ S → wLoop it ds t body r Γ S E
  | [], Γ, S, i => he Γ S i
  | d :: r, Γ, S, i => by
    unfold wLoop
    exact h d r Γ S (fun Γ2 S2 => it S2 = some ds ∧ wLoop it ds t body r Γ2 S2 E) i (fun Γ2 S2 e i2 => ⟨e, loop_inv I h he r Γ2 S2 i2⟩)
/-- comprehensions with effects -/
theorem lc_inv {it : So → Option (List D)} {ds : List D} {t : TgF} {vs : List Nat} {w : WE} {Γ : Ga} {Q : AK} (I : List D → List D → So → Prop)
    (h : ∀ acc d r S (k : D → So → Prop), I acc (d :: r) S → (∀ x S2, it S2 = some ds → I (acc ++ [x]) r S2 → k x S2) → ∃ Γ', t (wipeG Γ vs) d = some Γ' ∧ w Γ' S noEx fun a S2 => ∃ x, a = .d x ∧ k x S2)
    (he : ∀ acc S, I acc [] S → Q (.d (.lst acc)) S) : ∀ (r acc : List D) (S : So), I acc r S → wLcL it ds t vs (fun _ S _ Q => Q true S) w Γ Q acc r S
  | [], acc, S, i => by unfold wLcL; exact he acc S i
  | d :: r, acc, S, i => by
    unfold wLcL
    obtain ⟨Γ', e, q⟩ := h acc d r S (fun x S2 => it S2 = some ds ∧ wLcL it ds t vs (fun _ S _ Q => Q true S) w Γ Q (acc ++ [x]) r S2) i (fun x S2 e i2 => ⟨e, lc_inv I h he r (acc ++ [x]) S2 i2⟩)
    refine ⟨Γ', e, ?_⟩
    show (if true = true then _ else _)
    rw [if_pos rfl]
    exact q
/-- the law's own def: a script of whole numbers -/
theorem reps_ints {K : PySem.W.Frag} {ci : Ci} {M : List Addr} {H : Hp} : ∀ ns : List Int, Reps K ci M H (ns.map .int) (ns.map V.int)
  | [] => by rw [List.map_nil, Reps]; rfl
  | n :: ns => by
    rw [List.map_cons, Reps]
    exact ⟨.int n, ns.map V.int, rfl, (by rw [Rep]), reps_ints ns⟩
def spLaw (K : PySem.W.Frag) (m : Nat) : Sp := fun vs H Q _ => ∃ (a : Addr) (ns : List Int), vs = [.ref a] ∧ ns.length ≤ m ∧ SqL K H a (ns.map V.int) ∧ ∀ H', Q (.bl true) H'
def fc_law (m : Nat) : FC := fun as S _ Q => ∃ cs : List Int, as = [.loc 0] ∧ S = [.scr (cs.map .int)] ∧ cs.length ≤ m ∧ ∀ S', Q (.d (.bl true)) S'
theorem law_sp {K : PySem.W.Frag} {ci : Ci} {m : Nat} {vs : List V} {H : Hp} {Q : VK} {E : XK} (h : spLaw K m vs H Q E) : spOf K ci (fc_law m) vs H Q E := by
  obtain ⟨a, ns, rfl, hl, hS, hQ⟩ := h
  refine ⟨[.loc 0], [.scr (ns.map .int)], [a], [], fun b _ => b = .d (.bl true), fun _ _ => False, rfl, ?_, ⟨ns, rfl, rfl, hl, fun _ => rfl⟩, ?_, ?_⟩
  · refine ⟨List.prefix_refl _, rfl, List.nodup_nil, ?_, rfl, fun i b e => by simp at e, ?_, fun x o e _ => e, fun p hp => (by cases hp), fun p hp => (by cases hp)⟩
    · intro k p o h1 h2
      cases k with
      | zero =>
        cases h1; cases h2
        refine ⟨ns.map V.int, ?_, reps_ints ns⟩
        exact (sql_iff.mp hS).imp (fun h => ⟨h, by simp [mu, mutA, MO.live]⟩) id
      | succ k => simp at h1
    · intro q hq
      rw [List.zip_cons_cons, List.mem_cons] at hq
      rcases hq with rfl | hq
      · exact ⟨a, rfl, rfl⟩
      · cases hq
  · rintro v H' ⟨b, S', r, rfl⟩
    have := r.asBl (i := true) List.mem_cons_self
    subst this
    exact hQ H'
  · rintro cls dd H' ⟨er, S', ρ, _, _, z⟩
    exact z.elim
theorem FnOk.weak {P : Program} {w : World} {K : PySem.W.Frag} {mg : Str → Option Value} {base : Heap} {k : Nat} {f : Addr} {fd : FuncData} {ps : List Str} {sp sp' : Sp} (F : FnOk P w K mg base (L2.CX P w) k f fd ps sp) (h : ∀ vs H Q E, sp' vs H Q E → sp vs H Q E) : FnOk P w K mg base (L2.CX P w) k f fd ps sp' :=
  ⟨fun vs H Q E q => F.len vs H Q E (h vs H Q E q), fun A outer s H args us vs Q E hr e b v q => F.run A outer s H args us vs Q E hr e b v (h vs H Q E q)⟩
/-- texts by their signs -/
theorem in_sign (neg : Bool) (S0 : So) (z : Str) (c : Nat) : gInU neg S0 (.d (.str ⟨#[c]⟩)) (.d (.str z)) = some (.bl (if neg then !decide (c ∈ z.cps.toList) else decide (c ∈ z.cps.toList))) := by
  have := in_one z.cps.toList c
  rw [S_tl] at this
  unfold gInU gInS
  cases neg <;> simp [this]
end LP

namespace LP
open PySem PySem.Spec PyProof.Rows L2
/-! methods that change things, or raise -/
def clsA (S : So) : A → Option Nat
  | .d (.ins c _) => some c
  | .loc k => match S[k]? with
    | some (.ins c _) => some c
    | some (.frz (.ins c _)) => some c
    | _ => none
  | _ => none
def wMethM (mt : Nat → Option (List D × FC)) (fo : QF) (ws : WAs) : WE := fun Γ S ex Q => ∃ a c dfl fc, fo Γ S = some a ∧ clsA S a = some c ∧ mt c = some (dfl, fc) ∧ ws Γ S ex fun as S2 => fc (a :: (as ++ dfl.map A.d)) S2 ex Q
def wMethR (mt : Nat → Option (List D × PC)) (fo : QF) (ws : WAs) : WE := fun Γ S ex Q => ∃ x c dfl G, fo Γ S = some (.d x) ∧ clsA S (.d x) = some c ∧ mt c = some (dfl, G) ∧ ws Γ S ex fun as S2 => ∃ l o, dataOf as = some l ∧ G (x :: (l ++ dfl)) = some o ∧ match o with | .ok d => Q (.d d) S2 | .error er => ex er S2
/-- the class is told -/
def wMethC (c : Nat) (dfl : List D) (fc : FC) (wo : WE) (ws : WAs) : WE := fun Γ S ex Q => wo Γ S ex fun a S1 => clsA S1 a = some c ∧ ws Γ S1 ex fun as S2 => fc (a :: (as ++ dfl.map A.d)) S2 ex Q
theorem cls_at {K : PySem.W.Frag} {ci : Ci} {F : Fr K ci} {T : List (A × V)} {Γ : Ga} {S : So} {σ : L2.St} {H : Hp} {a : A} {v : V} {c : Nat} (r : Rel F T Γ S σ H) (h : (a, v) ∈ T) (e : clsA S a = some c) : ∃ p dx vs, v = .ref p ∧ H p = some (.ins (ci c).1 dx ((ci c).2.zip vs)) := by
  obtain ⟨ρ, r⟩ := r
  have q := r.tl (a, v) h
  unfold clsA at e
  split at e
  · cases e
    exact ins_at q
  · rename_i k
    obtain ⟨p, hp, rfl⟩ := q
    split at e
    · rename_i c' fs hs
      cases e
      obtain ⟨dx, vs, e1, _, _⟩ := r.st k p _ hp hs
      exact ⟨p, dx, vs, rfl, e1⟩
    · rename_i c' fs hs
      cases e
      have z := r.st k p _ hp hs
      rw [MRep] at z
      exact ins_at z
    · cases e
  · cases e
section
variable {ci : Ci} {X : Cx}
theorem re_methM {k : Nat} {m : Str} {o e : Expr} {es : List Expr} {apos pos : Pos} {mt : Nat → Option (List D × FC)} {fo : QF} {ws : WAs} {pl : Sem Bool} (hM : ∀ c dfl fc, mt c = some (dfl, fc) → MethP X.prog X.w X.K X.mg X.base ci k c m dfl (spOf X.K ci fc)) (hr : Room k X.A) (ho : RP ci X o fo) (ha : RA ci X (e :: es) ws)
    (hst : starEach (e :: es) X.env = (false, eval e X.env) :: starEach es X.env := by kernel_rfl) (hpl : (backTo pos (starEach es X.env)).any (·.1) = false := by kernel_rfl)
    (ht : eval (.Call (.Attribute o m apos) (e :: es) [] pos) X.env = (do
      let ov ← eval o X.env
      standAt apos.atName
      let (f, first) ← holding [ov] (getMethod ov m pl)
      callWith pos f first (backTo pos (starEach (e :: es) X.env)) (backToKw pos (keywordEach [] X.env))) := by rfl) : RE ci X (.Call (.Attribute o m apos) (e :: es) [] pos) (wMethM mt fo ws) := fun F ex xo T Γ S σ H Q r q => by
  obtain ⟨a, c, dfl, fc, e1, e2, e3, q1⟩ := q
  obtain ⟨f, fd, ps, ds, h1, h2, h3, h4, h5, h6, h7⟩ := (hM c dfl fc e3).ex
  refine wpX_of (pe_meth (E := fun cls d H => ExW F ex cls d H) pe_wp h2 h3 h1 hr h5 h6 (passX xo) pa_wp hst hpl ht) (wpX_mono (ho F T Γ S σ H _ r e1) fun v H1 r1 => ?_)
  obtain ⟨p, dx, vs, rfl, hp⟩ := cls_at r1 (a := a) List.mem_cons_self e2
  refine ⟨p, dx, _, rfl, hp, zip_lookup_none h4, wpA_mono (ha F ex xo _ Γ S σ H1 _ r1 q1) fun us H2 ⟨as, S2, hz, _, r2, q2⟩ => ?_⟩
  refine spOf_of (as := a :: as) (vs := .ref p :: us) r2 (by simpa using hz) (fun q hq => ?_) h7 q2 (fun b S' v H3 r3 h => ⟨b, S', r3.drop fun x hx => ?_, h⟩) fun cls dd H3 h => h
  · rw [List.zip_cons_cons] at hq
    rcases List.mem_cons.mp hq with rfl | hq
    · simp
    · exact List.mem_append_left _ hq
  · rcases List.mem_cons.mp hx with rfl | hx
    · exact List.mem_cons_self
    · simp [hx]
theorem re_methM0 {k : Nat} {m : Str} {o : Expr} {apos pos : Pos} {mt : Nat → Option (List D × FC)} {fo : QF} {pl : Sem Bool} (hM : ∀ c dfl fc, mt c = some (dfl, fc) → MethP X.prog X.w X.K X.mg X.base ci k c m dfl (spOf X.K ci fc)) (hr : Room k X.A) (ho : RP ci X o fo)
    (ht : eval (.Call (.Attribute o m apos) [] [] pos) X.env = (do
      let ov ← eval o X.env
      standAt apos.atName
      let (f, first) ← holding [ov] (getMethod ov m pl)
      callWith pos f first (backTo pos (starEach [] X.env)) (backToKw pos (keywordEach [] X.env))) := by rfl) : RE ci X (.Call (.Attribute o m apos) [] [] pos) (wMethM mt fo wNil) := fun F ex xo T Γ S σ H Q r q => by
  obtain ⟨a, c, dfl, fc, e1, e2, e3, q1⟩ := q
  obtain ⟨f, fd, ps, ds, h1, h2, h3, h4, h5, h6, h7⟩ := (hM c dfl fc e3).ex
  refine wpX_of (pe_meth0 (E := fun cls d H => ExW F ex cls d H) pe_wp h2 h3 h1 hr h5 h6 (passX xo) ht) (wpX_mono (ho F T Γ S σ H _ r e1) fun v H1 r1 => ?_)
  obtain ⟨p, dx, vs, rfl, hp⟩ := cls_at r1 (a := a) List.mem_cons_self e2
  refine ⟨p, dx, _, rfl, hp, zip_lookup_none h4, ?_⟩
  exact spOf_of (as := [a]) (vs := [.ref p]) r1 rfl (fun q hq => by simp at hq; simp [hq]) h7 q1 (fun b S' v H3 r3 h => ⟨b, S', r3.drop drop2, h⟩) fun cls dd H3 h => h
theorem re_methC {k c : Nat} {m : Str} {o e : Expr} {es : List Expr} {apos pos : Pos} {dfl : List D} {fc : FC} {wo : WE} {ws : WAs} {pl : Sem Bool} (hM : MethP X.prog X.w X.K X.mg X.base ci k c m dfl (spOf X.K ci fc)) (hr : Room k X.A) (ho : RE ci X o wo) (ha : RA ci X (e :: es) ws)
    (hst : starEach (e :: es) X.env = (false, eval e X.env) :: starEach es X.env := by kernel_rfl) (hpl : (backTo pos (starEach es X.env)).any (·.1) = false := by kernel_rfl)
    (ht : eval (.Call (.Attribute o m apos) (e :: es) [] pos) X.env = (do
      let ov ← eval o X.env
      standAt apos.atName
      let (f, first) ← holding [ov] (getMethod ov m pl)
      callWith pos f first (backTo pos (starEach (e :: es) X.env)) (backToKw pos (keywordEach [] X.env))) := by rfl) : RE ci X (.Call (.Attribute o m apos) (e :: es) [] pos) (wMethC c dfl fc wo ws) := fun F ex xo T Γ S σ H Q r q => by
  obtain ⟨f, fd, ps, ds, h1, h2, h3, h4, h5, h6, h7⟩ := hM.ex
  refine wpX_of (pe_meth (E := fun cls d H => ExW F ex cls d H) pe_wp h2 h3 h1 hr h5 h6 (passX xo) pa_wp hst hpl ht) (wpX_mono (ho F ex xo T Γ S σ H _ r q) fun v H1 ⟨a, S1, r1, e2, q1⟩ => ?_)
  obtain ⟨p, dx, vs, rfl, hp⟩ := cls_at r1 (a := a) List.mem_cons_self e2
  refine ⟨p, dx, _, rfl, hp, zip_lookup_none h4, wpA_mono (ha F ex xo _ Γ S1 σ H1 _ r1 q1) fun us H2 ⟨as, S2, hz, _, r2, q2⟩ => ?_⟩
  refine spOf_of (as := a :: as) (vs := .ref p :: us) r2 (by simpa using hz) (fun q hq => ?_) h7 q2 (fun b S' v H3 r3 h => ⟨b, S', r3.drop fun x hx => ?_, h⟩) fun cls dd H3 h => h
  · rw [List.zip_cons_cons] at hq
    rcases List.mem_cons.mp hq with rfl | hq
    · simp
    · exact List.mem_append_left _ hq
  · rcases List.mem_cons.mp hx with rfl | hx
    · exact List.mem_cons_self
    · simp [hx]
theorem re_methC0 {k c : Nat} {m : Str} {o : Expr} {apos pos : Pos} {dfl : List D} {fc : FC} {wo : WE} {pl : Sem Bool} (hM : MethP X.prog X.w X.K X.mg X.base ci k c m dfl (spOf X.K ci fc)) (hr : Room k X.A) (ho : RE ci X o wo)
    (ht : eval (.Call (.Attribute o m apos) [] [] pos) X.env = (do
      let ov ← eval o X.env
      standAt apos.atName
      let (f, first) ← holding [ov] (getMethod ov m pl)
      callWith pos f first (backTo pos (starEach [] X.env)) (backToKw pos (keywordEach [] X.env))) := by rfl) : RE ci X (.Call (.Attribute o m apos) [] [] pos) (wMethC c dfl fc wo wNil) := fun F ex xo T Γ S σ H Q r q => by
  obtain ⟨f, fd, ps, ds, h1, h2, h3, h4, h5, h6, h7⟩ := hM.ex
  refine wpX_of (pe_meth0 (E := fun cls d H => ExW F ex cls d H) pe_wp h2 h3 h1 hr h5 h6 (passX xo) ht) (wpX_mono (ho F ex xo T Γ S σ H _ r q) fun v H1 ⟨a, S1, r1, e2, q1⟩ => ?_)
  obtain ⟨p, dx, vs, rfl, hp⟩ := cls_at r1 (a := a) List.mem_cons_self e2
  refine ⟨p, dx, _, rfl, hp, zip_lookup_none h4, ?_⟩
  exact spOf_of (as := [a]) (vs := [.ref p]) r1 rfl (fun q hq => by simp at hq; simp [hq]) h7 q1 (fun b S' v H3 r3 h => ⟨b, S', r3.drop drop2, h⟩) fun cls dd H3 h => h
end
end LP

namespace LP
open PySem PySem.Spec PyProof.Rows L2
/-! len(x), repr(x) by own defs -/
section
variable {X : Cx} {CX : CXT} {k : Nat} {C f : Addr} {fd : FuncData} {ps : List Str} {sp : Sp} {E : XK}
theorem own_in1 {pins : List (Addr × Obj)} {σ : L2.St} {H : Hp} {s : Shared} {a : Addr} {Q : VK} (F : FnOk X.prog X.w X.K X.mg X.base CX k f fd ps sp) (hb : Binds X.K fd ps []) (hr : Room (k + 1) X.A) (hx : Passes CX X E) (I : Inv X pins σ H s) (h : sp [.ref a] H Q E) :
    wpAny (model X.prog X.w) X.A.in1 (call (.ref f) [.ref a]) (EP X pins σ Q) X.xe s := by
  have sb : L2.Sub X k X.A.in1 := L2.Sub.in1 ⟨hr, rfl⟩
  have e0 : Env0 X.prog X.w X.K X.mg X.base X.A.in1 X.stack s H := by
    have e := I.env0
    exact ⟨by rw [sb.fr]; exact e.frames, e.mod, e.bs, e.bsz, e.funs, e.frf, e.hok, e.bare⟩
  have hl := F.len _ _ _ _ h
  have r2 : Vals [V.ref a] [Value.ref a] := .cons rfl .nil
  refine wpAny_call (codeAny_mono (F.run X.A.in1 X.stack s H ⟨[.ref a], []⟩ [.ref a] [.ref a] Q E sb.room e0 (by
    have := hb s [.ref a] I.kIn (by simpa using hl)
    simpa using this) r2 h) fun z s2 hz => ?_)
  cases z with
  | error e => exact hx pins σ H s e s2 I hz
  | ok fl =>
    cases fl with
    | ret u => exact I.after hz
    | next => cases hz
    | brk => cases hz
    | cont => cases hz
theorem call_lenOwn (F : FnOk X.prog X.w X.K X.mg X.base CX k f fd ps sp) (hm : Meth X.K C "__len__" f) (hb : Binds X.K fd ps []) (hr : Room (k + 1) X.A) (hx : Passes CX X E) :
    CallR X (.builtin "len") (fun xs H Q => ∃ a dx fs, xs = [.ref a] ∧ H a = some (.ins C dx fs) ∧ sp [.ref a] H (fun v H' => ∃ n : Int, v = .int n ∧ 0 ≤ n ∧ n < 2 ^ 63 ∧ Q (.int n) H') E) := by
  intro pins s σ H xs us Q I r h
  obtain ⟨a, dx, fs, rfl, ha, h⟩ := h
  cases r with
  | cons r1 r2 =>
    cases r2
    cases r1
    obtain ⟨mA, J, _⟩ := ins_get I.hok ha
    obtain ⟨od, J, _⟩ := J.look
    obtain ⟨m, hF⟩ := I.fr
    refine PySem.W.len_K hF I.ok.mod.kin J hm.at_ hm.fn (wpAny_mono (own_in1 F hb hr hx I h) (fun v s2 hv => ?_) fun _ _ y => y)
    obtain ⟨w, H2, I2, rv, n, rfl, h0, h1, q⟩ := hv
    obtain ⟨t, rfl⟩ := rv
    exact ⟨⟨h0, h1⟩, .int n, H2, I2.tok _, ⟨_, rfl⟩, q⟩
theorem call_reprOwn (F : FnOk X.prog X.w X.K X.mg X.base CX k f fd ps sp) (hm : Meth X.K C "__repr__" f) (hb : Binds X.K fd ps []) (hr : Room (k + 1) X.A) (hx : Passes CX X E) :
    CallR X (.builtin "repr") (fun xs H Q => ∃ a dx fs, xs = [.ref a] ∧ H a = some (.ins C dx fs) ∧ sp [.ref a] H (fun v H' => ∃ t : Str, v = .str t ∧ Q (.str t) H') E) := by
  intro pins s σ H xs us Q I r h
  obtain ⟨a, dx, fs, rfl, ha, h⟩ := h
  cases r with
  | cons r1 r2 =>
    cases r2
    cases r1
    obtain ⟨mA, J, _⟩ := ins_get I.hok ha
    obtain ⟨od, J, _⟩ := J.look
    obtain ⟨m, hF⟩ := I.fr
    refine PySem.W.repr_K hr.in1.units0 hF I.ok.mod.kin J hm.at_ hm.fn (wpAny_mono (own_in1 F hb hr hx I h) (fun v s2 hv => ?_) fun _ _ y => y)
    obtain ⟨w, H2, I2, rv, n, rfl, q⟩ := hv
    obtain ⟨t, rfl⟩ := rv
    exact ⟨.str n, H2, I2, ⟨_, rfl⟩, q⟩
end
section
variable {ci : Ci} {X : Cx}
/-- an own def that answers with a whole number, a text -/
def gOwnI (c : Nat) (G : PC) (_ : So) : List A → Option D
  | [.d (.ins c' fs)] => if c' = c then match G [.ins c' fs] with
    | some (.ok (.int n)) => if 0 ≤ n ∧ n < 2 ^ 63 then some (.int n) else none
    | _ => none else none
  | _ => none
def gOwnS (c : Nat) (G : PC) (_ : So) : List A → Option D
  | [.d (.ins c' fs)] => if c' = c then match G [.ins c' fs] with
    | some (.ok (.str t)) => some (.str t)
    | _ => none else none
  | _ => none
theorem cg_len {k c : Nat} {G : PC} (M : MethP X.prog X.w X.K X.mg X.base ci k c "__len__" [] (spP X.K ci G)) (hr : Room (k + 1) X.A) : CallG ci X (.builtin "len") (gOwnI c G) := by
  obtain ⟨f, fd, ps, ds, h1, h2, h3, h4, h5, h6, h7⟩ := M.ex
  cases h6
  refine ⟨_, call_lenOwn (E := E0) h1 h3 h5 hr passL, fun F T Γ S σ H as vs d r hl hT e Q kk => ?_⟩
  unfold gOwnI at e
  split at e
  · rename_i c' fs
    split at e
    · rename_i hc
      subst hc
      split at e
      · rename_i n eG
        split at e
        · rename_i hn
          cases e
          match vs, hl with
          | [v], _ =>
            obtain ⟨p, dx, us, rfl, hp⟩ := cls_at r (hT (.d (.ins c' fs), v) (by simp)) rfl
            refine ⟨p, dx, _, rfl, hp, ?_⟩
            refine spP_all (l := [.ins c' fs]) (vs := [.ref p]) (o := .ok (.int n)) r rfl (fun q hq => hT q (by simpa using hq)) eG (fun d' ed v H3 r3 => ?_) fun er z => by cases z
            cases ed
            have := r3.asInt List.mem_cons_self
            exact ⟨n, this, hn.1, hn.2, kk _ _ (by rw [← this]; exact r3)⟩
        · cases e
      · cases e
    · cases e
  · cases e
theorem cg_repr {k c : Nat} {G : PC} (M : MethP X.prog X.w X.K X.mg X.base ci k c "__repr__" [] (spP X.K ci G)) (hr : Room (k + 1) X.A) : CallG ci X (.builtin "repr") (gOwnS c G) := by
  obtain ⟨f, fd, ps, ds, h1, h2, h3, h4, h5, h6, h7⟩ := M.ex
  cases h6
  refine ⟨_, call_reprOwn (E := E0) h1 h3 h5 hr passL, fun F T Γ S σ H as vs d r hl hT e Q kk => ?_⟩
  unfold gOwnS at e
  split at e
  · rename_i c' fs
    split at e
    · rename_i hc
      subst hc
      split at e
      · rename_i n eG
        cases e
        match vs, hl with
        | [v], _ =>
          obtain ⟨p, dx, us, rfl, hp⟩ := cls_at r (hT (.d (.ins c' fs), v) (by simp)) rfl
          refine ⟨p, dx, _, rfl, hp, ?_⟩
          refine spP_all (l := [.ins c' fs]) (vs := [.ref p]) (o := .ok (.str n)) r rfl (fun q hq => hT q (by simpa using hq)) eG (fun d' ed v H3 r3 => ?_) fun er z => by cases z
          cases ed
          have := r3.asStr (i := n) List.mem_cons_self
          exact ⟨n, this, kk _ _ (by rw [← this]; exact r3)⟩
      · cases e
    · cases e
  · cases e
end
end LP

namespace LP
open PySem PySem.Spec PyProof.Rows L2
/-! list(x) as a thing that may change; an item of a list that holds such things -/
section
variable {ci : Ci} {X : Cx}
def wListN (ws : WAs) : WE := fun Γ S ex Q => ws Γ S ex fun as S1 => ∃ a l, as = [a] ∧ viewQ S1 a = some l ∧ Q (.loc S1.length) (S1 ++ [.lst (l.map .d)])
theorem re_listN {p pos : Pos} {e : Expr} {ws : WAs} (hg : Gl X "list") (hm : X.mg "list" = none) (ha : RA ci X [e] ws)
    (he : starEach [e] X.env = (false, eval e X.env) :: starEach [] X.env := by rfl) (hpl : (backTo pos (starEach [] X.env)).any (fun z => z.1) = false := by rfl) : RE ci X (.Call (.Name "list" p) [e] [] pos) (wListN ws) := fun F ex xo T Γ S σ H Q r q => by
  refine wpX_of (pe_callTy call_list_of hg hm (by decide +kernel) pa_wp (by decide) (by decide) he hpl) (wpA_mono (ha F ex xo T Γ S σ H _ r q) fun vs H' ⟨as, S1, hz, hn, r1, a, l, ea, e1, q1⟩ => ?_)
  subst ea
  match vs, hz with
  | [v], _ =>
    obtain ⟨ρ, r2⟩ := r1
    obtain ⟨p, ys, rfl, hq, R⟩ := r2.viewQ (r2.top (a := a) (v := v) (by simp)) e1
    exact ⟨p, ys, rfl, hq, fun p2 hp => ⟨_, _, (r2.newLM hp (AReps.ofData R)).drop drop2, q1⟩⟩
def ixA (S : So) (a b : A) : Option A := match a, b with
  | .loc k, .d (.int i) => match S[k]? with
    | some (.lst as) => atI as i
    | _ => none
  | _, _ => none
def fIxA (fa fb : QF) : QF := fun Γ S => (fa Γ S).bind fun a => (fb Γ S).bind fun b => ixA S a b
theorem atI_areps {K : PySem.W.Frag} {ρ M : List Addr} {H : Hp} {l : List A} {vs : List V} {i : Int} {d : A} (R : AReps K ci ρ M H l vs) (e : atI l i = some d) : ∃ v, atI vs i = some v ∧ ARep K ci ρ M H d v := by
  unfold atI at e ⊢
  rw [← R.length]
  cases e1 : ixN l.length i with
  | none => rw [e1] at e; cases e
  | some j =>
    rw [e1, Option.bind_some] at e
    rw [Option.bind_some]
    exact R.getA e
theorem rp_ixA {a b : Expr} {pos : Pos} {fa fb : QF} (ha : RP ci X a fa) (hb : RP ci X b fb) (hs : PlainIx b := by exact fun _ _ => rfl) : RP ci X (.Subscript a b pos) (fIxA fa fb) := fun F T Γ S σ H z r q => by
  unfold fIxA at q
  cases e1 : fa Γ S with
  | none => rw [e1] at q; cases q
  | some x =>
    cases e2 : fb Γ S with
    | none => rw [e1, e2] at q; cases q
    | some y =>
      rw [e1, e2, Option.bind_some, Option.bind_some] at q
      refine wpX_of (pe_ix ix_seq pe_wp pe_wp hs) (wpX_mono (two ha hb r e1 e2) fun v H1 h1 => wpX_mono h1 fun u H2 h2 => ?_)
      unfold ixA at q
      split at q
      · rename_i k i
        have hu := h2.asInt (v := u) List.mem_cons_self
        split at q
        · rename_i as hk
          obtain ⟨ρ, r2⟩ := h2
          obtain ⟨p, hp, rfl⟩ := r2.tl (.loc k, v) (by simp)
          obtain ⟨vs, hv, R⟩ := r2.st k p _ hp hk
          obtain ⟨w, hw, rw'⟩ := atI_areps R q
          exact .inl ⟨p, vs, i, w, rfl, hu, SqL.of hv, hw, ⟨ρ, (r2.push (a := z) (v := w) rw').drop drop3⟩⟩
        · cases q
      · cases q
end
end LP

namespace LP
open PySem PySem.Spec PyProof.Rows L2
/-! things that may change, made by an own __init__ that looks at things that may change; an instance that will not change any more -/
structure MakeM (P : Program) (w : World) (K : PySem.W.Frag) (mg : Str → Option Value) (base : Heap) (ci : Ci) (k : Nat) (x : Str) (c : Nat) (dfl : List D) (fc : FC) : Prop where
  ex : ∃ (f : Addr) (fd : FuncData) (ps : List Str) (ds : List Value), FnOk P w K mg base (L2.CX P w) k f fd ps (spOf K ci fc) ∧ Mk K (ci c).1 f ∧ mg x = some (.ref (ci c).1) ∧ Binds K fd ps ds ∧ Vals (dfl.map D.v) ds ∧ dfl.all D.flat = true
def wMakeM (c : Nat) (dfl : List D) (fc : FC) (ws : WAs) : WE := fun Γ S ex Q => ws Γ S ex fun as S1 => fc (.loc S1.length :: (as ++ dfl.map A.d)) (S1 ++ [.ins c []]) ex fun r S2 => r = .d .non ∧ Q (.loc S1.length) S2
section
variable {K : PySem.W.Frag} {ci : Ci}
theorem makeM_of {F : Fr K ci} {T : List (A × V)} {Γ : Ga} {S : So} {σ : L2.St} {H : Hp} {c : Nat} {as : List A} {dfl : List D} {vs : List V} {fc : FC} {Q : VK} {E : XK} {ex : EK} {Q' : AK} {x dx : Addr} (r : Rel F T Γ S σ H) (hl : as.length = vs.length) (hT : ∀ q ∈ as.zip vs, q ∈ T) (hf : dfl.all D.flat = true)
    (e : fc (.loc S.length :: (as ++ dfl.map A.d)) (S ++ [.ins c []]) ex Q') (hx : H x = none) (hdx : H dx = none) (hne : dx ≠ x)
    (k1 : ∀ a S' v H', Rel F ((a, v) :: (.loc S.length, .ref x) :: T) Γ S' σ H' → Q' a S' → Q v H') (k2 : ∀ cls dd H', ExW F ex cls dd H' → E cls dd H') :
    spOf K ci fc (.ref x :: (vs ++ dfl.map D.v)) (upd (upd H dx (.own x)) x (.ins (ci c).1 dx [])) Q E := by
  obtain ⟨ρ, r⟩ := r
  have hx2 : (upd H dx (.own x)) x = none := by rw [upd_ne hne.symm]; exact hx
  have r1 : RelR F ρ T Γ S σ (upd H dx (.own x)) := r.alloc hdx
  have r2 : RelR F (ρ ++ [x]) T Γ (S ++ [.ins c []]) σ (upd (upd H dx (.own x)) x (.ins (ci c).1 dx [])) := r1.allocM hx2 (mo := .ins c []) rfl ⟨dx, [], by rw [upd_same, List.zip_nil_right], Nat.zero_le _, rfl⟩
  have r3 := r2.push (a := .loc S.length) (v := .ref x) ⟨x, by rw [← r.len, List.getElem?_concat_length], rfl⟩
  have := spOf_of (as := .loc S.length :: as) (vs := .ref x :: vs) (dfl := dfl) (Q := Q) (E := E) ⟨_, r3⟩ (by simp [hl]) (fun q hq => by
    rw [List.zip_cons_cons] at hq
    rcases List.mem_cons.mp hq with rfl | hq
    · exact List.mem_cons_self
    · exact List.mem_cons_of_mem _ (hT q hq)) hf e k1 k2
  exact this
def frzI (c n : Nat) (S : So) : A → Option (D × So)
  | .loc k => match S[k]? with
    | some (.ins c' as) => if c' = c ∧ as.length = n then (dataOf as).map fun l => (.ins c l, S.set k (.frz (.ins c l))) else none
    | _ => none
  | _ => none
theorem Rel.frzI {F : Fr K ci} {T : List (A × V)} {Γ : Ga} {S S' : So} {σ : L2.St} {H : Hp} {a : A} {v : V} {d : D} {c n : Nat} (hn : (ci c).2.length = n) (r : Rel F ((a, v) :: T) Γ S σ H) (e : frzI c n S a = some (d, S')) : Rel F ((.d d, v) :: T) Γ S' σ H := by
  obtain ⟨ρ, r⟩ := r
  unfold LP.frzI at e
  split at e
  · rename_i k
    obtain ⟨p, hp, rfl⟩ := r.top (a := .loc k) (v := v) List.mem_cons_self
    split at e
    · rename_i c' as hs
      split at e
      · rename_i hc
        obtain ⟨rfl, hc2⟩ := hc
        cases e1 : dataOf as with
        | none => rw [e1] at e; cases e
        | some l =>
          rw [e1] at e; cases e
          obtain ⟨dx, vs, e2, z, q⟩ := r.st k p _ hp hs
          have hq := q.length
          rw [dataOf_eq e1] at q
          have := r.freeze (d := .ins c' l) hp hs rfl fun M' hM hnn => by
            rw [Rep]
            exact ⟨p, dx, vs, rfl, e2, hnn, by omega, q.data.mono hM⟩
          exact ⟨ρ, (this.1.drop fun x hx => List.mem_cons_of_mem _ hx).push this.2⟩
      · cases e
    · cases e
  · cases e
end
def wFrzI (c n : Nat) (w : WE) : WE := fun Γ S ex Q => w Γ S ex fun a S1 => ∃ d S2, frzI c n S1 a = some (d, S2) ∧ Q (.d d) S2
section
variable {ci : Ci} {X : Cx}
theorem re_frzI {c n : Nat} {e : Expr} {w : WE} (hn : (ci c).2.length = n) (h : RE ci X e w) : RE ci X e (wFrzI c n w) := fun F ex xo T Γ S σ H Q r q => wpX_mono (h F ex xo T Γ S σ H _ r q) fun v H1 ⟨a, S1, r1, d, S2, e1, q1⟩ => ⟨_, S2, r1.frzI hn e1, q1⟩
theorem re_makeM {k c : Nat} {x : Str} {p pos : Pos} {e : Expr} {es : List Expr} {dfl : List D} {fc : FC} {ws : WAs} (C : MakeM X.prog X.w X.K X.mg X.base ci k x c dfl fc) (hr : Room (k + 1) X.A) (hg : Gl X x) (ha : RA ci X (e :: es) ws)
    (hdb : (x == ("__debug__" : Str)) = false := by decide +kernel) (he : starEach (e :: es) X.env = (false, eval e X.env) :: starEach es X.env := by rfl) (hpl : (backTo pos (starEach es X.env)).any (·.1) = false := by kernel_rfl) : RE ci X (.Call (.Name x p) (e :: es) [] pos) (wMakeM c dfl fc ws) := fun F ex xo T Γ S σ H Q r q => by
  obtain ⟨f, fd, ps, ds, h1, h2, h3, h4, h5, h6⟩ := C.ex
  refine wpX_of (pe_make (E := fun cls d H => ExW F ex cls d H) h2 h1 hr hg h3 h4 h5 (passX xo) pa_wp hdb he hpl) (wpA_mono (ha F ex xo T Γ S σ H _ r q) fun vs H' ⟨as, S1, hz, _, r1, q1⟩ x dx hx hdx hne => ?_)
  refine makeM_of r1 hz (fun q hq => List.mem_append_left _ hq) h6 q1 hx hdx hne (fun a S' v H2 r2 h => ?_) fun cls dd H2 h => h
  obtain ⟨rfl, h⟩ := h
  exact ⟨r2.asNon List.mem_cons_self, _, S', r2.drop (fun q hq => by
    rcases List.mem_cons.mp hq with rfl | hq
    · simp
    · exact List.mem_cons_of_mem _ (List.mem_cons_of_mem _ (List.mem_append_right _ hq))), h⟩
end
end LP

set_option maxHeartbeats 2000000
namespace LP
open PySem PySem.Spec PyProof.Rows L2 He
/-! the head's facts with properties: a Hook like the kit's, its defs found by At -/
inductive At where
  | fn (p : Str × Option Str)
  | prop (x m : Str)
/-- a property's getter -/
def gAd (K : PySem.W.Frag) (x m : Str) : Addr := match PySem.W.recIn K (ma K (ga K x) m) "property" with
  | some (.ref g :: _) => g
  | _ => 0
def At.ad (K : PySem.W.Frag) : At → Addr
  | .fn p => fAd K p
  | .prop x m => gAd K x m
structure DefE where
  at_ : At
  name : Str
  qual : Str
  params : Arguments
  body : List Stmt
  scope : Scope
  dfl : List Dv := []
def fnE (K : PySem.W.Frag) (a : Addr) : FnW := match K.lookup a with
  | some ⟨_, _, .func fd, _⟩ => some (fd.name, fd.qualname, fd.params, fd.body, fd.scope, fd.globals, fd.closure, fd.builtins)
  | _ => none
def DefE.val (d : DefE) : FnW := some (d.name, d.qual, d.params, .stmts d.body, d.scope, mainGlobals, [], builtinsNs)
def DefE.dvs (K : PySem.W.Frag) (d : DefE) : List V := d.dfl.map (Dv.v K)
def DefE.ok (K : PySem.W.Frag) (d : DefE) : Bool := PySem.W.keepIn K (.ref (d.at_.ad K)) && (match K.lookup (d.at_.ad K) with
  | some ⟨_, _, .func fd, _⟩ => PySem.W.codeIn K fd.code d.qual && dflB K fd.defaults (d.dvs K)
  | _ => false)
theorem DefE.funD {K : PySem.W.Frag} {d : DefE} (e : fnE K (d.at_.ad K) = d.val) (c : d.ok K = true) : ∃ fd, FunD K d.name d.qual d.params d.body d.scope (d.dvs K) [] (d.at_.ad K) fd := by
  obtain ⟨kp, c2⟩ := ba c
  unfold fnE at e
  cases q : K.lookup (d.at_.ad K) with
  | none =>
    rw [q] at c2
    cases c2
  | some o =>
    obtain ⟨oc, od, dt, osl⟩ := o
    rw [q] at c2 e
    cases dt with
    | func fd =>
      obtain ⟨n1, n2, n3, n4, n5, n6, n7, n8, n9, n10, n11, n12, n13, n14, n15⟩ := fd
      have e2 : (some (n1, n2, n3, n4, n5, n6, n7, n15) : FnW) = some (d.name, d.qual, d.params, .stmts d.body, d.scope, mainGlobals, [], builtinsNs) := e
      simp only [Option.some.injEq, Prod.mk.injEq] at e2
      obtain ⟨h1, h2, h3, h4, h5, h6, h7, h8⟩ := e2
      subst h1 h2 h3 h4 h5 h6 h7 h8
      have c3 : (PySem.W.codeIn K n13 d.qual && dflB K n8 (d.dvs K)) = true := c2
      obtain ⟨k1, k2⟩ := ba c3
      exact ⟨_, ⟨oc, od, n8, n9, n10, n11, n12, n13, n14, osl, rfl, q, k1, dflB_ok k2, .inl rfl⟩, kp⟩
    | _ => cases c2
def propB (K : PySem.W.Frag) (x m : Str) : Bool := eqO (PySem.W.findIn K (.ref (ga K x)) m) (some (some (.ref (ma K (ga K x) m)))) && (decide (PySem.W.specialIn K (.ref (ma K (ga K x) m)) "__get__" = some (some (.builtin "property.__get__"))) && (decide (PySem.W.takesIn K (.ref (ma K (ga K x) m)) = some true) && (match PySem.W.recIn K (ma K (ga K x) m) "property" with
  | some (.ref _ :: _) => true
  | _ => false)))
theorem propB_ok {K : PySem.W.Frag} {x m : Str} (h : propB K x m = true) : PropOf K (ga K x) m (ma K (ga K x) m) (gAd K x m) := by
  obtain ⟨h1, h⟩ := ba h
  obtain ⟨h2, h⟩ := ba h
  obtain ⟨h3, h4⟩ := ba h
  refine ⟨eqO_ok h1, of_decide_eq_true h2, of_decide_eq_true h3, ?_⟩
  unfold gAd
  split at h4
  · rename_i g rest e
    rw [e]
    exact ⟨rest, rfl⟩
  · cases h4
inductive FaE where
  | fa (f : Fa)
  | prop (x m : Str)
  | ex (b : PySem.W.Frag → Bool)
def FaE.ok (K : PySem.W.Frag) : FaE → Bool
  | .fa f => f.ok K
  | .prop x m => propB K x m
  | .ex b => b K
def obsE (fa : List FaE) (fn : List DefE) (K : PySem.W.Frag) : AlD := ((fa.all fun f => f.ok K) && fn.all fun d => d.ok K, fn.map fun d => fnE K (d.at_.ad K))
def valE (fn : List DefE) : AlD := (true, fn.map DefE.val)
def SaysE (fa : List FaE) (fn : List DefE) (K : PySem.W.Frag) : Prop := obsE fa fn K = valE fn
/-- what the module's names reach in n steps, and the record of the statics -/
def asE (g : Addr → Option Obj) : Nat → List Addr
  | 0 => [mainGlobals, cStatics]
  | n + 1 => growD g (asE g n)
def obsEG (n : Nat) (fa : List FaE) (fn : List DefE) (g : Addr → Option Obj) : AlD := obsE fa fn (frG g (asE g n))
def hookE (n : Nat) (fa : List FaE) (fn : List DefE) : PySem.W.Hook where
  α := AlD
  obs := fun s => obsEG n fa fn s.heap.get?
  val := fun _ => valE fn
  says := fun _ h => ∃ K : PySem.W.Frag, K.In h ∧ SaysE fa fn K
  of := fun _ _ e => ⟨_, frG_in, e⟩
  keeps := fun _ _ _ ⟨K, hK, c⟩ k => ⟨K, PySem.W.Frag.In.keeps hK k, c⟩
theorem obsEG_eq {n : Nat} {fa : List FaE} {fn : List DefE} {g : Addr → Option Obj} {s : Shared} (h : ∀ a, g a = s.heap.get? a) : obsEG n fa fn g = (hookE n fa fn).obs s := by
  have e : g = s.heap.get? := funext h
  rw [e] <;> rfl
section
variable {fa : List FaE} {fn : List DefE} {K : PySem.W.Frag}
theorem SaysE.fact (c : SaysE fa fn K) (i : Nat) {f : FaE} (h : fa[i]? = some f := by rfl) : f.ok K = true := by
  have c1 := (ba (show ((fa.all fun f => f.ok K) && fn.all fun d => d.ok K) = true from congrArg (fun z : AlD => z.1) c)).1
  exact List.all_eq_true.mp c1 f (List.mem_of_getElem? h)
theorem SaysE.def_ (c : SaysE fa fn K) (i : Nat) {d : DefE} (h : fn[i]? = some d := by rfl) : ∃ fd, FunD K d.name d.qual d.params d.body d.scope (d.dvs K) [] (d.at_.ad K) fd := by
  have c2 := (ba (show ((fa.all fun f => f.ok K) && fn.all fun d => d.ok K) = true from congrArg (fun z : AlD => z.1) c)).2
  have e : fn.map (fun d => fnE K (d.at_.ad K)) = fn.map DefE.val := congrArg (fun z : AlD => z.2) c
  have e2 : (fn.map fun d => fnE K (d.at_.ad K))[i]? = (fn.map DefE.val)[i]? := by rw [e]
  rw [List.getElem?_map, List.getElem?_map, h] at e2
  exact DefE.funD (Option.some.inj e2) (List.all_eq_true.mp c2 d (List.mem_of_getElem? h))
end
end LP

namespace LP
open PySem PySem.Spec PyProof.Rows L2
/-! texts made of parts -/
theorem app_S (a b : Str) : a ++ b = SX.S (a.cps.toList ++ b.cps.toList) := by
  rw [← SX.S_cat, SX.S_tl, SX.S_tl]
theorem app_len (a b : Str) : (a ++ b).length = a.length + b.length := by
  rw [app_S, SX.S_len, List.length_append, ← SX.S_len, ← SX.S_len, SX.S_tl, SX.S_tl]
theorem app_assoc (a b c : Str) : a ++ b ++ c = a ++ (b ++ c) := by
  rw [← SX.S_tl a, ← SX.S_tl b, ← SX.S_tl c]
  simp only [SX.S_cat, List.append_assoc]
theorem empty_app (a : Str) : Str.empty ++ a = a := by
  rw [← SX.S_tl a]
  show SX.S [] ++ SX.S _ = _
  rw [SX.S_cat, List.nil_append]
def glued : Str → List Str → Str
  | acc, [] => acc
  | acc, s :: r => glued (acc ++ s) r
def evs (Γ : Ga) (S : So) : List QF → Option (List Str)
  | [] => some []
  | f :: fs => (f Γ S).bind fun a => match a with
    | .d (.str s) => (evs Γ S fs).map (s :: ·)
    | _ => none
theorem glue_of {Γ : Ga} {S : So} : ∀ {fs : List QF} {ss : List Str} {acc : Str}, evs Γ S fs = some ss → acc.length + (ss.map (·.length)).sum ≤ sizeLine → glue Γ S acc fs = some (glued acc ss)
  | [], ss, acc, h, _ => by cases h; rfl
  | f :: fs, ss, acc, h, hl => by
    unfold evs at h
    cases e1 : f Γ S with
    | none => rw [e1] at h; cases h
    | some a =>
      rw [e1, Option.bind_some] at h
      split at h
      · rename_i s
        cases e2 : evs Γ S fs with
        | none => rw [e2] at h; cases h
        | some r =>
          rw [e2] at h; cases h
          simp only [List.map_cons, List.sum_cons] at hl
          unfold glue
          rw [e1, Option.bind_some]
          dsimp only
          rw [if_pos (by rw [app_len]; omega), glue_of e2 (by rw [app_len]; omega)]
          rfl
      · cases h
theorem fJoin_of {Γ : Ga} {S : So} {fs : List QF} {ss : List Str} (h : evs Γ S fs = some ss) (hl : (ss.map (·.length)).sum ≤ sizeLine) : fJoin fs Γ S = some (.d (.str (glued Str.empty ss))) := by
  unfold fJoin
  rw [glue_of h (by rw [show Str.empty.length = 0 by rfl]; omega)]
  rfl
end LP

set_option maxHeartbeats 2000000
namespace LP
open PySem PySem.Spec PyProof.Rows L2
/-! // by great numbers; sorted(pairs), the pairs in a list or a tuple -/
section
variable {ci : Ci} {X : Cx}
abbrev gFdivW := gI (fun _ j => decide (0 < j ∧ j < 18446744073709551616)) fun i j => .int (i / j)
theorem o_fdivW : OpG ci X (binaryOp .FloorDiv) gFdivW := ⟨_, op_fdivW, fun F T Γ S σ H x y a b d r hx hy e Q k => by
  obtain ⟨i, j, rfl, rfl, hp, rfl⟩ := gi_some e
  have hp := of_decide_eq_true hp
  exact ⟨_, _, r.asInt hx, r.asInt hy, wide_div (b := 64) hp.1 (by omega) (by decide) (by decide), k _ _ (r.int _)⟩⟩
end
/-! the model's sorted over whatever may be collected -/
section
open PySem.Builtin
variable {prog : Program} {w : World} {A : Around} {E : Value → Shared → Prop} {s : Shared}
theorem sorted_any {l : Addr} {T : String} {o : Obj} {vs : List Value} {n d : Nat} {B : Int} {Q : Value → Shared → Prop} (hT : T = "list" ∨ T = "tuple") (ho : s.heap.get? l = some o) (hc : o.cls = .type T) (hdt : o.data = .seq vs.toArray n) (h64 : vs.length < 64) (hd : 1 ≤ d) (x : TS.TupsOk s.heap d B vs)
    (h : ∀ (h1 h' : Heap) (out : Array Value) (p : Addr) (m : Nat), (∀ b u, s.heap.get? b = some u → h1.get? b = some u) → (∀ b u, h1.get? b = some u → h'.get? b = some u) → h1.objs.size ≤ p → h'.get? p = some (seqObj "list" out m) → out.toList.Perm vs → out.toList.Pairwise (fun u v => TS.code B (TS.intsOf s.heap u) ≤ TS.code B (TS.intsOf s.heap v)) → Q (.ref p) { s with heap := h' }) :
    wpAny (model prog w) A (call (.builtin "sorted") [.ref l]) Q E s := by
  refine Calls.call_function_entry kind_sorted plain_sorted entry_sorted (args_sorted1 _) ?_
  unfold Builtin.«sorted»
  refine wpAny_bind (m := checkCount "sorted" 1 1 _) (wpAny_pure ?_)
  refine wpAny_bind (wpAny_collect_seq l hT ho hc hdt (fun h' hk => ?_) (by rw [List.size_toArray, sizeLine_eq]; omega))
  refine wpAny_bind (wpAny_newList ?_ (by rw [List.size_toArray.symm, sizeLine_eq]; simp; omega))
  have hoL : (h'.push (seqObj "list" vs.toArray 0)).get? h'.objs.size = some (seqObj "list" vs.toArray 0) := Heap.get?_push_size _ rfl
  have keep : ∀ b u, s.heap.get? b = some u → u.cls = .type "tuple" → (h'.push (seqObj "list" vs.toArray 0)).get? b = some u := fun b u q _ => Heap.get?_push_of_some _ (hk b u q)
  show wpAny _ _ _ _ _ { s with heap := h'.push (seqObj "list" vs.toArray 0) }
  refine wpAny_bind (wpAny_holding (wpAny_call_entry slot_list_sort ⟨_, hoL, rfl⟩ entry_list_sort (TS.sort_tups hoL h64 hd (x.keeps keep) (fun v => TS.code B (TS.intsOf s.heap v)) (fun v hv ns t => ?_) fun out a1 a2 => ⟨_, rfl, ?_⟩) (args_list_sort _)))
  · obtain ⟨ns0, t0, _⟩ := x v hv
    have e : ns = ns0 := t.ints.symm.trans (t0.keeps keep).ints
    rw [e]
    show TS.code B (TS.intsOf s.heap v) = TS.code B ns0
    rw [t0.ints]
  · obtain ⟨m, hm⟩ := sortedHeap_at (out := out) hoL
    refine wpAny_pure ⟨_, rfl, h h' _ out _ m hk (fun b u q => ?_) (Nat.le_refl _) hm a1 a2⟩
    have hlt := Heap.lt_size q
    rw [sortedHeap_old (Nat.ne_of_lt hlt) (by rw [Heap.size_push]; exact Nat.lt_succ_of_lt hlt)]
    exact Heap.get?_push_of_some _ q
end
section
variable {X : Cx}
/-- sorted(xs) of fewer than 64 tuples of d ints in [0, B), in a list or a tuple -/
def rSortQ (K : PySem.W.Frag) (d : Nat) (B : Int) : List V → Hp → VK → Prop := fun vs H Q => ∃ (a : Addr) (xs : List V), vs = [V.ref a] ∧ (SqL K H a xs ∨ SqT K H a xs) ∧ xs.length < 64 ∧ (∀ x ∈ xs, ∃ ns, TupI K H x ns ∧ ns.length = d ∧ TS.Bd B ns) ∧
  ∀ (ys : List V) (p : Addr), ys.Perm xs → ys.Pairwise (fun x y => ∀ n m, TupI K H x n → TupI K H y m → TS.code B n ≤ TS.code B m) → H p = none → Q (.ref p) (upd H p (.lst ys))
theorem cr_sortQ {d : Nat} {B : Int} (hd : 1 ≤ d) : CallR X (.builtin "sorted") (rSortQ X.K d B) := by
  intro pins s σ H vs us Q I r h
  obtain ⟨a, xs, rfl, hs, h64, hx, q⟩ := h
  rw [Vals.ref1 r]
  have hs' : ∃ (its : List Value) (o : Obj) (n : Nat) (T : String), Vals xs its ∧ s.heap.get? a = some o ∧ o.cls = .type T ∧ o.data = .seq its.toArray n ∧ (T = "list" ∨ T = "tuple") := by
    rcases hs with hs | hs
    · obtain ⟨its, rv, hl, hz⟩ := I.list hs
      obtain ⟨o, ho, hc, n, hdt⟩ := hl.isList
      exact ⟨its, o, n, "list", rv, ho, hc, hdt, .inl rfl⟩
    · obtain ⟨its, rv, ⟨o, ho, hc, n, hdt⟩, hz⟩ := I.tuple hs
      exact ⟨its, o, n, "tuple", rv, ho, hc, hdt, .inr rfl⟩
  obtain ⟨its, o, n, T, rv, ho, hc, hdt, hT⟩ := hs'
  obtain ⟨e1, e2⟩ := bkV_refs rv fun x m => by
    obtain ⟨ns, ⟨t, e, _⟩, _⟩ := hx x m
    exact ⟨t, e⟩
  refine sorted_any (d := d) (B := B) hT ho hc hdt (by rw [← rv.length]; exact h64) hd (fun v hv => ?_) fun h1 h' out p m k1 k2 hp hm p1 p2 => ?_
  · obtain ⟨t, rfl⟩ := e2 v hv
    have hm : V.ref t ∈ xs := by
      rw [e1]
      exact List.mem_map.mpr ⟨_, hv, rfl⟩
    obtain ⟨ns, ⟨t', e, ht⟩, hn, hb⟩ := hx _ hm
    cases e
    exact ⟨ns, tupI_raw I ht, hn, hb⟩
  · have h3 : ∀ u ∈ out.toList, ∃ a, u = Value.ref a := fun u hu => e2 u (p1.mem_iff.mp hu)
    have hpm : (out.toList.map bkV).Perm xs := by
      rw [e1]
      exact p1.map bkV
    have hlen : (out.toList.map bkV).length ≤ sizeLine := by
      rw [hpm.length_eq, sizeLine_eq]
      omega
    have I1 := I.kept (t' := s.toks) k1
    have J := I1.laid (t' := s.toks) (a := p) (o := .lst (out.toList.map bkV)) k2 hp ⟨hlen, out.toList, m, bkV_vals h3, by simpa [seqObj] using hm⟩
    refine ⟨.ref _, _, J, rfl, q _ _ hpm ?_ (I1.hok.fresh hp)⟩
    rw [List.pairwise_map]
    refine List.Pairwise.imp (fun {u v} huv n m hn hm => ?_) p2
    obtain ⟨t, et, ht⟩ := hn
    obtain ⟨t', et', ht'⟩ := hm
    have eu := bkV_ref et
    have ev := bkV_ref et'
    have i1 : TS.intsOf s.heap u = n := by
      rw [eu]
      exact (tupI_raw I ht).ints
    have i2 : TS.intsOf s.heap v = m := by
      rw [ev]
      exact (tupI_raw I ht').ints
    rw [← i1, ← i2]
    exact huv
end
end LP

set_option maxHeartbeats 2000000
namespace LP
open PySem PySem.Spec PyProof.Rows L2
/-! sorted(pairs) as data -/
abbrev PZ := Int × Int
def pzD (p : PZ) : D := .tup [.int p.1, .int p.2]
def unpair : D → Option PZ
  | .tup [.int a, .int b] => some (a, b)
  | _ => none
def pairsOf : List D → Option (List PZ)
  | [] => some []
  | d :: r => (unpair d).bind fun p => (pairsOf r).map (p :: ·)
theorem unpair_some {d : D} {p : PZ} (h : unpair d = some p) : d = pzD p := by
  unfold unpair at h
  split at h
  · cases h; rfl
  · cases h
theorem pairsOf_some : ∀ {l : List D} {ps : List PZ}, pairsOf l = some ps → l = ps.map pzD
  | [], ps, h => by cases h; rfl
  | d :: r, ps, h => by
    unfold pairsOf at h
    cases e1 : unpair d with
    | none => rw [e1] at h; cases h
    | some p =>
      cases e2 : pairsOf r with
      | none => rw [e1, e2] at h; cases h
      | some q =>
        rw [e1, e2] at h; cases h
        rw [List.map_cons, unpair_some e1, pairsOf_some e2]
theorem pairsOf_map : ∀ ps : List PZ, pairsOf (ps.map pzD) = some ps
  | [] => rfl
  | p :: ps => by rw [List.map_cons, pairsOf, pairsOf_map ps]; rfl
def leP (p q : PZ) : Bool := decide (p.1 < q.1) || (decide (p.1 = q.1) && decide (p.2 ≤ q.2))
theorem leP_iff {p q : PZ} : leP p q = true ↔ p.1 < q.1 ∨ (p.1 = q.1 ∧ p.2 ≤ q.2) := by
  simp [leP]
def insP (p : PZ) : List PZ → List PZ
  | [] => [p]
  | q :: r => if leP p q = true then p :: q :: r else q :: insP p r
def sortP : List PZ → List PZ
  | [] => []
  | p :: r => insP p (sortP r)
theorem insP_perm (p : PZ) : ∀ l, (insP p l).Perm (p :: l)
  | [] => List.Perm.refl _
  | q :: r => by
    unfold insP
    split
    · exact List.Perm.refl _
    · exact ((insP_perm p r).cons q).trans (List.Perm.swap p q r)
theorem sortP_perm : ∀ l, (sortP l).Perm l
  | [] => List.Perm.refl _
  | p :: r => (insP_perm p _).trans ((sortP_perm r).cons p)
theorem insP_srt (p : PZ) : ∀ {l : List PZ}, l.Pairwise (fun a b => leP a b = true) → (insP p l).Pairwise fun a b => leP a b = true
  | [], _ => List.pairwise_singleton _ _
  | q :: r, h => by
    obtain ⟨h1, h2⟩ := List.pairwise_cons.mp h
    unfold insP
    split
    · rename_i c
      refine List.pairwise_cons.mpr ⟨fun x hx => ?_, h⟩
      rcases List.mem_cons.mp hx with rfl | hx
      · exact c
      · have a := leP_iff.mp c
        have b := leP_iff.mp (h1 x hx)
        rw [leP_iff]
        omega
    · rename_i c
      refine List.pairwise_cons.mpr ⟨fun x hx => ?_, insP_srt p h2⟩
      rcases List.mem_cons.mp ((insP_perm p r).mem_iff.mp hx) with rfl | hx
      · have a : ¬ (x.1 < q.1 ∨ (x.1 = q.1 ∧ x.2 ≤ q.2)) := fun z => c (leP_iff.mpr z)
        rw [leP_iff]
        omega
      · exact h1 x hx
theorem sortP_srt : ∀ l, (sortP l).Pairwise fun a b => leP a b = true
  | [] => .nil
  | p :: r => insP_srt p (sortP_srt r)
theorem sortP_uniq {l m : List PZ} (h : m.Perm l) (hs : m.Pairwise fun a b => leP a b = true) : m = sortP l :=
  List.Perm.eq_of_pairwise (le := fun a b => leP a b = true) (fun a b _ _ h1 h2 => by
    have h1 := leP_iff.mp h1
    have h2 := leP_iff.mp h2
    obtain ⟨a1, a2⟩ := a
    obtain ⟨b1, b2⟩ := b
    simp only at h1 h2
    rw [Prod.mk.injEq]
    omega) hs (sortP_srt l) (h.trans (sortP_perm l).symm)
/-! representation under a permutation -/
section
variable {K : PySem.W.Frag} {ci : Ci} {M : List Addr} {H : Hp}
theorem reps_perm {vs vs' : List V} (h : vs'.Perm vs) : ∀ {ds : List D}, Reps K ci M H ds vs → ∃ ds', ds'.Perm ds ∧ Reps K ci M H ds' vs' := by
  induction h with
  | nil => intro ds r; exact ⟨ds, .refl _, r⟩
  | cons x _ ih =>
    intro ds r
    cases ds with
    | nil => rw [Reps] at r; cases r
    | cons d ds =>
      rw [Reps] at r
      obtain ⟨v, rr, e, r1, r2⟩ := r
      cases e
      obtain ⟨ds', p, r3⟩ := ih r2
      exact ⟨d :: ds', p.cons d, .cons r1 r3⟩
  | swap x y l =>
    intro ds r
    cases ds with
    | nil => rw [Reps] at r; cases r
    | cons d ds =>
      rw [Reps] at r
      obtain ⟨v, rr, e, r1, r2⟩ := r
      cases e
      cases ds with
      | nil => rw [Reps] at r2; cases r2
      | cons d2 ds =>
        rw [Reps] at r2
        obtain ⟨v2, rr2, e, r3, r4⟩ := r2
        cases e
        exact ⟨d2 :: d :: ds, .swap d d2 ds, .cons r3 (.cons r1 r4)⟩
  | trans _ _ ih1 ih2 =>
    intro ds r
    obtain ⟨d1, p1, r1⟩ := ih2 r
    obtain ⟨d2, p2, r2⟩ := ih1 r1
    exact ⟨d2, p2.trans p1, r2⟩
theorem rep_pair {p : PZ} {v : V} (r : Rep K ci M H (pzD p) v) : TupI K H v [p.1, p.2] := by
  unfold pzD at r
  rw [Rep] at r
  obtain ⟨t, vs, rfl, h, rs⟩ := r
  rw [Reps] at rs
  obtain ⟨v1, r1, rfl, q1, rs⟩ := rs
  rw [Reps] at rs
  obtain ⟨v2, r2, rfl, q2, rs⟩ := rs
  rw [Reps] at rs
  subst rs
  rw [Rep] at q1 q2
  subst q1 q2
  refine ⟨t, rfl, sqt_iff.mpr ?_⟩
  exact h.imp (fun z => z.1) id
theorem reps_mem {d : D} : ∀ {ds : List D} {vs : List V}, Reps K ci M H ds vs → d ∈ ds → ∃ v ∈ vs, Rep K ci M H d v
  | [], vs, r, h => by cases h
  | x :: ds, vs, r, h => by
    rw [Reps] at r
    obtain ⟨v, rr, rfl, r1, r2⟩ := r
    rcases List.mem_cons.mp h with rfl | h
    · exact ⟨v, List.mem_cons_self, r1⟩
    · obtain ⟨u, hu, q⟩ := reps_mem r2 h
      exact ⟨u, List.mem_cons_of_mem _ hu, q⟩
theorem reps_back {v : V} : ∀ {ds : List D} {vs : List V}, Reps K ci M H ds vs → v ∈ vs → ∃ d ∈ ds, Rep K ci M H d v
  | [], vs, r, h => by rw [Reps] at r; subst r; cases h
  | x :: ds, vs, r, h => by
    rw [Reps] at r
    obtain ⟨u, rr, rfl, r1, r2⟩ := r
    rcases List.mem_cons.mp h with rfl | h
    · exact ⟨x, List.mem_cons_self, r1⟩
    · obtain ⟨d, hd, q⟩ := reps_back r2 h
      exact ⟨d, List.mem_cons_of_mem _ hd, q⟩
abbrev BIG : Int := 4611686018427387904
def inB (p : PZ) : Bool := decide (0 ≤ p.1 ∧ p.1 < BIG) && decide (0 ≤ p.2 ∧ p.2 < BIG)
theorem code_two (x y : Int) : TS.code BIG [x, y] = x * BIG + y := by
  have e1 : (BIG : Int) ^ 1 = BIG := by decide
  have e0 : (BIG : Int) ^ 0 = 1 := by decide
  show x * BIG ^ 1 + (y * BIG ^ 0 + 0) = x * BIG + y
  rw [e1, e0, Int.mul_one, Int.add_zero]
theorem pairs_srt : ∀ {ps : List PZ} {vs : List V}, Reps K ci M H (ps.map pzD) vs → (∀ p ∈ ps, inB p = true) → vs.Pairwise (fun x y => ∀ n m, TupI K H x n → TupI K H y m → TS.code BIG n ≤ TS.code BIG m) → ps.Pairwise fun a b => leP a b = true
  | [], _, _, _, _ => .nil
  | p :: ps, vs, r, hb, hp => by
    rw [List.map_cons, Reps] at r
    obtain ⟨v, rr, rfl, r1, r2⟩ := r
    obtain ⟨h1, h2⟩ := List.pairwise_cons.mp hp
    refine List.pairwise_cons.mpr ⟨fun q hq => ?_, pairs_srt r2 (fun q hq => hb q (List.mem_cons_of_mem _ hq)) h2⟩
    obtain ⟨u, hu, ru⟩ := reps_mem r2 (List.mem_map.mpr ⟨q, hq, rfl⟩)
    have c := h1 u hu _ _ (rep_pair r1) (rep_pair ru)
    rw [code_two, code_two] at c
    have b1 := hb p List.mem_cons_self
    have b2 := hb q (List.mem_cons_of_mem _ hq)
    simp only [inB, Bool.and_eq_true, decide_eq_true_eq] at b1 b2
    rw [leP_iff]
    simp only [BIG] at *
    omega
end
def gSortP (S : So) : List A → Option D
  | [a] => (viewQ S a).bind fun l => (pairsOf l).bind fun ps => if ps.length < 64 ∧ ps.all inB = true then some (.lst ((sortP ps).map pzD)) else none
  | _ => none
section
variable {ci : Ci} {X : Cx}
theorem c_sortP : CallG ci X (.builtin "sorted") gSortP := ⟨_, cr_sortQ (d := 2) (B := BIG) (by decide), fun F T Γ S σ H as vs d r hl hT e Q k => by
  unfold gSortP at e
  split at e
  · rename_i a
    obtain ⟨v, rfl, hv⟩ := as1 (F := F) hl hT
    cases e1 : viewQ S a with
    | none => rw [e1] at e; cases e
    | some l =>
      cases e2 : pairsOf l with
      | none => rw [e1, Option.bind_some, e2] at e; cases e
      | some ps =>
        rw [e1, Option.bind_some, e2, Option.bind_some] at e
        split at e
        · rename_i hc
          cases e
          obtain ⟨ρ, r⟩ := r
          obtain ⟨p, ys, rfl, hq, R⟩ := r.viewQ (r.top hv) e1
          rw [pairsOf_some e2] at R
          have hin : ∀ p ∈ ps, inB p = true := List.all_eq_true.mp hc.2
          refine ⟨p, ys, rfl, hq, by rw [← R.length, List.length_map]; exact hc.1, fun x hx => ?_, fun zs q hz ho hq0 => ?_⟩
          · obtain ⟨d, hd, rd⟩ := reps_back R hx
            obtain ⟨pp, hpp, rfl⟩ := List.mem_map.mp hd
            have hb := hin pp hpp
            simp only [inB, Bool.and_eq_true, decide_eq_true_eq] at hb
            refine ⟨_, rep_pair rd, rfl, fun m hm => ?_⟩
            simp only [List.mem_cons, List.not_mem_nil, or_false] at hm
            rcases hm with rfl | rfl
            · exact hb.1
            · exact hb.2
          · obtain ⟨ds, hd, R2⟩ := reps_perm hz R
            have e3 : ds = (ds.filterMap unpair).map pzD := by
              rw [List.map_filterMap]
              have : ∀ x ∈ ds, (unpair x).map pzD = some x := fun x hx => by
                obtain ⟨pp, _, rfl⟩ := List.mem_map.mp (hd.mem_iff.mp hx)
                rfl
              clear hd R2
              induction ds with
              | nil => rfl
              | cons x ds ih =>
                rw [List.filterMap_cons, this x List.mem_cons_self, ← ih fun y hy => this y (List.mem_cons_of_mem _ hy)]
            have e4 : (ds.filterMap unpair).Perm ps := by
              have := hd.filterMap unpair
              have e5 : (ps.map pzD).filterMap unpair = ps := by
                rw [List.filterMap_map]
                exact List.filterMap_some
              rw [e5] at this
              exact this
            rw [e3] at R2
            have e6 := pairs_srt R2 (fun q hq => hin q (e4.mem_iff.mp hq)) ho
            rw [sortP_uniq e4 e6] at R2
            exact k _ _ ⟨ρ, r.newL hq0 R2⟩
        · cases e
  · cases e⟩
end
end LP

set_option maxHeartbeats 2000000
namespace LP
open PySem PySem.Spec PyProof.Rows L2
/-! defs and constructors with a star parameter -/
section
variable {P : Program} {w0 : World} {K : PySem.W.Frag} {mg : Str → Option Value} {base : Heap} {ci : Ci} {x qual : Str} {params : Arguments} {body : List Stmt} {scope : Scope} {dvs : List V} {kws : List (Str × V)} {f : Addr} {fd : FuncData} {N ps : List Str} {k : Nat}
theorem bodyP {G : PC} {w : WS} (hb : Body P w0 K mg base ci N qual scope f k body w)
    (hv : ∀ ds o, G ds = some o → w (stG N (ds.map A.d)) [] { nx := fun _ _ => o = .ok .non, rt := fun a _ => ∃ d, a = .d d ∧ o = .ok d, ex := fun er _ => o = .error er }) :
    ∀ (cdv : Value) (A : Around) (outer : List Env) (s : Shared) (H : Hp) (vs : List V) (Q : VK) (E : XK), Room k (A.deeper (envOfC qual scope s.heap.objs.size f cdv)) → spP K ci G vs H Q E →
      ∃ t, PSs (cxOf (L2.CX P w0) P w0 K mg base N qual scope f cdv A outer s H E) body t ∧ t { nx := fun _ H' => Q .non H', rt := Q } (L2.start N vs) H := by
  intro cdv A outer s H vs Q E hr h
  obtain ⟨ds, ex, o, h1, h2, h3, h4⟩ := h
  have tk : Takes (cxD P w0 K mg base N qual scope f cdv A outer s H E) (fun cls d _ H => E cls d H) := takes_of rfl rfl rfl rfl
  refine ⟨_, pss_wp, ?_⟩
  have r0 := rel_start (N := N) h2 (by rw [List.length_map]; exact h1)
  cases o with
  | ok d =>
    have xo : Xok (cxD P w0 K mg base N qual scope f cdv A outer s H E) (⟨H, [], [], ex⟩ : Fr K ci) (fun er _ => (Except.ok d : Except Er D) = .error er) := tk.imp fun c dd σ H' ⟨er, S, ρ, _, _, z⟩ => by cases z
    have := hb cdv A outer s H E hr _ _ xo [] _ [] _ H ⟨[], r0⟩ (hv ds _ h3)
    refine fun pins s' I => thn (this pins s' I) fun fl s2 z => ?_
    cases fl with
    | next =>
      obtain ⟨σ', H', I', Γ', S', r', e⟩ := z
      cases e
      exact ⟨σ', H', I', h4 _ _ ⟨S', r'.non.bare⟩⟩
    | ret u =>
      obtain ⟨v, σ', H', I', rv, a, S', r', d', e1, e2⟩ := z
      cases e2
      subst e1
      exact ⟨v, σ', H', I', rv, h4 _ _ ⟨S', r'⟩⟩
    | brk => obtain ⟨_, _, _, _, _, _, z⟩ := z; exact z.elim
    | cont => obtain ⟨_, _, _, _, _, _, z⟩ := z; exact z.elim
  | error er =>
    have xo : Xok (cxD P w0 K mg base N qual scope f cdv A outer s H E) (⟨H, [], [], ex⟩ : Fr K ci) (fun er' _ => (Except.error er : Except Er D) = .error er') := tk.imp fun c dd σ H' ⟨er', S, ρ, r', e', z⟩ => by
      cases z
      exact h4 _ _ _ ⟨S, ρ, r', e'⟩
    have := hb cdv A outer s H E hr _ _ xo [] _ [] _ H ⟨[], r0⟩ (hv ds _ h3)
    refine fun pins s' I => thn (this pins s' I) fun fl s2 z => ?_
    cases fl with
    | next => obtain ⟨_, _, _, _, _, _, z⟩ := z; cases z
    | ret u => obtain ⟨_, _, _, _, _, _, _, _, _, _, z⟩ := z; cases z
    | brk => obtain ⟨_, _, _, _, _, _, z⟩ := z; exact z.elim
    | cont => obtain ⟨_, _, _, _, _, _, z⟩ := z; exact z.elim
theorem bodyI {c : Nat} {G : PI'} {w : WS} (hb : Body P w0 K mg base ci N qual scope f k body w)
    (hv : ∀ ds o, G ds = some o → w (stG N (.loc 0 :: ds.map A.d)) [.ins c []] { nx := fun _ S' => ∃ fs, o = .ok fs ∧ S'[0]? = some (.ins c (fs.map A.d)), rt := fun a S' => a = .d .non ∧ ∃ fs, o = .ok fs ∧ S'[0]? = some (.ins c (fs.map A.d)), ex := fun er _ => o = .error er }) :
    ∀ (cdv : Value) (A0 : Around) (outer : List Env) (s : Shared) (H : Hp) (vs : List V) (Q : VK) (E : XK), Room k (A0.deeper (envOfC qual scope s.heap.objs.size f cdv)) → spI K ci c G vs H Q E →
      ∃ t, PSs (cxOf (L2.CX P w0) P w0 K mg base N qual scope f cdv A0 outer s H E) body t ∧ t { nx := fun _ H' => Q .non H', rt := Q } (L2.start N vs) H := by
  intro cdv A0 outer s H vs Q E hr h
  obtain ⟨p, ds, vs', ex, o, rfl, h1, h2, h3, h4⟩ := h
  have tk : Takes (cxD P w0 K mg base N qual scope f cdv A0 outer s H E) (fun cls d _ H => E cls d H) := takes_of rfl rfl rfl rfl
  refine ⟨_, pss_wp, ?_⟩
  have h2' : RelR (⟨H, [p], [p], ex⟩ : Fr K ci) [p] ((A.loc 0 :: ds.map A.d).zip (V.ref p :: vs')) [] [.ins c []] [] H := h2.push (a := .loc 0) (v := .ref p) ⟨p, rfl, rfl⟩
  have r0 := rel_start (N := N) h2' (by simp [h1])
  cases o with
  | ok fs =>
    have xo : Xok (cxD P w0 K mg base N qual scope f cdv A0 outer s H E) (⟨H, [p], [p], ex⟩ : Fr K ci) (fun er _ => (Except.ok fs : Except Er (List D)) = .error er) := tk.imp fun c dd σ H' ⟨er, S, ρ, _, _, z⟩ => by cases z
    have := hb cdv A0 outer s H E hr _ _ xo [] _ _ _ H ⟨[p], r0⟩ (hv ds _ h3)
    refine fun pins s' I => thn (this pins s' I) fun fl s2 z => ?_
    cases fl with
    | next =>
      obtain ⟨σ', H', I', Γ', S', r', fs', e, e2⟩ := z
      cases e
      exact ⟨σ', H', I', h4 _ ⟨S', r'.bare, e2⟩⟩
    | ret u =>
      obtain ⟨v, σ', H', I', rv, a, S', r', e0, fs', e1, e2⟩ := z
      cases e1
      subst e0
      have hv : v = .non := r'.asNon List.mem_cons_self
      subst hv
      exact ⟨_, σ', H', I', rv, h4 _ ⟨S', r'.tail, e2⟩⟩
    | brk => obtain ⟨_, _, _, _, _, _, z⟩ := z; exact z.elim
    | cont => obtain ⟨_, _, _, _, _, _, z⟩ := z; exact z.elim
  | error er =>
    have xo : Xok (cxD P w0 K mg base N qual scope f cdv A0 outer s H E) (⟨H, [p], [p], ex⟩ : Fr K ci) (fun er' _ => (Except.error er : Except Er (List D)) = .error er') := tk.imp fun c dd σ H' ⟨er', S, ρ, r', e', z⟩ => by
      cases z
      exact h4 _ _ _ ⟨S, ρ, r', e'⟩
    have := hb cdv A0 outer s H E hr _ _ xo [] _ _ _ H ⟨[p], r0⟩ (hv ds _ h3)
    refine fun pins s' I => thn (this pins s' I) fun fl s2 z => ?_
    cases fl with
    | next => obtain ⟨_, _, _, _, _, _, _, z, _⟩ := z; cases z
    | ret u => obtain ⟨_, _, _, _, _, _, _, _, _, _, z, _⟩ := z; cases z
    | brk => obtain ⟨_, _, _, _, _, _, z⟩ := z; exact z.elim
    | cont => obtain ⟨_, _, _, _, _, _, z⟩ := z; exact z.elim
/-- the packed form -/
def packP (n : Nat) (G : PC) : PC := fun ds => if ds.length ≤ 1000 ∧ n ≤ ds.length then G (ds.take n ++ [.tup (ds.drop n)]) else none
def packI (G : PI') : PI' := fun ds => if ds.length ≤ 1000 then G [.tup ds] else none
theorem star_I {c : Nat} {G : PI'} {vs : List V} {H : Hp} {Q : VK} {E : XK} (h : spI K ci c (packI G) vs H Q E) :
    ∃ ws rest, vs = ws ++ rest ∧ ws.length = 1 ∧ rest.length ≤ sizeLine ∧ ∀ p, H p = Option.none → spI K ci c G (ws ++ [V.ref p]) (upd H p (.tup rest)) Q E := by
  obtain ⟨p, ds, vs', ex, o, rfl, h1, h2, h3, h4⟩ := h
  unfold packI at h3
  split at h3
  · rename_i hl
    refine ⟨[.ref p], vs', rfl, rfl, by rw [← h1, sizeLine_eq]; omega, fun q hq => ?_⟩
    have r2 := h2.newT hq (reps_of h2 h1 fun z hz => hz)
    have r3 := (r2.drop (T' := [(.d (.tup ds), .ref q)]) fun z hz => by simp at hz; simp [hz])
    have r4 := r3.here
    refine ⟨p, [.tup ds], [.ref q], ex, o, rfl, rfl, r4, h3, ?_⟩
    cases o with
    | ok fs =>
      rintro H' ⟨S', ⟨ρ', q'⟩, e⟩
      exact h4 H' ⟨S', ⟨ρ', (r3.after q').drop fun z hz => by cases hz⟩, e⟩
    | error er =>
      rintro cls dd H' ⟨S', ρ', q', e⟩
      exact h4 cls dd H' ⟨S', ρ', r3.there q', e⟩
  · cases h3
end
end LP

set_option maxHeartbeats 2000000
namespace LP
open PySem PySem.Spec PyProof.Rows L2 StX
section
variable {P : Program} {w0 : World} {K : PySem.W.Frag} {mg : Str → Option Value} {base : Heap} {ci : Ci} {x qual : Str} {params : Arguments} {body : List Stmt} {scope : Scope} {f : Addr} {fd : FuncData} {N ps : List Str} {k : Nat}
theorem fnSI {c : Nat} {pv : Str} {G : PI'} {w : WS} (F : FunD K x qual params body scope [] [] f fd) (sc : FnScope N ((["self"] : List Str) ++ [pv]) scope) (hb : Body P w0 K mg base ci N qual scope f k body w)
    (bnd : ∀ (kV doc pm : Value) (an : Option Addr) (cdv ct : Value) (us rest : List Value), us.length = (["self"] : List Str).length → bindArgs (PySem.W.fnOf x qual params body scope .none kV doc pm an cdv ct) ⟨us ++ rest, []⟩ = (newTuple rest >>= fun t => pure ((["self"] : List Str).zip us ++ [(pv, t)])))
    (hv : ∀ ds o, G ds = some o → w (stG N (.loc 0 :: ds.map A.d)) [.ins c []] { nx := fun _ S' => ∃ fs, o = .ok fs ∧ S'[0]? = some (.ins c (fs.map A.d)), rt := fun a S' => a = .d .non ∧ ∃ fs, o = .ok fs ∧ S'[0]? = some (.ins c (fs.map A.d)), ex := fun er _ => o = .error er }) : FnR P w0 K mg base (L2.CX P w0) (k + 1) f (spI K ci c (packI G)) := by
  obtain ⟨oc, od, dV, kV, doc, pm, an, cdv, ct, osl, rfl, lk, hcd, hD, hK⟩ := F.ex
  rcases hD with ⟨_, rfl⟩ | ⟨e, _⟩
  · refine (fn_star (sp := spI K ci c G) lk hcd sc cxUp (bnd kV doc pm an cdv ct) (bodyI hb hv cdv)).imp fun vs H Q E h => star_I h
  · exact absurd rfl e
end
structure MakeS (P : Program) (w : World) (K : PySem.W.Frag) (mg : Str → Option Value) (base : Heap) (ci : Ci) (k : Nat) (x : Str) (c : Nat) (G : PI') : Prop where
  ex : ∃ (f : Addr), FnR P w K mg base (L2.CX P w) k f (spI K ci c G) ∧ Mk K (ci c).1 f ∧ mg x = some (.ref (ci c).1)
  len : ∀ ds fs, G ds = some (.ok fs) → fs.length = (ci c).2.length
section
variable {X : Cx} {CX : CXT} {k : Nat} {f C : Addr} {sp : Sp} {E : XK} {x : Str} {e : Expr} {te : TE} {p pos sp_ : Pos}
theorem pe_makeR0 (M : Mk X.K C f) (F : FnR X.prog X.w X.K X.mg X.base CX k f sp) (hr : Room (k + 1) X.A) (hg : Gl X x) (hm : X.mg x = some (.ref C)) (hx : Passes CX X E) (hdb : (x == ("__debug__" : Str)) = false := by decide +kernel) : PE X (.Call (.Name x p) [] [] pos) (tMakeR C sp E tNil) := by
  refine ⟨fun pins s σ H Q I h => ?_⟩
  refine wpAny_Call_Name_kw (ld_glob I hg hm ?_ hdb)
  exact PySem.W.callWith_K0 I.kIn M.kp (run_makeR (us := []) M F hr hx I .nil h)
theorem pe_makeRS (M : Mk X.K C f) (F : FnR X.prog X.w X.K X.mg X.base CX k f sp) (hr : Room (k + 1) X.A) (hg : Gl X x) (hm : X.mg x = some (.ref C)) (hx : Passes CX X E) (he : PE X e te) (hdb : (x == ("__debug__" : Str)) = false := by decide +kernel)
    (hst : starEach [.Starred e sp_] X.env = [(true, eval e X.env)] := by rfl) :
    PE X (.Call (.Name x p) [.Starred e sp_] [] pos) (fun σ H Q => te σ H fun y H1 => ∃ a xs, y = V.ref a ∧ (SqT X.K H1 a xs ∨ SqL X.K H1 a xs) ∧ ∀ x dx, H1 x = Option.none → H1 dx = Option.none → dx ≠ x → sp (V.ref x :: xs) (upd (upd H1 dx (.own x)) x (.ins C dx [])) (fun v H2 => v = .non ∧ Q (.ref x) H2) E) := by
  refine ⟨fun pins s σ H Q I h => ?_⟩
  refine wpAny_Call_Name_kw (ld_glob I hg hm ?_ hdb)
  refine PySem.W.callWith_S (h₀ := X.base) I.ok.mod.kin M.kp (thn (he.run pins s σ H _ I h) fun v s1 ⟨y, H1, I1, ry, a, xs, ey, hxs, q⟩ => ?_) hst
  subst ey
  obtain rfl : v = Value.ref a := ry
  exact star_any I1 hxs fun us s2 I2 rv => ⟨I2.kIn, run_makeR M F hr hx I2 rv q⟩
end
section
variable {ci : Ci} {X : Cx}
theorem RelR.reps {K : PySem.W.Frag} {F : Fr K ci} {ρ : List Addr} {T : List (A × V)} {Γ : Ga} {S : So} {σ : L2.St} {H : Hp} (r : RelR F ρ T Γ S σ H) : ∀ {l : List D} {vs : List V}, Reps K ci (mu F ρ S) H l vs → RelR F ρ ((l.map A.d).zip vs ++ T) Γ S σ H
  | [], vs, R => by simpa using r
  | d :: l, vs, R => by
    rw [Reps] at R
    obtain ⟨v, rr, rfl, r1, r2⟩ := R
    exact (RelR.reps r r2).push (a := .d d) (v := v) r1
theorem rp_makeS {k c : Nat} {x : Str} {p pos : Pos} {e : Expr} {es : List Expr} {G : PI'} {fs : QFs} (C : MakeS X.prog X.w X.K X.mg X.base ci k x c G) (hr : Room (k + 1) X.A) (hg : Gl X x) (ha : RPs ci X (e :: es) fs)
    (hdb : (x == ("__debug__" : Str)) = false := by decide +kernel) (he : starEach (e :: es) X.env = (false, eval e X.env) :: starEach es X.env := by rfl) (hpl : (backTo pos (starEach es X.env)).any (·.1) = false := by kernel_rfl) : RP ci X (.Call (.Name x p) (e :: es) [] pos) (fMake c [] G fs) := fun F T Γ S σ H a r q => by
  have : ∃ l d, fs Γ S = some (l.map A.d) ∧ G (l ++ []) = some (.ok d) ∧ a = .d (.ins c d) := by
    unfold fMake at q
    cases e1 : fs Γ S with
    | none => rw [e1] at q; cases q
    | some as =>
      rw [e1, Option.bind_some] at q
      cases e2 : dataOf as with
      | none => rw [e2] at q; cases q
      | some l =>
        rw [e2, Option.bind_some] at q
        split at q
        · rename_i d e3
          cases q
          exact ⟨l, d, by rw [dataOf_eq e2], e3, rfl⟩
        · cases q
  obtain ⟨l, d, e1, e2, rfl⟩ := this
  obtain ⟨f, h1, h2, h3⟩ := C.ex
  refine wpX_of (pe_makeR (E := E0) h2 h1 hr hg h3 passL pa_wp hdb he hpl) (wpA_mono (ha.2 F T Γ S σ H _ r e1) fun vs H' ⟨hz, r1⟩ x dx hx hdx hne => ?_)
  have := make_of (Q := fun v H' => Rel F ((.d (.ins c d), v) :: T) Γ S σ H') (E := E0) r1 (by simpa using hz) (fun q hq => List.mem_append_left _ hq) (dfl := []) rfl e2 hx hdx hne (fun fs ef => by cases ef; exact C.len _ _ e2) (fun d' ed H2 r2 => by cases ed; exact r2.drop dropA) fun er z => by cases z
  rw [List.map_nil, List.append_nil] at this
  exact this
theorem rp_makeS0 {k c : Nat} {x : Str} {p pos : Pos} {G : PI'} (C : MakeS X.prog X.w X.K X.mg X.base ci k x c G) (hr : Room (k + 1) X.A) (hg : Gl X x)
    (hdb : (x == ("__debug__" : Str)) = false := by decide +kernel) : RP ci X (.Call (.Name x p) [] [] pos) (fMake c [] G fNil) := fun F T Γ S σ H a r q => by
  have : ∃ d, G [] = some (.ok d) ∧ a = .d (.ins c d) := by
    unfold fMake fNil at q
    rw [Option.bind_some, dataOf, Option.bind_some] at q
    split at q
    · rename_i d e3
      cases q
      exact ⟨d, e3, rfl⟩
    · cases q
  obtain ⟨d, e2, rfl⟩ := this
  obtain ⟨f, h1, h2, h3⟩ := C.ex
  refine wpX_of (pe_makeR0 (E := E0) h2 h1 hr hg h3 passL hdb) fun x dx hx hdx hne => ?_
  have := make_of (l := []) (vs := []) (Q := fun v H' => Rel F ((.d (.ins c d), v) :: T) Γ S σ H') (E := E0) r rfl (fun q hq => by cases hq) (dfl := []) rfl e2 hx hdx hne (fun fs ef => by cases ef; exact C.len _ _ e2) (fun d' ed H2 r2 => by cases ed; exact r2) fun er z => by cases z
  exact this
def fMakeV (c : Nat) (G : PI') (f : QF) : QF := fun Γ S => (f Γ S).bind fun a => (viewQ S a).bind fun l => match G l with | some (.ok d) => some (.d (.ins c d)) | _ => none
theorem rp_makeSS {k c : Nat} {x : Str} {p pos sp_ : Pos} {e : Expr} {G : PI'} {fo : QF} (C : MakeS X.prog X.w X.K X.mg X.base ci k x c G) (hr : Room (k + 1) X.A) (hg : Gl X x) (ha : RP ci X e fo)
    (hdb : (x == ("__debug__" : Str)) = false := by decide +kernel) (hst : starEach [.Starred e sp_] X.env = [(true, eval e X.env)] := by rfl) : RP ci X (.Call (.Name x p) [.Starred e sp_] [] pos) (fMakeV c G fo) := fun F T Γ S σ H a r q => by
  have : ∃ b l d, fo Γ S = some b ∧ viewQ S b = some l ∧ G l = some (.ok d) ∧ a = .d (.ins c d) := by
    unfold fMakeV at q
    cases e1 : fo Γ S with
    | none => rw [e1] at q; cases q
    | some b =>
      rw [e1, Option.bind_some] at q
      cases e2 : viewQ S b with
      | none => rw [e2] at q; cases q
      | some l =>
        rw [e2, Option.bind_some] at q
        split at q
        · rename_i d e3
          cases q
          exact ⟨b, l, d, rfl, e2, e3, rfl⟩
        · cases q
  obtain ⟨b, l, d, e1, e2, e3, rfl⟩ := this
  obtain ⟨f, h1, h2, h3⟩ := C.ex
  refine wpX_of (pe_makeRS (E := E0) h2 h1 hr hg h3 passL pe_wp hdb hst) (wpX_mono (ha F T Γ S σ H _ r e1) fun v H1 ⟨ρ, r1⟩ => ?_)
  obtain ⟨a, xs, rfl, hq, R⟩ := r1.viewQ (r1.top List.mem_cons_self) e2
  refine ⟨a, xs, rfl, hq.symm, fun x dx hx hdx hne => ?_⟩
  have r2 := r1.reps R
  have := make_of (l := l) (vs := xs) (Q := fun v H' => Rel F ((.d (.ins c d), v) :: T) Γ S σ H') (E := E0) ⟨ρ, r2⟩ R.length (fun q hq => List.mem_append_left _ hq) (dfl := []) rfl (by rw [List.append_nil]; exact e3) hx hdx hne (fun fs ef => by cases ef; exact C.len _ _ e3) (fun d' ed H2 r3 => by
    cases ed
    refine r3.drop fun z hz => ?_
    rcases List.mem_cons.mp hz with rfl | hz
    · exact List.mem_cons_self
    · exact List.mem_cons_of_mem _ (List.mem_append_right _ (List.mem_cons_of_mem _ hz))) fun er z => by cases z
  rw [List.map_nil, List.append_nil] at this
  exact this
end
end LP

set_option maxHeartbeats 2000000
namespace PySem.W
open PySem PySem.Calls PyProof.Rows Builtin
/-! != by an own __eq__; bool(x) by an own __bool__ -/
section
variable {prog : Program} {w : World} {A : Around} {E : Value → Shared → Prop} {s : Shared} {K : Frag} {x C L f : Addr} {h₀ : Heap} {m : Str → Option Value} {ox : Obj} {od : Option Obj} {b tb : Value}
theorem lp_objNe (hu : A.units < cLine) (X : K.In s.heap) (I : InstAt s.heap x ox C od) (hs : findIn K (.ref C) "__eq__" = some (some (.ref f))) (hf : isFn K (.ref f) = true) {Q : Fin → Shared → Prop}
    (h : wpAny (model prog w) A (call (.ref f) [.ref x, b]) (fun v s' => ∃ c, v = .bool c ∧ Q (.done (.ret (.bool (!c)))) s') E s) :
    wpAny (model prog w) A (Builtin.«object.__ne__» ⟨[.ref x, b], []⟩) Q E s := by
  unfold Builtin.«object.__ne__»
  repeat (first
    | with_reducible refine wpAny_cRoomFor hu ?_
    | (refine wpAny_bind (m := callSpecialIfBound? (.ref x) (Str.ofString "__eq__") [b])
        (ifBound_K X I hs hf (wpAny_mono h (fun r s' hr => by
          obtain ⟨c, rfl, hq⟩ := hr
          repeat (first | exact hq | exact wpAny_pure hq | exact wpAny_truthy_bool hq | (refine wpAny_bind (m := truthy (.bool _)) (wpAny_truthy_bool ?_)) | wp_step)) fun _ _ e => e)))
    | wp_step)
theorem lp_ifBoundB {M : Model} {name : Str} {id : String} {T : String} {args : List Value} {Q : Option Value → Shared → Prop} (X : K.In s.heap) (I : InstAt s.heap x ox C od) (hs : findIn K (.ref C) name = some (some (.builtin id))) (sl : Slot T name id)
    (h : wpAny M A (call (.builtin id) (.ref x :: args)) (fun v => Q (some v)) E s) : wpAny M A (callSpecialIfBound? (.ref x) name args) Q E s := by
  simp only [callSpecialIfBound?, bindSpecialIfBound?]
  refine wpAny_holding (wpAny_bind (wpAny_bind (wpAny_bind (I.type.here ((looks_findIn X hs).here ?_)))))
  refine wpAny_bind (wpAny_askSetting (wpAny_ite ?_))
  have fin : wpAny M A (call (.builtin id) ([.ref x] ++ args) >>= fun v => pure (some v)) Q E s := wpAny_bind (wpAny_mono h (fun v s' h' => wpAny_pure h') fun _ _ h' => h')
  split
  · exact wpAny_bind (wpAny_of_eq (sl.bind _) (wpAny_pure (by exact fin)))
  · exact wpAny_tryCatch (wpAny_bind (wpAny_of_eq (sl.bind _) (wpAny_pure (by exact fin))))
theorem lp_ne {Q : Value → Shared → Prop} (hu : A.units + 1 < cLine) (F : Fr h₀ L s.heap m) (X₀ : K.In h₀) (I : InstAt s.heap x ox C od) (hb : Looks (model prog w) s.heap (typeOf b) tb) (hn : notFirst K C tb = true)
    (hne : findIn K (.ref C) "__ne__" = some (some (.builtin "object.__ne__"))) (ho : subIn K (.ref C) (.type "object") = some true) (hs : findIn K (.ref C) "__eq__" = some (some (.ref f))) (hf : isFn K (.ref f) = true)
    (h : wpAny (model prog w) A.in1 (call (.ref f) [.ref x, b]) (fun v s' => ∃ c, v = .bool c ∧ Q (.bool (!c)) s') E s) : wpAny (model prog w) A (richCompare .NotEq (.ref x) b) Q E s := by
  have X := X₀.keeps F.keep
  have one : wpAny (model prog w) A (tryCompare (.ref x) (cmpInfo .NotEq).2.1 b) (fun r s' => ∃ v, r = some v ∧ Q v s') E s := by
    rw [cmpInfo_NotEq]
    unfold tryCompare
    refine wpAny_bind (lp_ifBoundB X I hne PySem.F.cmp_object.ne (wpAny_call (codeAny_call_builtin PySem.F.cmp_object.ne.plain PySem.F.cmpEntry_ne
      (W.check_slot PySem.F.cmpKind_ne PySem.F.cmpSplit_ne (I.type.andThen (looks_subIn X ho)) (PySem.F.cmpArgs_ne _ _)
        (lp_objNe (A := A.in1) hu X I hs hf (wpAny_mono h (fun v s' hv => ?_) fun _ _ e => e))))))
    obtain ⟨c, rfl, hq⟩ := hv
    first | exact ⟨c, rfl, wpAny_pure ⟨_, rfl, hq⟩⟩ | exact ⟨c, rfl, wpAny_pure (wpAny_pure ⟨_, rfl, hq⟩)⟩ | exact ⟨c, rfl, ⟨_, rfl, hq⟩⟩ | exact ⟨c, rfl, _, rfl, wpAny_pure ⟨_, rfl, hq⟩⟩
  unfold richCompare
  simp only [oneThing_ref]
  refine wpAny_holding (wpAny_bind (wpAny_cRoomFor (Nat.lt_of_succ_lt hu) ?_))
  refine wpAny_bind (I.type.here (wpAny_bind (hb.here ?_)))
  split
  · rename_i q
    have e : subIn K tb (.ref C) = some false := by
      rcases Bool.or_eq_true_iff.mp hn with e | e
      · rw [beq_iff_eq.mp e] at q; simp at q
      · exact beq_iff_eq.mp e
    refine wpAny_bind ((looks_subIn X e).here ?_)
    simp only [Bool.false_eq_true, if_false]
    refine wpAny_bind (wpAny_mono one (fun r s' z => ?_) fun _ _ e => e)
    obtain ⟨v, rfl, hq⟩ := z
    exact wpAny_pure hq
  · refine wpAny_bind (wpAny_pure ?_)
    simp only [Bool.false_eq_true, if_false]
    refine wpAny_bind (wpAny_mono one (fun r s' z => ?_) fun _ _ e => e)
    obtain ⟨v, rfl, hq⟩ := z
    exact wpAny_pure hq
end
end PySem.W

set_option maxHeartbeats 2000000
namespace LP
open PySem PySem.Spec PyProof.Rows L2
/-! own operators: in, |, &, -, ==, !=, bool -/
section
variable {X : Cx} {CX : CXT} {k : Nat} {C f : Addr} {fd : FuncData} {ps : List Str} {sp : Sp} {E : XK}
def insAt (H : Hp) (a C : Addr) : Prop := ∃ dx fs, H a = some (.ins C dx fs)
theorem op_inOwn (F : FnOk X.prog X.w X.K X.mg X.base CX k f fd ps sp) (hm : Meth X.K C "__contains__" f) (hb : Binds X.K fd ps []) (hr : Room k X.A) (hx : Passes CX X E) :
    OpR X (compareOp .In) (fun x y H Q => ∃ a, y = .ref a ∧ insAt H a C ∧ sp [.ref a, x] H (fun v H' => ∃ b : Bool, v = .bl b ∧ Q (.bl b) H') E) := by
  intro pins s σ H x y v u Q I rx ry h
  obtain ⟨a, rfl, ⟨dx, fs, ha⟩, h⟩ := h
  cases (show u = Value.ref a from ry)
  obtain ⟨mA, J, _⟩ := ins_get I.hok ha
  obtain ⟨od, J, _⟩ := J.look
  obtain ⟨m, hF⟩ := I.fr
  refine PySem.W.in_K hF I.ok.mod.kin J hm.at_ hm.fn (wpAny_mono (run_fn (us := [.ref a, v]) (vs := [.ref a, x]) F hr hb .nil hx I (.cons rfl (.cons rx .nil)) h) (fun z s2 hz => ?_) fun _ _ y => y)
  obtain ⟨w, H2, I2, rv, n, rfl, q⟩ := hz
  cases (show z = Value.bool n from rv)
  exact wpAny_truthy_bool ⟨.bl n, H2, I2, rfl, q⟩
theorem op_ninOwn (F : FnOk X.prog X.w X.K X.mg X.base CX k f fd ps sp) (hm : Meth X.K C "__contains__" f) (hb : Binds X.K fd ps []) (hr : Room k X.A) (hx : Passes CX X E) :
    OpR X (compareOp .NotIn) (fun x y H Q => ∃ a, y = .ref a ∧ insAt H a C ∧ sp [.ref a, x] H (fun v H' => ∃ b : Bool, v = .bl b ∧ Q (.bl (!b)) H') E) := by
  intro pins s σ H x y v u Q I rx ry h
  obtain ⟨a, rfl, ⟨dx, fs, ha⟩, h⟩ := h
  cases (show u = Value.ref a from ry)
  obtain ⟨mA, J, _⟩ := ins_get I.hok ha
  obtain ⟨od, J, _⟩ := J.look
  obtain ⟨m, hF⟩ := I.fr
  refine PySem.W.notIn_K hF I.ok.mod.kin J hm.at_ hm.fn (wpAny_mono (run_fn (us := [.ref a, v]) (vs := [.ref a, x]) F hr hb .nil hx I (.cons rfl (.cons rx .nil)) h) (fun z s2 hz => ?_) fun _ _ y => y)
  obtain ⟨w, H2, I2, rv, n, rfl, q⟩ := hz
  cases (show z = Value.bool n from rv)
  exact wpAny_truthy_bool ⟨.bl (!n), H2, I2, rfl, q⟩
theorem op_binOwn {op : Operator} {m : Str} (F : FnOk X.prog X.w X.K X.mg X.base CX k f fd ps sp) (hm : Meth X.K C m f) (hd : PySem.dunder op.info.2 = m) (hc : PySem.W.selfFirst X.K C = true) (hb : Binds X.K fd ps []) (hr : Room k X.A) (hx : Passes CX X E) :
    OpR X (binaryOp op) (fun x y H Q => ∃ a b, x = .ref a ∧ y = .ref b ∧ insAt H a C ∧ insAt H b C ∧ sp [.ref a, .ref b] H Q E) := by
  intro pins s σ H x y v u Q I rx ry h
  obtain ⟨a, b, rfl, rfl, ⟨dx, fs, ha⟩, ⟨dy, gs, hb'⟩, h⟩ := h
  cases (show v = Value.ref a from rx)
  cases (show u = Value.ref b from ry)
  obtain ⟨mA, J, _⟩ := ins_get I.hok ha
  obtain ⟨od, J, _⟩ := J.look
  obtain ⟨mB, J2, _⟩ := ins_get I.hok hb'
  obtain ⟨od2, J2, _⟩ := J2.look
  obtain ⟨m', hF⟩ := I.fr
  refine PySem.W.binop_K hF I.ok.mod.kin J J2.type hc (by rw [hd]; exact hm.at_) hm.fn (wpAny_mono (run_fn (us := [.ref a, .ref b]) (vs := [.ref a, .ref b]) F hr hb .nil hx I (.cons rfl (.cons rfl .nil)) h) (fun z s2 hz => ?_) fun _ _ y => y)
  obtain ⟨w, H2, I2, rv, q⟩ := hz
  exact SlX.cmpback rv ⟨w, H2, I2, rv, q⟩
/-- the type of what stands there: an instance of C, a list -/
def tyAt (K : PySem.W.Frag) (C : Addr) (y : V) (H : Hp) (tb : Value) : Prop := (∃ b, y = .ref b ∧ insAt H b C ∧ tb = .ref C) ∨ (∃ b xs, y = .ref b ∧ SqL K H b xs ∧ tb = .type "list")
theorem tyAt_looks {pins : List (Addr × Obj)} {σ : L2.St} {H : Hp} {s : Shared} {y : V} {u tb : Value} (I : Inv X pins σ H s) (ry : RelV y u) (h : tyAt X.K C y H tb) : PySem.W.Looks (model X.prog X.w) s.heap (typeOf u) tb := by
  rcases h with ⟨b, rfl, ⟨dy, gs, hb⟩, rfl⟩ | ⟨b, xs, rfl, hl, rfl⟩
  · cases (show u = Value.ref b from ry)
    obtain ⟨mB, J2, _⟩ := ins_get I.hok hb
    obtain ⟨od2, J2, _⟩ := J2.look
    exact J2.type
  · cases (show u = Value.ref b from ry)
    obtain ⟨its, rv, pl, hz⟩ := I.list hl
    obtain ⟨o, ho, hc, n, hd⟩ := pl.isList
    intro A Q E s' k q
    exact wpAny_typeOf_ref (k _ _ ho) (by rw [hc]; exact q)
theorem op_eqOwn (F : FnOk X.prog X.w X.K X.mg X.base CX k f fd ps sp) (hm : Meth X.K C "__eq__" f) (hb : Binds X.K fd ps []) (hl : PySem.W.notFirst X.K C (.type "list") = true) (hr : Room k X.A) (hx : Passes CX X E) :
    OpR X (compareOp .Eq) (fun x y H Q => ∃ a tb, x = .ref a ∧ insAt H a C ∧ tyAt X.K C y H tb ∧ sp [.ref a, y] H Q E) := by
  intro pins s σ H x y v u Q I rx ry h
  obtain ⟨a, tb, rfl, ⟨dx, fs, ha⟩, ht, h⟩ := h
  cases (show v = Value.ref a from rx)
  obtain ⟨mA, J, _⟩ := ins_get I.hok ha
  obtain ⟨od, J, _⟩ := J.look
  obtain ⟨m', hF⟩ := I.fr
  have hn : PySem.W.notFirst X.K C tb = true := by
    rcases ht with ⟨b, _, _, rfl⟩ | ⟨b, xs, _, _, rfl⟩
    · unfold PySem.W.notFirst; simp
    · exact hl
  refine PySem.W.cmp_K (op := .Eq) hr.units0 hF I.ok.mod.kin J (tyAt_looks I ry ht) hn hm.at_ hm.fn (wpAny_mono (run_fn (us := [.ref a, u]) (vs := [.ref a, y]) F hr hb .nil hx I (.cons rfl (.cons ry .nil)) h) (fun z s2 hz => ?_) fun _ _ y => y)
  obtain ⟨w, H2, I2, rv, q⟩ := hz
  exact SlX.cmpback rv ⟨w, H2, I2, rv, q⟩
theorem op_neOwn (F : FnOk X.prog X.w X.K X.mg X.base CX k f fd ps sp) (hm : Meth X.K C "__eq__" f) (hb : Binds X.K fd ps []) (hl : PySem.W.notFirst X.K C (.type "list") = true) (hne : PySem.W.findIn X.K (.ref C) "__ne__" = some (some (.builtin "object.__ne__"))) (ho : PySem.W.subIn X.K (.ref C) (.type "object") = some true)
    (hr : Room (k + 1) X.A) (hu : X.A.units + 64 < cLine) (hx : Passes CX X E) :
    OpR X (compareOp .NotEq) (fun x y H Q => ∃ a tb, x = .ref a ∧ insAt H a C ∧ tyAt X.K C y H tb ∧ sp [.ref a, y] H (fun v H' => ∃ b : Bool, v = .bl b ∧ Q (.bl (!b)) H') E) := by
  intro pins s σ H x y v u Q I rx ry h
  obtain ⟨a, tb, rfl, ⟨dx, fs, ha⟩, ht, h⟩ := h
  cases (show v = Value.ref a from rx)
  obtain ⟨mA, J, _⟩ := ins_get I.hok ha
  obtain ⟨od, J, _⟩ := J.look
  obtain ⟨m', hF⟩ := I.fr
  have hn : PySem.W.notFirst X.K C tb = true := by
    rcases ht with ⟨b, _, _, rfl⟩ | ⟨b, xs, _, _, rfl⟩
    · unfold PySem.W.notFirst; simp
    · exact hl
  have sb : L2.Sub X k X.A.in1 := L2.Sub.in1 ⟨hr, rfl⟩
  have e0 : Env0 X.prog X.w X.K X.mg X.base X.A.in1 X.stack s H := by
    have e := I.env0
    exact ⟨by rw [sb.fr]; exact e.frames, e.mod, e.bs, e.bsz, e.funs, e.frf, e.hok, e.bare⟩
  have hl2 := F.len _ _ _ _ h
  have r2 : Vals [V.ref a, y] [Value.ref a, u] := .cons rfl (.cons ry .nil)
  refine PySem.W.lp_ne (by omega) hF I.ok.mod.kin J (tyAt_looks I ry ht) hn hne ho hm.at_ hm.fn (wpAny_call (codeAny_mono (F.run X.A.in1 X.stack s H ⟨[.ref a, u], []⟩ [.ref a, u] [.ref a, y] _ E sb.room e0 (by
    have := hb s [.ref a, u] I.kIn (by simpa using hl2)
    simpa using this) r2 h) fun z s2 hz => ?_))
  cases z with
  | error e => exact hx pins σ H s e s2 I hz
  | ok fl =>
    cases fl with
    | ret w =>
      obtain ⟨v', H2, I2, rv, b, rfl, q⟩ := I.after hz
      cases (show w = Value.bool b from rv)
      exact ⟨b, rfl, .bl (!b), H2, I2, rfl, q⟩
    | next => cases hz
    | brk => cases hz
    | cont => cases hz
end
end LP

set_option maxHeartbeats 2000000
namespace PySem.W
open PySem PySem.Calls PyProof.Rows Builtin
section
variable {prog : Program} {w : World} {A : Around} {E : Value → Shared → Prop} {s : Shared} {K : Frag} {x C L f : Addr} {h₀ : Heap} {m : Str → Option Value} {ox : Obj} {od : Option Obj}
theorem lp_bool {Q : Value → Shared → Prop} (F : Fr h₀ L s.heap m) (X₀ : K.In h₀) (I : InstAt s.heap x ox C od) (hs : findIn K (.ref C) "__bool__" = some (some (.ref f))) (hf : isFn K (.ref f) = true)
    (h : wpAny (model prog w) A.in1.in1 (call (.ref f) [.ref x]) (fun r s₁ => ∃ b, r = Value.bool b ∧ Q (.bool b) s₁) E s) : wpAny (model prog w) A (call (.type "bool") [.ref x]) Q E s := by
  refine callType_codes (T := "bool") (Bi := Builtin.«object.__init__») (Q₁ := fun r s₁ => ∃ b, r = Value.bool b ∧ Q (.bool b) s₁) PySem.F.called_bool (PySem.F.typeCall_bool_1 _) PySem.F.entry_object_init ?_ ?_
  · refine codeAny_of_tree ?_
    show wpAny _ A.in1.in1 (do checkBuiltinCall "bool.__new__" ⟨[.type "bool", .ref x], []⟩; again (.builtin "bool.__new__" ⟨[.type "bool", .ref x], []⟩)) _ _ s
    refine wpAny_bind (wpAny_of_eq (PySem.F.newCall_bool_1 _) (wpAny_pure ⟨plainId_quiet (by decide +kernel) _, codeAny_builtin PySem.F.entry_bool_new ?_⟩))
    rw [Around.under_plainId (by decide +kernel) _]
    unfold Builtin.«bool.__new__»
    refine wpAny_bind (wpAny_of_eq (a := true) rfl ?_)
    refine PySem.W.KFB.if_not rfl ?_
    refine wpAny_bind (wpAny_of_eq (a := true) PySem.F.conv_sub_bool ?_)
    refine PySem.W.KFB.if_not rfl ?_
    refine wpAny_bind (wpAny_of_eq (a := [Value.ref x]) rfl ?_)
    refine wpAny_bind (truthy_K F X₀ I hs hf (wpAny_mono h (fun r s₁ hr => ?_) fun _ _ y => y))
    obtain ⟨b, rfl, hq⟩ := hr
    exact wpAny_pure ⟨b, rfl, hq⟩
  · rintro obj s₁ ⟨b, rfl, hq⟩
    exact ⟨rfl, PySem.F.args_object_init_2 _ _, object_init_meets PySem.F.called_bool.init.lookup PySem.F.called_bool.made (by decide) prog w A.in1 _ s₁ ⟨rfl, rfl, hq⟩⟩
end
end PySem.W

set_option maxHeartbeats 2000000
namespace LP
open PySem PySem.Spec PyProof.Rows L2
/-! own operators as data -/
def gEither (g1 g2 : So → A → A → Option D) (S : So) (a b : A) : Option D := match g1 S a b with
  | some d => some d
  | none => g2 S a b
def gOwnIn (neg : Bool) (c : Nat) (G : PC) (_ : So) : A → A → Option D
  | .d x, .d (.ins c' fs) => if c' = c then match G [.ins c' fs, x] with
    | some (.ok (.bl b)) => some (.bl (if neg = true then !b else b))
    | _ => none else none
  | _, _ => none
def gOwnBin (c : Nat) (G : PC) (_ : So) : A → A → Option D
  | .d (.ins c1 f1), .d (.ins c2 f2) => if c1 = c ∧ c2 = c then match G [.ins c1 f1, .ins c2 f2] with
    | some (.ok d) => some d
    | _ => none else none
  | _, _ => none
def eqTo (c : Nat) : D → Bool
  | .ins c' _ => decide (c' = c)
  | .lst _ => true
  | _ => false
def gOwnEq (neg : Bool) (c : Nat) (G : PC) (_ : So) : A → A → Option D
  | .d (.ins c' fs), .d y => if c' = c ∧ eqTo c y = true then match G [.ins c' fs, y] with
    | some (.ok (.bl b)) => some (.bl (if neg = true then !b else b))
    | _ => none else none
  | _, _ => none
def gOwnBool (c : Nat) (G : PC) (_ : So) : List A → Option D
  | [.d (.ins c' fs)] => if c' = c then match G [.ins c' fs] with
    | some (.ok (.bl b)) => some (.bl b)
    | _ => none else none
  | _ => none
section
variable {ci : Ci} {X : Cx}
theorem OpG.or2 {fv : Value → Value → Sem Value} {g1 g2 : So → A → A → Option D} (h1 : OpG ci X fv g1) (h2 : OpG ci X fv g2) : OpG ci X fv (gEither g1 g2) := by
  obtain ⟨r1, a1, b1⟩ := h1
  obtain ⟨r2, a2, b2⟩ := h2
  refine ⟨_, a1.or a2, fun F T Γ S σ H x y a b d r hx hy e Q k => ?_⟩
  unfold gEither at e
  split at e
  · rename_i d' e'
    cases e
    exact .inl (b1 F T Γ S σ H x y a b _ r hx hy e' Q k)
  · exact .inr (b2 F T Γ S σ H x y a b d r hx hy e Q k)
theorem two_data {T : List (A × V)} {c : Nat} {fs : List D} {d : D} {v u : V} (hx : (A.d (.ins c fs), v) ∈ T) (hy : (A.d d, u) ∈ T) : ∀ q ∈ (([D.ins c fs, d] : List D).map A.d).zip [v, u], q ∈ T := fun q hq => by
  simp only [List.map_cons, List.map_nil, List.zip_cons_cons, List.zip_nil_right, List.mem_cons, List.not_mem_nil, or_false] at hq
  rcases hq with rfl | rfl
  · exact hx
  · exact hy
theorem ins_of {K : PySem.W.Frag} {ci : Ci} {F : Fr K ci} {T : List (A × V)} {Γ : Ga} {S : So} {σ : L2.St} {H : Hp} {c : Nat} {fs : List D} {v : V} (r : Rel F T Γ S σ H) (h : (A.d (.ins c fs), v) ∈ T) : ∃ p, v = .ref p ∧ insAt H p (ci c).1 := by
  obtain ⟨p, dx, vs, rfl, hp⟩ := cls_at r h rfl
  exact ⟨p, rfl, dx, _, hp⟩
theorem og_in {k c : Nat} {G : PC} (M : MethP X.prog X.w X.K X.mg X.base ci k c "__contains__" [] (spP X.K ci G)) (hr : Room k X.A) : OpG ci X (compareOp .In) (gOwnIn false c G) := by
  obtain ⟨f, fd, ps, ds, h1, h2, h3, h4, h5, h6, h7⟩ := M.ex
  cases h6
  refine ⟨_, op_inOwn (E := E0) h1 h3 h5 hr passL, fun F T Γ S σ H x y a b d r hx hy e Q kk => ?_⟩
  unfold gOwnIn at e
  split at e
  · rename_i xd c' fs
    split at e
    · rename_i hc
      subst hc
      split at e
      · rename_i n eG
        cases e
        obtain ⟨p, rfl, hp⟩ := ins_of r hy
        refine ⟨p, rfl, hp, spP_all (l := [.ins c' fs, xd]) (vs := [.ref p, x]) (o := .ok (.bl n)) r rfl (two_data hy hx) eG (fun d' ed v H3 r3 => ?_) fun er z => by cases z⟩
        cases ed
        have := r3.asBl (i := n) List.mem_cons_self
        exact ⟨n, this, kk _ _ (by rw [← this]; exact r3)⟩
      · cases e
    · cases e
  · cases e
theorem og_nin {k c : Nat} {G : PC} (M : MethP X.prog X.w X.K X.mg X.base ci k c "__contains__" [] (spP X.K ci G)) (hr : Room k X.A) : OpG ci X (compareOp .NotIn) (gOwnIn true c G) := by
  obtain ⟨f, fd, ps, ds, h1, h2, h3, h4, h5, h6, h7⟩ := M.ex
  cases h6
  refine ⟨_, op_ninOwn (E := E0) h1 h3 h5 hr passL, fun F T Γ S σ H x y a b d r hx hy e Q kk => ?_⟩
  unfold gOwnIn at e
  split at e
  · rename_i xd c' fs
    split at e
    · rename_i hc
      subst hc
      split at e
      · rename_i n eG
        cases e
        obtain ⟨p, rfl, hp⟩ := ins_of r hy
        refine ⟨p, rfl, hp, spP_all (l := [.ins c' fs, xd]) (vs := [.ref p, x]) (o := .ok (.bl n)) r rfl (two_data hy hx) eG (fun d' ed v H3 r3 => ?_) fun er z => by cases z⟩
        cases ed
        have := r3.asBl (i := n) List.mem_cons_self
        exact ⟨n, this, kk _ _ (r3.tail.bl _)⟩
      · cases e
    · cases e
  · cases e
theorem og_bin {k c : Nat} {op : Operator} {m : Str} {G : PC} (hd : PySem.dunder op.info.2 = m) (M : MethP X.prog X.w X.K X.mg X.base ci k c m [] (spP X.K ci G)) (hs : PySem.W.selfFirst X.K (ci c).1 = true) (hr : Room k X.A) : OpG ci X (binaryOp op) (gOwnBin c G) := by
  obtain ⟨f, fd, ps, ds, h1, h2, h3, h4, h5, h6, h7⟩ := M.ex
  cases h6
  refine ⟨_, op_binOwn (E := E0) h1 h3 hd hs h5 hr passL, fun F T Γ S σ H x y a b d r hx hy e Q kk => ?_⟩
  unfold gOwnBin at e
  split at e
  · rename_i c1 f1 c2 f2
    split at e
    · rename_i hc
      obtain ⟨e1, e2⟩ := hc
      subst e2
      subst e1
      split at e
      · rename_i d' eG
        cases e
        obtain ⟨p, rfl, hp⟩ := ins_of r hx
        obtain ⟨q, rfl, hq⟩ := ins_of r hy
        refine ⟨p, q, rfl, rfl, hp, hq, spP_all (l := [.ins _ f1, .ins _ f2]) (vs := [.ref p, .ref q]) (o := .ok _) r rfl (two_data hx hy) eG (fun d'' ed v H3 r3 => ?_) fun er z => by cases z⟩
        cases ed
        exact kk _ _ r3
      · cases e
    · cases e
  · cases e
theorem ty_of {K : PySem.W.Frag} {ci : Ci} {F : Fr K ci} {T : List (A × V)} {Γ : Ga} {S : So} {σ : L2.St} {H : Hp} {c : Nat} {y : D} {v : V} (r : Rel F T Γ S σ H) (h : (A.d y, v) ∈ T) (e : eqTo c y = true) : ∃ tb, tyAt K (ci c).1 v H tb := by
  unfold eqTo at e
  split at e
  · rename_i c' fs
    have := of_decide_eq_true e
    subst this
    obtain ⟨p, rfl, hp⟩ := ins_of r h
    exact ⟨_, .inl ⟨p, rfl, hp, rfl⟩⟩
  · rename_i l
    obtain ⟨ρ, r⟩ := r
    have q := r.top h
    rw [ARep, Rep] at q
    obtain ⟨p, vs, rfl, q1, q2⟩ := q
    exact ⟨_, .inr ⟨p, vs, rfl, sql_iff.mpr (.inl (.inl q1.1)), rfl⟩⟩
  · cases e
theorem og_eq {k c : Nat} {G : PC} (M : MethP X.prog X.w X.K X.mg X.base ci k c "__eq__" [] (spP X.K ci G)) (hl : PySem.W.notFirst X.K (ci c).1 (.type "list") = true) (hr : Room k X.A) : OpG ci X (compareOp .Eq) (gOwnEq false c G) := by
  obtain ⟨f, fd, ps, ds, h1, h2, h3, h4, h5, h6, h7⟩ := M.ex
  cases h6
  refine ⟨_, op_eqOwn (E := E0) h1 h3 h5 hl hr passL, fun F T Γ S σ H x y a b d r hx hy e Q kk => ?_⟩
  unfold gOwnEq at e
  split at e
  · rename_i c' fs yd
    split at e
    · rename_i hc
      obtain ⟨rfl, hc2⟩ := hc
      split at e
      · rename_i n eG
        cases e
        obtain ⟨p, rfl, hp⟩ := ins_of r hx
        obtain ⟨tb, ht⟩ := ty_of r hy hc2
        refine ⟨p, tb, rfl, hp, ht, spP_all (l := [.ins c' fs, yd]) (vs := [.ref p, y]) (o := .ok (.bl n)) r rfl (two_data hx hy) eG (fun d' ed v H3 r3 => ?_) fun er z => by cases z⟩
        cases ed
        exact kk _ _ r3
      · cases e
    · cases e
  · cases e
theorem og_ne {k c : Nat} {G : PC} (M : MethP X.prog X.w X.K X.mg X.base ci k c "__eq__" [] (spP X.K ci G)) (hl : PySem.W.notFirst X.K (ci c).1 (.type "list") = true) (hne : PySem.W.findIn X.K (.ref (ci c).1) "__ne__" = some (some (.builtin "object.__ne__"))) (ho : PySem.W.subIn X.K (.ref (ci c).1) (.type "object") = some true)
    (hr : Room (k + 1) X.A) (hu : X.A.units + 64 < cLine) : OpG ci X (compareOp .NotEq) (gOwnEq true c G) := by
  obtain ⟨f, fd, ps, ds, h1, h2, h3, h4, h5, h6, h7⟩ := M.ex
  cases h6
  refine ⟨_, op_neOwn (E := E0) h1 h3 h5 hl hne ho hr hu passL, fun F T Γ S σ H x y a b d r hx hy e Q kk => ?_⟩
  unfold gOwnEq at e
  split at e
  · rename_i c' fs yd
    split at e
    · rename_i hc
      obtain ⟨rfl, hc2⟩ := hc
      split at e
      · rename_i n eG
        cases e
        obtain ⟨p, rfl, hp⟩ := ins_of r hx
        obtain ⟨tb, ht⟩ := ty_of r hy hc2
        refine ⟨p, tb, rfl, hp, ht, spP_all (l := [.ins c' fs, yd]) (vs := [.ref p, y]) (o := .ok (.bl n)) r rfl (two_data hx hy) eG (fun d' ed v H3 r3 => ?_) fun er z => by cases z⟩
        cases ed
        have := r3.asBl (i := n) List.mem_cons_self
        exact ⟨n, this, kk _ _ (r3.tail.bl _)⟩
      · cases e
    · cases e
  · cases e
theorem call_boolOwn {CX : CXT} {k : Nat} {C f : Addr} {fd : FuncData} {ps : List Str} {sp : Sp} {E : XK} (F : FnOk X.prog X.w X.K X.mg X.base CX k f fd ps sp) (hm : Meth X.K C "__bool__" f) (hb : Binds X.K fd ps []) (hr : Room (k + 2) X.A) (hx : Passes CX X E) :
    CallR X (.type "bool") (fun xs H Q => ∃ a, xs = [.ref a] ∧ insAt H a C ∧ sp [.ref a] H (fun v H' => ∃ b : Bool, v = .bl b ∧ Q (.bl b) H') E) := by
  intro pins s σ H xs us Q I r h
  obtain ⟨a, rfl, ⟨dx, fs, ha⟩, h⟩ := h
  cases r with
  | cons r1 r2 =>
    cases r2
    cases r1
    obtain ⟨mA, J, _⟩ := ins_get I.hok ha
    obtain ⟨od, J, _⟩ := J.look
    obtain ⟨m, hF⟩ := I.fr
    have e0 : Env0 X.prog X.w X.K X.mg X.base X.A.in1.in1 X.stack s H := I.env0.in1.in1
    have hl2 := F.len _ _ _ _ h
    have r2 : Vals [V.ref a] [Value.ref a] := .cons rfl .nil
    have hr2 : Room k X.A.in1.in1 := (show Room (k + 1) X.A.in1 from Room.in1 hr).in1
    refine PySem.W.lp_bool hF I.ok.mod.kin J hm.at_ hm.fn (wpAny_call (codeAny_mono (F.run X.A.in1.in1 X.stack s H ⟨[.ref a], []⟩ [.ref a] [.ref a] _ E hr2 e0 (by
      have := hb s [.ref a] I.kIn (by simpa using hl2)
      simpa using this) r2 h) fun z s2 hz => ?_))
    cases z with
    | error e => exact hx pins σ H s e s2 I hz
    | ok fl =>
      cases fl with
      | ret w =>
        obtain ⟨v', H2, I2, rv, b, rfl, q⟩ := I.after hz
        cases (show w = Value.bool b from rv)
        exact ⟨b, rfl, .bl b, H2, I2, rfl, q⟩
      | next => cases hz
      | brk => cases hz
      | cont => cases hz
theorem cg_bool {k c : Nat} {G : PC} (M : MethP X.prog X.w X.K X.mg X.base ci k c "__bool__" [] (spP X.K ci G)) (hr : Room (k + 2) X.A) : CallG ci X (.type "bool") (gOwnBool c G) := by
  obtain ⟨f, fd, ps, ds, h1, h2, h3, h4, h5, h6, h7⟩ := M.ex
  cases h6
  refine ⟨_, call_boolOwn (E := E0) h1 h3 h5 hr passL, fun F T Γ S σ H as vs d r hl hT e Q kk => ?_⟩
  unfold gOwnBool at e
  split at e
  · rename_i c' fs
    split at e
    · rename_i hc
      subst hc
      split at e
      · rename_i n eG
        cases e
        obtain ⟨v, rfl, hv⟩ := as1 (F := F) hl hT
        obtain ⟨p, rfl, hp⟩ := ins_of r hv
        refine ⟨p, rfl, hp, spP_all (l := [.ins c' fs]) (vs := [.ref p]) (o := .ok (.bl n)) r rfl (fun q hq => hT q (by simpa using hq)) eG (fun d' ed v H3 r3 => ?_) fun er z => by cases z⟩
        cases ed
        have := r3.asBl (i := n) List.mem_cons_self
        exact ⟨n, this, kk _ _ (by rw [← this]; exact r3)⟩
      · cases e
    · cases e
  · cases e
end
end LP

set_option maxHeartbeats 2000000
namespace PySem
open AutoSeq1 (wpAny_loadPart')
/-! enumerate(a tuple) -/
theorem lp_enumerate_newT (l : Addr) (items : Array Value) (n : Nat) (dct : Option Addr) (sl : Array (Option Value)) :
    Meets (Builtin.«enumerate.__new__» ⟨[.type "enumerate", .ref l], []⟩) (fun _ R s => s.heap.get? l = some { cls := .type "tuple", dict := dct, data := .seq items n, slots := sl } ∧
      R (.ok (.ret (.ref (s.heap.push { cls := .type "tuple_iterator", data := .fields #[.ref l, .int 0 0] }).objs.size)))
        { s with heap := (s.heap.push { cls := .type "tuple_iterator", data := .fields #[.ref l, .int 0 0] }).push { cls := .type "enumerate", data := .fields #[.none, .bool false, .ref s.heap.objs.size, rawInt 0, .none, .none] } }) :=
  .of_wp fun prog w A R s h => by
    obtain ⟨hp, g, d, tk, os⟩ := s; obtain ⟨hl, h⟩ := h
    have hsub := sub_enumerate
    have hL : Heap.IsTuple (Shared.heap ⟨hp, g, d, tk, os⟩) l items := ⟨_, hl, rfl, n, rfl⟩
    wp_walk using wpAny_loadPart' hl
    refine wpAny_stack_any fun st => wpAny_pure ?_
    split
    · rename_i c _ _ _ _ _
      cases (c == Value.type "enumerate")
      · wp_walk using wpAny_loadPart' hl, wpAny_pyIter_tuple hL
        exact ⟨_, rfl, h⟩
      · wp_walk using wpAny_loadPart' hl, wpAny_pyIter_tuple hL
        exact ⟨_, rfl, h⟩
    · wp_walk using wpAny_loadPart' hl, wpAny_pyIter_tuple hL
      exact ⟨_, rfl, h⟩
section
variable {prog : Program} {w : World} {A : Around} {E : Value → Shared → Prop} {s : Shared}
theorem lp_call_enumT {l : Addr} {items : Array Value} {Q : Value → Shared → Prop} (hL : s.heap.IsTuple l items)
    (h : ∀ h', IsEnum h' (s.heap.objs.size + 1) s.heap.objs.size 0 .none → h'.IsTupleIter s.heap.objs.size l 0 → h'.objs.size = s.heap.objs.size + 2 →
      (∀ b o, s.heap.get? b = some o → h'.get? b = some o) → Q (.ref (s.heap.objs.size + 1)) { s with heap := h' }) :
    wpAny (model prog w) A (call (.type "enumerate") [.ref l]) Q E s := by
  obtain ⟨⟨c, dct, dt, sl⟩, hl, hc, n, hd⟩ := hL
  replace hc : c = .type "tuple" := hc
  replace hd : dt = .seq items n := hd
  subst hc hd
  refine callType_new F.called_enumerate (by decide) (F.typeCall_enumerate_1 _) (F.newCall_enumerate_1 _) (fun obj => F.args_object_init_2 obj _) F.entry_enumerate_new
    (lp_enumerate_newT l items n dct sl) ⟨hl, ?_⟩
  have hz : (s.heap.push { cls := .type "tuple_iterator", data := .fields #[.ref l, .int 0 0] }).objs.size = s.heap.objs.size + 1 := Heap.size_push ..
  show _ ∧ _
  rw [hz]
  have he : IsEnum ((s.heap.push { cls := .type "tuple_iterator", data := .fields #[.ref l, .int 0 0] }).push
      { cls := .type "enumerate", data := .fields #[.none, .bool false, .ref s.heap.objs.size, rawInt 0, .none, .none] }) (s.heap.objs.size + 1) s.heap.objs.size 0 .none := by
    have := Heap.get?_push_size (s.heap.push { cls := .type "tuple_iterator", data := .fields #[.ref l, .int 0 0] })
      (o := { cls := .type "enumerate", data := .fields #[.none, .bool false, .ref s.heap.objs.size, rawInt 0, .none, .none] }) rfl
    rw [hz] at this; exact this
  refine ⟨⟨_, he, rfl⟩, h _ he ⟨_, Heap.get?_push_of_some _ (Heap.get?_push_size _ rfl), rfl, rfl⟩ (by rw [Heap.size_push, hz]) fun b o x => Heap.get?_push_of_some _ (Heap.get?_push_of_some _ x)⟩
end
end PySem
namespace LP
open PySem PySem.Spec PyProof.Rows L2
/-- the tuple at a, each item in a new pair -/
def IteT (K : PySem.W.Frag) (a : Addr) : It :=
  ⟨fun i H => ∃ (xs : List V) (x : V), SqT K H a xs ∧ xs[i]? = some x, fun i H v H' => ∃ T x, v = .ref T ∧ H T = none ∧ H' = upd H T (.tup [.int (i : Nat), x]) ∧ ∀ xs, SqT K H a xs → xs[i]? = some x, fun i H => ∃ xs : List V, SqT K H a xs ∧ xs.length = i⟩
theorem iter_ne {h : Heap} {it a : Addr} {i : Nat} {items : Array Value} (h1 : h.IsTupleIter it a i) (h2 : h.IsTuple a items) : a ≠ it := by
  rintro rfl
  obtain ⟨o, ho, hc, _⟩ := h1
  obtain ⟨o', ho', hc', _⟩ := h2
  rw [ho] at ho'
  cases ho'
  rw [hc] at hc'
  injection hc' with hc'
  exact absurd hc' (by decide)
theorem turn_enumT {P : Program} {w : World} {K : PySem.W.Frag} {elts : List Expr} {kk : Nat} {tpos : Pos} (a e it : Addr) :
    Turn P w K (.Tuple elts kk tpos) (IteT K a) [e, it] e (fun i h => (∃ old, IsEnum h e it ((i : Nat) : Int) old) ∧ h.IsTupleIter it a i ∧ e ≠ it ∧ e ≠ a) where
  mem := by simp
  obj := fun i h st b hb => by
    obtain ⟨⟨old, he⟩, ⟨o, ho, hc, hd⟩, _⟩ := st
    have e' : b = e ∨ b = it := by simpa using hb
    rcases e' with z | z
    · rw [z]; exact ⟨_, he, fun v q => nomatch q⟩
    · rw [z]; exact ⟨o, ho, fun v q => by rw [hd] at q; cases q⟩
  keep := fun i h h' st k => let ⟨⟨old, he⟩, hi, hne⟩ := st; ⟨⟨old, k e (by simp) _ he⟩, hi.at fun o q => k it (by simp) o q, hne⟩
  item := by
    intro X hP hw hK hc i pins s σ H E I hf st hg
    subst hP hw hK
    obtain ⟨⟨old, he⟩, hit, hne, hea⟩ := st
    obtain ⟨xs, x, hq, hx⟩ := hg
    obtain ⟨its, rv, p, hz⟩ := I.tuple hq
    obtain ⟨u, hu, ru⟩ := rv.get hx
    have hel : e < s.heap.objs.size := Heap.lt_size he
    have hil : it < s.heap.objs.size := by obtain ⟨_, q, _⟩ := hit; exact Heap.lt_size q
    have hai := iter_ne hit p
    have hlt : i < its.toArray.size := by
      have := (List.getElem?_eq_some_iff.mp hu).1
      simpa using this
    refine wpAny_pyNext_enum_itemD (Draws.tuple (A := X.A.in1) (I.ok.hd hc) it a hai its.toArray) he ⟨hit, p⟩ hlt hne (by simp [hne, hea]) fun x' h' tk hx' ho hst hT hsz hk => ?_
    obtain rfl : x' = u := by
      have : its.toArray[i]? = some u := by simpa using hu
      rw [this] at hx'
      exact (Option.some.inj hx').symm
    refine ⟨_, rfl, wpAny_letOwnedTupleGo_enum (s := { s with heap := h', toks := tk + 1 }) ho fun h'' he' sb => ?_⟩
    have hT2 : h''.get? s.heap.objs.size = some { cls := .type "tuple", data := .seq #[.int i tk, x'] } := (sb.2 _ (Nat.ne_of_gt hel)).trans hT
    have new : ObjOk X.prog X.w (upd H s.heap.objs.size (.tup [.int (i : Nat), x])) h'' s.heap.objs.size (.tup [.int (i : Nat), x]) :=
      ⟨by show 2 ≤ sizeLine; decide, [.int i tk, x'], .cons ⟨_, rfl⟩ (.cons ru .nil), ⟨_, hT2, rfl, _, rfl⟩⟩
    have I1 : Inv X pins σ (upd H s.heap.objs.size (.tup [.int (i : Nat), x])) { s with heap := h'', toks := tk + 1 } :=
      I.turnedNew (ch := [e, it]) (fun b ob hb q => (sb.2 b (fun z => hb (by simp [z]))).trans (hk b ob (fun z => hb (by simp [z])) (fun z => hb (by simp [z])) q)) hf (Nat.le_refl _) new
    refine ⟨.ref s.heap.objs.size, _, I1, rfl, ⟨_, x, rfl, I.hok.fresh (Nat.le_refl _), rfl, fun ys hy => by rw [I.tuple_inj hy hq]; exact hx⟩, ⟨⟨x', ?_⟩, hst.1.at fun o q => (sb.2 it (Ne.symm hne)).trans q, hne, hea⟩, fun b hb => ?_⟩
    · have e1 : ((i + 1 : Nat) : Int) = (i : Int) + 1 := by omega
      rw [e1]; exact he'
    · have hb' : b < s.heap.objs.size := by
        have e' : b = e ∨ b = it := by simpa using hb
        rcases e' with z | z
        · rw [z]; exact hel
        · rw [z]; exact hil
      rw [upd_ne (Nat.ne_of_lt hb')]
      exact (hf b hb).1
  done := by
    intro X hP hw hK hc i pins s σ H E I hf st hg
    subst hP hw hK
    obtain ⟨⟨old, he⟩, hit, hne, hea⟩ := st
    obtain ⟨xs, hq, hx⟩ := hg
    obtain ⟨its, rv, p, hz⟩ := I.tuple hq
    obtain ⟨f0, f1, f2, f3, f4, f5⟩ := hf it (by simp)
    have hl := rv.length
    have hai := iter_ne hit p
    have e1 : i = its.toArray.size := by simp; omega
    subst e1
    exact wpAny_pyNext_enum_endD (Draws.tuple (A := X.A.in1) (I.ok.hd hc) it a hai its.toArray) he ⟨hit, p⟩ fun h' eb => ⟨rfl, I.turned (t' := s.toks) (fun b o hb q => eb b o hb q) f0 f1 f3 f4 f5⟩
  self := fun A i s Q E st h => let ⟨⟨_, he⟩, _⟩ := st; wpAny_pyIter_enum he h
end LP

set_option maxHeartbeats 2000000
namespace LP
open PySem PySem.Spec PyProof.Rows L2
/-! walks over enumerate(a tuple) -/
def iEnumT (K : PySem.W.Frag) (ta : TA) : TI := fun σ H R => ta σ H fun vs H1 => ∃ a xs, vs = [.ref a] ∧ SqT K H1 a xs ∧ R (IteT K a) H1
theorem pi_enumT {X : Cx} {e : Expr} {ta : TA} {p pos tpos : Pos} {elts : List Expr} {kk : Nat} (hg : Gl X "enumerate") (hm : X.mg "enumerate" = none) (ha : PA X [e] ta) (hs : starEach [e] X.env = [(false, eval e X.env)] := by rfl) :
    PI X (.Tuple elts kk tpos) (.Call (.Name "enumerate" p) [e] [] pos) (iEnumT X.K ta) := by
  refine ⟨fun pins s σ H R I h => ?_⟩
  refine Call_ (ld_blt I hg hm boot_enumerate (PyProof.Rows.callWith_type1 (thn (ha.run pos pins s σ H _ I h) fun us s1 ⟨vs, H1, I1, r1, q1⟩ => ?_) hs rfl))
  obtain ⟨a, xs, ex, hq, q⟩ := q1
  subst ex
  cases r1 with
  | cons r rr =>
    cases rr
    cases r
    obtain ⟨its, rv, p', hz⟩ := I1.tuple hq
    have hal : a < s1.heap.objs.size := by obtain ⟨o, ho, _⟩ := id p'; exact Heap.lt_size ho
    refine lp_call_enumT p' fun h' he hit hsz hk => wpAny_pyIter_enum he ?_
    have I2 : Inv X pins σ H1 { s1 with heap := h' } := I1.kept (t' := s1.toks) hk
    refine ⟨s1.heap.objs.size + 1, [s1.heap.objs.size + 1, s1.heap.objs.size], _, _, H1, rfl, I2, turn_enumT a (s1.heap.objs.size + 1) s1.heap.objs.size, ⟨⟨.none, he⟩, hit, Nat.succ_ne_self _, Nat.ne_of_gt (Nat.lt_succ_of_lt hal)⟩, fun b hb => ?_, q⟩
    have e' : b = s1.heap.objs.size + 1 ∨ b = s1.heap.objs.size := by simpa using hb
    have hle : s1.heap.objs.size ≤ b := by
      rcases e' with z | z
      · rw [z]; exact Nat.le_add_right _ _
      · rw [z]; exact Nat.le_refl _
    exact I1.fpOk hle (I1.hok.fresh hle)
section
variable {ci : Ci} {X : Cx}
def iET (f : QF) : QI := fun Γ S => (f Γ S).map fun a _ => (viewT a).map fun l => List.zipWith pairD ((List.range l.length).map fun (i : Nat) => D.int (i : Int)) l
theorem ri_enumT {e : Expr} {elts : List Expr} {kk : Nat} {tpos p pos : Pos} {f : QF} (hg : Gl X "enumerate") (hm : X.mg "enumerate" = none) (h1 : RP ci X e f) (hs : starEach [e] X.env = [(false, eval e X.env)] := by kernel_rfl) : RI ci X (.Tuple elts kk tpos) (.Call (.Name "enumerate" p) [e] [] pos) (iET f) := fun F T Γ S σ H it ds r q1 q2 => by
  unfold iET at q1
  cases e1 : f Γ S with
  | none => rw [e1] at q1; cases q1
  | some a =>
    rw [e1] at q1; cases q1
    dsimp only at q2
    cases e4 : viewT a with
    | none => rw [e4] at q2; cases q2
    | some l =>
      rw [e4] at q2
      obtain rfl : List.zipWith pairD ((List.range l.length).map fun (i : Nat) => D.int (i : Int)) l = ds := Option.some.inj q2
      refine wpI_of (pi_enumT hg hm (pa_cons pe_wp pa_nil hs) hs) (wpX_monoI (h1 F T Γ S σ H _ r e1) fun v H1 hz r1 => ?_)
      obtain ⟨ρ, q⟩ := id r1
      obtain ⟨p, vs, rfl, hq, R⟩ := RelR.viewT (q.top (a := a) (v := v) (by simp)) e4
      have hn : ∀ l : List D, (List.zipWith pairD ((List.range l.length).map fun (i : Nat) => D.int (i : Int)) l).length = l.length := fun l => by simp
      refine ⟨p, vs, rfl, hq, [(a, .ref p)], ⟨?_, fun H => ∃ xs, SqT X.K H p xs ∧ xs.length = l.length, (IteT X.K p).yld, ⟨?_, ?_, fun _ _ _ _ _ _ y => y⟩, ?_⟩, r1⟩
      · have := hz p vs (.inr hq)
        rw [hn, R.length]; exact this
      · rintro i H hi ⟨xs, h1, h3⟩
        rw [hn] at hi
        have a1 : i < xs.length := by omega
        exact ⟨xs, xs[i], h1, by simp [a1]⟩
      · rintro H ⟨xs, h1, h3⟩
        exact ⟨xs, h1, by rw [hn]; exact h3⟩
      · intro F T Γ S σ H r hU hS
        obtain ⟨ρ, r⟩ := r
        obtain ⟨_, xs, ex, hx, Rx⟩ := RelR.viewT (r.top (a := a) (v := .ref p) (hU _ (by simp))) e4
        cases ex
        refine ⟨⟨xs, hx, by rw [← Rx.length]⟩, ?_⟩
        rintro i w H' hi ⟨t, x, rfl, ht, rfl, g1⟩
        rw [hn] at hi
        obtain ⟨d1, k1, k2⟩ := Rx.get (g1 xs hx)
        refine ⟨pairD (.int (i : Nat)) d1, ?_, newPair r ht (by rw [Rep]) k2⟩
        rw [List.getElem?_zipWith, k1, List.getElem?_map, List.getElem?_range (by omega)]
        rfl
end
end LP

set_option maxHeartbeats 2000000
namespace LP
open PySem PySem.Spec PyProof.Rows L2
/-! a class's constants; isinstance of an own class; o.m(k = v); xs[::-1] -/
/-- the class at C has the whole number i as f -/
def cvalB (C f : Str) (i : Int) (K : PySem.W.Frag) : Bool := PySem.W.readsIn K (He.ga K C) (.type "type") && (decide (PySem.W.specialIn K (.ref (He.ga K C)) "__getattribute__" = some (some (.builtin "type.__getattribute__"))) && (match PySem.W.findCls K (.ref (He.ga K C)) (.type "type") f with
  | some (.val (.int j _)) => decide (j = i)
  | _ => false))
/-- C.f -/
structure CvalI (K : PySem.W.Frag) (C : Addr) (f : Str) (i : Int) : Prop where
  rd : PySem.W.readsIn K C (.type "type") = true
  ga : PySem.W.specialIn K (.ref C) "__getattribute__" = some (some (.builtin "type.__getattribute__"))
  at_ : ∃ t, PySem.W.findCls K (.ref C) (.type "type") f = some (.val (.int i t))
theorem cvalB_ok {K : PySem.W.Frag} {C f : Str} {i : Int} (h : cvalB C f i K = true) : CvalI K (He.ga K C) f i := by
  obtain ⟨h1, h⟩ := He.ba h
  obtain ⟨h0, h2⟩ := He.ba h
  refine ⟨h1, of_decide_eq_true h0, ?_⟩
  split at h2
  · rename_i j t e
    rw [of_decide_eq_true h2] at e
    exact ⟨t, e⟩
  · cases h2
/-- isinstance by the class at C -/
structure IsiO (K : PySem.W.Frag) (C : Addr) : Prop where
  cl : Cls K C
  ha : PySem.W.findIn K (.ref C) "__class__" = some (some (.builtin "object.__class__"))
  hn : PySem.W.specialIn K (.builtin "object.__class__") "__get__" = some (some (.builtin "getset_descriptor.__get__"))
  tk : PySem.W.takesIn K (.builtin "object.__class__") = some true
  hm : PySem.W.mroIn K C (.type "object") = some true
  self : PySem.W.kitOne K (.ref C) (.ref C) = some true
  no : ∀ t : TN, PySem.W.kitOne K (.type t.nm) (.ref C) = some false
def isoB (x : Str) (K : PySem.W.Frag) : Bool := (He.Fa.cls x).ok K && (He.eqO (PySem.W.findIn K (.ref (He.ga K x)) "__class__") (some (some (.builtin "object.__class__"))) && (decide (PySem.W.specialIn K (.builtin "object.__class__") "__get__" = some (some (.builtin "getset_descriptor.__get__"))) &&
  (decide (PySem.W.takesIn K (.builtin "object.__class__") = some true) && (decide (PySem.W.mroIn K (He.ga K x) (.type "object") = some true) && (decide (PySem.W.kitOne K (.ref (He.ga K x)) (.ref (He.ga K x)) = some true) &&
  ([TN.none, .bool, .int, .str, .tuple, .list, .dict].all fun t => decide (PySem.W.kitOne K (.type t.nm) (.ref (He.ga K x)) = some false)))))))
theorem isoB_ok {K : PySem.W.Frag} {x : Str} (h : isoB x K = true) : IsiO K (He.ga K x) := by
  obtain ⟨h1, h⟩ := He.ba h
  obtain ⟨h2, h⟩ := He.ba h
  obtain ⟨h3, h⟩ := He.ba h
  obtain ⟨h4, h⟩ := He.ba h
  obtain ⟨h5, h⟩ := He.ba h
  obtain ⟨h6, h7⟩ := He.ba h
  refine ⟨He.cls_ok h1, He.eqO_ok h2, of_decide_eq_true h3, of_decide_eq_true h4, of_decide_eq_true h5, of_decide_eq_true h6, fun t => ?_⟩
  have := List.all_eq_true.mp h7 t (by cases t <;> simp)
  exact of_decide_eq_true this
def gIsiO (c : Nat) (S : So) : A → Option Bool
  | .d (.ins c' _) => if c' = c then some true else none
  | a => (tyA S a).map fun _ => false
def fIsiO (c : Nat) (f : QF) : QF := fun Γ S => (f Γ S).bind fun a => (gIsiO c S a).map fun b => .d (.bl b)
def fRev (f : QF) : QF := fun Γ S => (f Γ S).bind fun a => (viewL S a).map fun l => .d (.lst l.reverse)
section
variable {ci : Ci} {X : Cx}
theorem rp_cval {x f : Str} {p pos : Pos} {C : Addr} {i : Int} (h : CvalI X.K C f i) (hg : Gl X x) (hm : X.mg x = some (.ref C)) (hd : (x == ("__debug__" : Str)) = false := by decide +kernel)
    (hb : attributeBase (.Name x p) f X.env (eval (.Name x p) X.env) = eval (.Name x p) X.env := by kernel_rfl) : RP ci X (.Attribute (.Name x p) f pos) (fC (.int i)) := fun F T Γ S σ H a r q => by
  cases q
  obtain ⟨t, ht⟩ := h.at_
  refine wpX_of (ClX.pe_cval (pe_glob (v := .ref C) hg hm rfl hd) hb) ?_
  exact ⟨C, .type "type", .int i, .int i t, rfl, ⟨h.rd, h.ga⟩, ⟨ht, ⟨t, rfl⟩⟩, r.int _⟩
theorem rp_isiO {c : Nat} {n : Str} {e : Expr} {f : QF} {p p2 pos : Pos} (h : IsiO X.K (ci c).1) (hg : Gl X "isinstance") (hm : X.mg "isinstance" = none) (hg2 : Gl X n) (hm2 : X.mg n = some (.ref (ci c).1)) (he : RP ci X e f) (hdb2 : (n == ("__debug__" : Str)) = false := by decide +kernel)
    (hs : starEach [e, .Name n p2] X.env = (false, eval e X.env) :: starEach [.Name n p2] X.env := by kernel_rfl) : RP ci X (.Call (.Name "isinstance" p) [e, .Name n p2] [] pos) (fIsiO c f) := fun F T Γ S σ H z r q => by
  unfold fIsiO at q
  cases e1 : f Γ S with
  | none => rw [e1] at q; cases q
  | some a =>
    rw [e1, Option.bind_some] at q
    cases e2 : gIsiO c S a with
    | none => rw [e2] at q; cases q
    | some b =>
      rw [e2] at q; cases q
      refine wpX_of (pe_callB call_isi hg hm (by decide +kernel) (pa_cons pe_wp (pa_cons (pe_glob (v := .ref (ci c).1) hg2 hm2 rfl hdb2) pa_nil) hs) (by decide) (by decide) hs) (wpX_mono (he F T Γ S σ H _ r e1) fun v H1 r1 => ?_)
      obtain ⟨ρ, q1⟩ := id r1
      unfold gIsiO at e2
      split at e2
      · rename_i c' fs
        split at e2
        · rename_i hc
          cases e2
          subst hc
          obtain ⟨p', dx, vs, rfl, hp⟩ := ins_at (q1.top (a := .d (.ins c' fs)) List.mem_cons_self)
          exact ⟨_, _, _, _, _, rfl, .own _, .base (.ins hp h.cl h.ha h.hn h.tk h.hm), h.self, by simpa using r1.tail.bl _⟩
        · cases e2
      · cases e3 : tyA S a with
        | none => rw [e3] at e2; cases e2
        | some u =>
          rw [e3] at e2; cases e2
          exact ⟨v, _, _, _, _, rfl, .own _, tyA_ok q1 (q1.top (a := a) List.mem_cons_self) e3, h.no u, by simpa using r1.tail.bl _⟩
theorem rp_rev {k : Nat} {e : Expr} {f : QF} {p1 p2 p3 pos : Pos} (he : RP ci X e f) : RP ci X (.Subscript e (.Slice none none (some (.UnaryOp .USub (.Constant (.int 1) k p1) p2)) p3) pos) (fRev f) := fun F T Γ S σ H z r q => by
  unfold fRev at q
  cases e1 : f Γ S with
  | none => rw [e1] at q; cases q
  | some a =>
    rw [e1, Option.bind_some] at q
    cases e2 : viewL S a with
    | none => rw [e2] at q; cases q
    | some l =>
      rw [e2] at q; cases q
      refine wpX_of (pe_revL pe_wp) (wpX_mono (he F T Γ S σ H _ r e1) fun v H1 ⟨ρ, r1⟩ => ?_)
      obtain ⟨a', xs, rfl, hq, R⟩ := r1.viewL (r1.top (a := a) List.mem_cons_self) e2
      refine ⟨a', xs, rfl, hq, fun p hp => ⟨ρ, (r1.newL hp (ds := l.reverse) ?_).drop drop2⟩⟩
      clear hq e2
      induction l generalizing xs with
      | nil => rw [Reps] at R; subst R; simp [Reps]
      | cons d l ih =>
        rw [Reps] at R
        obtain ⟨v, rr, rfl, q1, q2⟩ := R
        rw [List.reverse_cons, List.reverse_cons]
        exact (ih _ q2).append (.cons q1 .nil)
/-! methods called by keywords -/
structure MethKP (P : Program) (w : World) (K : PySem.W.Frag) (mg : Str → Option Value) (base : Heap) (ci : Ci) (k : Nat) (c : Nat) (m : Str) (ks : List Str) (ix : List Nat) (dfl : List D) (sp : Sp) : Prop where
  ex : ∃ (f : Addr) (fd : FuncData) (ps : List Str) (its : List Value), FnOk P w K mg base (L2.CX P w) k f fd ps sp ∧ Cls K (ci c).1 ∧ Meth K (ci c).1 m f ∧ m ∉ (ci c).2 ∧ KB K fd ps 1 ks ix dfl its ∧ dfl.all D.flat = true
def wMethK (c : Nat) (ix : List Nat) (dfl : List D) (G : PC) (fo : QF) (wk : WAs) : WE := fun Γ S ex Q => ∃ fs, fo Γ S = some (.d (.ins c fs)) ∧ wk Γ S ex fun bs S2 => ∃ l o, dataOf (sel ix ([A.d (.ins c fs)] ++ dfl.map A.d ++ bs)) = some l ∧ G l = some o ∧ match o with | .ok d => Q (.d d) S2 | .error er => ex er S2
def tMethKw (C : Addr) (m : Str) (sp : Sp) (gv : List V → List V → List V) (n : Nat) (E : XK) (ta : TE) (tk : TA) : TE := fun σ H Q => ta σ H fun x H1 => ∃ a dx fs, x = .ref a ∧ H1 a = some (.ins C dx fs) ∧ fs.lookup m = none ∧ tk σ H1 fun zs H2 => zs.length = n ∧ sp (gv [.ref a] zs) H2 Q E
theorem pe_methKw {k : Nat} {C f : Addr} {fd : FuncData} {ps ks : List Str} {sp : Sp} {E : XK} {g : List Value → List Value → List Value} {gv : List V → List V → List V} {o : Expr} {m : Str} {apos pos : Pos} {kws : List Keyword} {ta : TE} {tk : TA} {pl : Sem Bool} (he : PE X o ta) (c : Cls X.K C) (hm : Meth X.K C m f)
    (F : FnOk X.prog X.w X.K X.mg X.base (L2.CX X.prog X.w) k f fd ps sp) (hr : Room k X.A) (hb : KBn X.K fd ps 1 ks g gv) (hx : Passes (L2.CX X.prog X.w) X E) (hkw : PK X kws tk)
    (hall : (backToKw pos (keywordEach kws X.env)).all (fun z => z.1.isSome) = true) (hks : (backToKw pos (keywordEach kws X.env)).filterMap (fun z => z.1) = ks)
    (hpl : ((backTo pos (starEach [] X.env)).any (fun z => z.1) || (backToKw pos (keywordEach kws X.env)).any (fun z => z.1.isNone)) = false)
    (ht : eval (.Call (.Attribute o m apos) [] kws pos) X.env = (do
      let ov ← eval o X.env
      standAt apos.atName
      let (f, first) ← holding [ov] (getMethod ov m pl)
      callWith pos f first (backTo pos (starEach [] X.env)) (backToKw pos (keywordEach kws X.env)))) :
    PE X (.Call (.Attribute o m apos) [] kws pos) (tMethKw C m sp gv ks.length E ta tk) := by
  refine ⟨fun pins s σ H Q I h => ?_⟩
  refine PySem.W.methodCall_KW (pl := pl) (thn (he.run pins s σ H _ I h) fun u s1 ⟨x, H1, I1, rx, a, dx, fs, ex, ea, l, q⟩ => ?_) ht
  subst ex
  obtain rfl : u = Value.ref a := rx
  refine getmeth_ok I1 ea c hm l ?_
  refine PySem.W.callWith_KW0 (h₀ := X.base) (first := [.ref a]) I1.ok.mod.kin hm.kp hall ?_ hpl
  refine thn (hkw.run pos pins s1 σ H1 _ I1 q) fun ws s2 ⟨zs, H2, I2, rz, l2, q2⟩ => ⟨I2.kIn, ?_⟩
  rw [hks]
  exact run_kb (us := [.ref a]) (vs := [.ref a]) F hr hb hx I2 (.cons rfl .nil) rz rfl l2 q2
theorem re_methK {k c : Nat} {o : Expr} {m : Str} {apos pos : Pos} {kws : List Keyword} {ks : List Str} {ix : List Nat} {dfl : List D} {G : PC} {fo : QF} {wk : WAs} {pl : Sem Bool} (M : MethKP X.prog X.w X.K X.mg X.base ci k c m ks ix dfl (spP X.K ci G)) (hr : Room k X.A) (ho : RP ci X o fo) (hk : RK ci X kws wk) (hn : ks.length = kws.length := by kernel_rfl)
    (hall : (backToKw pos (keywordEach kws X.env)).all (fun z => z.1.isSome) = true := by kernel_rfl) (hks : (backToKw pos (keywordEach kws X.env)).filterMap (fun z => z.1) = ks := by rfl)
    (hpl : ((backTo pos (starEach [] X.env)).any (fun z => z.1) || (backToKw pos (keywordEach kws X.env)).any (fun z => z.1.isNone)) = false := by kernel_rfl)
    (ht : eval (.Call (.Attribute o m apos) [] kws pos) X.env = (do
      let ov ← eval o X.env
      standAt apos.atName
      let (f, first) ← holding [ov] (getMethod ov m pl)
      callWith pos f first (backTo pos (starEach [] X.env)) (backToKw pos (keywordEach kws X.env))) := by rfl) : RE ci X (.Call (.Attribute o m apos) [] kws pos) (wMethK c ix dfl G fo wk) := fun F ex xo T Γ S σ H Q r q => by
  obtain ⟨fs, e1, q⟩ := q
  obtain ⟨f, fd, ps, its, h1, h2, h3, h4, h5, h6⟩ := M.ex
  refine wpX_of (pe_methKw (E := fun cls d H => ExW F ex cls d H) pe_wp h2 h3 h1 hr h5 (passX xo) pk_wp hall hks hpl ht) (wpX_mono (ho F T Γ S σ H _ r e1) fun v H1 r1 => ?_)
  obtain ⟨ρ1, q1⟩ := id r1
  obtain ⟨p, dx, vs, rfl, hp⟩ := ins_at (q1.top (a := .d (.ins c fs)) List.mem_cons_self)
  refine ⟨p, dx, _, rfl, hp, zip_lookup_none h4, wpK_mono (hk F ex xo _ Γ S σ H1 _ r1 q) fun zs H2 ⟨bs, S2, hz, hm, r2, q2⟩ => ?_⟩
  exact ⟨by rw [← hz, hm, hn], callK_end (as := [.d (.ins c fs)]) (vs := [.ref p]) rfl hz h6 r2 q2⟩
end
end LP

set_option maxHeartbeats 2000000
namespace LP
open PySem PySem.Spec PyProof.Rows L2
/-! comprehensions of two clauses -/
section
theorem walk_in {J : It} {n : Nat} {G : Hp → Prop} {Y : Nat → Hp → V → Hp → Prop} (w : Walk J n G Y) {B : V → Hp → (Hp → Prop) → Prop} {Nx : Hp → Prop} {H0 : Hp} (P : Nat → Hp → Prop) (h0 : P 0 H0) (hG : ∀ i H, i ≤ n → P i H → G H)
    (hs : ∀ i x H H', i < n → P i H → Y i H x H' → B x H' (P (i + 1))) (hd : ∀ H, P n H → Nx H) :
    ∃ W : Nat → Nat → Hp → Prop, (∃ m, W 0 m H0) ∧ ∀ i m H, W i m H → (J.stop i H ∧ Nx H) ∨ (J.go i H ∧ ∃ Nx1 : Hp → Prop, (∀ H', Nx1 H' → ∃ m', m' < m ∧ W (i + 1) m' H') ∧ ∀ x H', J.yld i H x H' → B x H' Nx1) := by
  refine ⟨fun i m H => m = n - i ∧ i ≤ n ∧ P i H, ⟨n, by simp, Nat.zero_le _, h0⟩, ?_⟩
  rintro i m H ⟨rfl, hi, p⟩
  have q := hG i H hi p
  by_cases hlt : i < n
  · refine .inr ⟨w.goes i H hlt q, P (i + 1), fun H' p' => ⟨n - (i + 1), by omega, rfl, hlt, p'⟩, fun x H' y => hs i x H H' hlt p (w.yields i H x H' hlt q y)⟩
  · have e : i = n := by omega
    subst e
    exact .inl ⟨w.stops H q, hd H p⟩
def catL {α β : Type} (h : α → Option (List β)) : List α → Option (List β)
  | [] => some []
  | x :: xs => (h x).bind fun r => (catL h xs).map (r ++ ·)
theorem catL_snoc {α β : Type} {h : α → Option (List β)} {y : α} {o : List β} (e2 : h y = some o) : ∀ {xs : List α} {r : List β}, catL h xs = some r → catL h (xs ++ [y]) = some (r ++ o)
  | [], r, e => by cases e; simp [catL, e2]
  | x :: xs, r, e => by
    unfold catL at e
    rw [List.cons_append, catL]
    cases e1 : h x with
    | none => rw [e1] at e; cases e
    | some p =>
      rw [e1, Option.bind_some] at e
      cases e3 : catL h xs with
      | none => rw [e3] at e; cases e
      | some r' =>
        rw [e3] at e; cases e
        rw [Option.bind_some, catL_snoc e2 e3, Option.map_some, List.append_assoc]
theorem catL_at {α β : Type} {h : α → Option (List β)} : ∀ {xs : List α} {r : List β} {i : Nat} {x : α}, catL h xs = some r → xs[i]? = some x → ∃ a o q, h x = some o ∧ catL h (xs.take i) = some a ∧ r = a ++ (o ++ q)
  | [], r, i, x, e, hx => by simp at hx
  | y :: xs, r, i, x, e, hx => by
    unfold catL at e
    cases e1 : h y with
    | none => rw [e1] at e; cases e
    | some p =>
      rw [e1, Option.bind_some] at e
      cases e3 : catL h xs with
      | none => rw [e3] at e; cases e
      | some r' =>
        rw [e3] at e; cases e
        cases i with
        | zero => simp at hx; subst hx; exact ⟨[], p, r', e1, rfl, by simp⟩
        | succ i =>
          obtain ⟨a, o, q, h1, h2, h3⟩ := catL_at e3 (by simpa using hx)
          refine ⟨p ++ a, o, q, h1, ?_, by rw [h3, List.append_assoc]⟩
          rw [List.take_succ_cons, catL, e1, Option.bind_some, h2, Option.map_some]
theorem compL_take {α β : Type} {h : α → Option (Option β)} : ∀ {xs : List α} {r : List β} {i : Nat} {x : α}, compL h xs = some r → xs[i]? = some x → ∃ a o q, h x = some o ∧ compL h (xs.take i) = some a ∧ r = a ++ (o.toList ++ q)
  | [], r, i, x, e, hx => by simp at hx
  | y :: xs, r, i, x, e, hx => by
    simp only [compL] at e
    cases e1 : h y with
    | none => rw [e1] at e; cases e
    | some p =>
      rw [e1, Option.bind_some] at e
      cases e3 : compL h xs with
      | none => rw [e3] at e; cases e
      | some r' =>
        rw [e3] at e; cases e
        cases i with
        | zero =>
          simp at hx; subst hx
          refine ⟨[], p, r', e1, rfl, ?_⟩
          cases p <;> rfl
        | succ i =>
          obtain ⟨a, o, q, h1, h2, h3⟩ := compL_take e3 (by simpa using hx)
          refine ⟨p.toList ++ a, o, q, h1, ?_, ?_⟩
          · rw [List.take_succ_cons]
            simp only [compL, e1, Option.bind_some, h2, Option.map_some]
            cases p <;> rfl
          · rw [h3]
            cases p <;> rfl
end
def elt2 (t : TgF) (vs : List Nat) (b : QB) (fi1 : QI) (t1 : TgF) (vs1 : List Nat) (b1 : QB) (f : QF) (Γ : Ga) (S : So) (d : D) : Option (List D) := (t (wipeG Γ vs) d).bind fun Γ' => (b Γ' S).bind fun c => if c = true then (fi1 Γ' S).bind fun it1 => (it1 S).bind fun ds1 => compL (eltF t1 vs1 b1 f Γ' S) ds1 else some []
def fComp2 (fi : QI) (t : TgF) (vs : List Nat) (b : QB) (fi1 : QI) (t1 : TgF) (vs1 : List Nat) (b1 : QB) (f : QF) : QF := fun Γ S => (fi Γ S).bind fun it => (it S).bind fun ds => (catL (elt2 t vs b fi1 t1 vs1 b1 f Γ S) ds).bind fun l => if l.length ≤ sizeLine then some (.d (.lst l)) else none
section
variable {ci : Ci} {X : Cx}
theorem zip_snoc {acc : List D} {vs' : List V} {d6 : D} {y : V} (h3 : acc.length = vs'.length) : ((acc ++ [d6]).map A.d).zip (vs' ++ [y]) = (acc.map A.d).zip vs' ++ [(A.d d6, y)] := by
  rw [List.map_append, List.zip_append (by simp [h3])]; rfl
/-- one turn of the innermost clause -/
theorem elt_step {elt tg : Expr} {ifs : List Expr} {scope : Scope} {vs : List Nat} {t : TgF} {ws : List Nat} {b : QB} {f : QF} (hg : BlkX X scope fun Y => RG ci Y tg t ws) (hw : ∀ i ∈ ws, i ∈ vs) (hb : BlkX X scope fun Y => RC ci Y ifs b) (hf : BlkX X scope fun Y => RP ci Y elt f)
    {F : Fr X.K ci} {T1 : List (A × V)} {Γ : Ga} {S : So} {σ : L2.St} {Hb H3 : Hp} {Dl : Addr} {ρ : List Addr} {acc : List D} {vs' : List V} {d : D} {x : V} {o : Option D} {Nx : Hp → Prop}
    (hV : ∀ (j : Nat) (a : A), Γ[j]? = some (some a) → ∃ v, σ[j]? = some (some v) ∧ (a, v) ∈ T1) (hgs : Γ.length = σ.length) (h2 : Hb Dl = none) (h3 : acc.length = vs'.length) (h4 : RelR F ρ ((acc.map A.d).zip vs' ++ T1) Γ S σ Hb) (hlen : acc.length + o.toList.length ≤ sizeLine)
    (ho : eltF t vs b f Γ S d = some o) (r3 : Rel (F.hide (upd Hb Dl (.lst vs')) ρ S Dl) ((.d d, x) :: ((acc.map A.d).zip vs' ++ T1)) Γ S σ H3)
    (hN : ∀ H', (∃ vs2 Hb2 ρ2, Hb2 Dl = none ∧ H' = upd Hb2 Dl (.lst vs2) ∧ (acc ++ o.toList).length = vs2.length ∧ RelR F ρ2 (((acc ++ o.toList).map A.d).zip vs2 ++ T1) Γ S σ Hb2) → Nx H') :
    gB X scope tg x (L2.wipe σ vs) H3 fun σ2 H2 => L2.wipe σ2 vs = L2.wipe σ vs ∧ tB' X scope ifs σ2 H2 fun c H3 => if c = true then eB X scope elt σ2 H3 fun y H4 => ∃ acc, H4 Dl = some (.lst acc) ∧ acc.length < sizeLine ∧ Nx (upd H4 Dl (.lst (acc ++ [y]))) else Nx H3 := by
  unfold eltF at ho
  cases e4 : t (wipeG Γ vs) d with
  | none => rw [e4] at ho; cases ho
  | some Γ' =>
    rw [e4, Option.bind_some] at ho
    cases e5 : b Γ' S with
    | none => rw [e5] at ho; cases ho
    | some c =>
      rw [e5, Option.bind_some] at ho
      obtain ⟨ρ3, r3⟩ := r3
      intro s0 H0 C cl fp
      refine gWp_mono (hg s0 H0 C cl fp _ _ (wipeG Γ vs) S (L2.wipe σ vs) H3 d x Γ' ⟨ρ3, r3.wipe vs⟩ List.mem_cons_self e4) fun σ2 H4 ⟨w1, r4⟩ => ?_
      refine ⟨by rw [w1 vs hw, wipe_idem vs vs fun _ h => h], ?_⟩
      have back : ∀ {ρ5 : List Addr} {T5 : List (A × V)} {H5 : Hp}, RelR (F.hide (upd Hb Dl (.lst vs')) ρ S Dl) ρ5 (T5 ++ ((acc.map A.d).zip vs' ++ T1)) Γ' S σ2 H5 → H5 Dl = some (.lst vs') ∧ RelR F ρ5 (T5 ++ ((acc.map A.d).zip vs' ++ T1)) Γ S σ (less H5 Dl) := fun {ρ5 T5 H5} r5 => by
        obtain ⟨q1, q2⟩ := h4.hideOut h2 r5
        refine ⟨q1, q2.slots hgs fun j a e => ?_⟩
        obtain ⟨v, v1, v2⟩ := hV j a e
        exact ⟨v, v1, q2.tl (a, v) (by simp [v2])⟩
      intro s0 H0 C cl fp
      have tst : wpC (X.blk s0 H0 scope (compEnvC scope cl C X.env) fp) ifs σ2 H4 (fun c' H' => c' = c ∧ Rel (F.hide (upd Hb Dl (.lst vs')) ρ S Dl) ((.d d, x) :: ((acc.map A.d).zip vs' ++ T1)) Γ' S σ2 H') := by
        rcases hb s0 H0 C cl fp with ⟨rfl, rfl⟩ | ⟨e0, rfl, hbb⟩
        · cases e5
          exact wpC_of pts_nil ⟨rfl, r4⟩
        · exact wpC_of (pts_one pt_wp) (hbb _ _ Γ' S σ2 H4 c r4 e5)
      refine wpC_mono tst fun c' H5 ⟨hc', r5⟩ => ?_
      subst hc'
      cases c' with
      | false =>
        rw [if_neg Bool.false_ne_true] at ho
        cases ho
        refine iteF ?_
        obtain ⟨ρ5, r5⟩ := r5
        obtain ⟨q1, q2⟩ := back (T5 := [_]) r5
        refine hN _ ⟨vs', less H5 Dl, ρ5, less_same, ?_, by simpa using h3, (q2.drop fun q hq => List.mem_cons_of_mem _ (by simpa using hq))⟩
        rw [← upd_less]
        funext z
        by_cases hz : z = Dl
        · subst hz; rw [upd_same, q1]
        · rw [upd_ne hz]
      | true =>
        rw [if_pos rfl] at ho
        cases e6 : f Γ' S with
        | none => rw [e6] at ho; cases ho
        | some a6 =>
          cases a6 with
          | loc k6 => rw [e6] at ho; cases ho
          | d d6 =>
            rw [e6] at ho
            cases ho
            refine iteT ?_
            intro s0 H0 C cl fp
            refine wpX_mono (hf s0 H0 C cl fp _ _ Γ' S σ2 H5 _ r5 e6) fun y H6 r6 => ?_
            obtain ⟨ρ6, r6⟩ := r6
            obtain ⟨q1, q2⟩ := back (T5 := [_, _]) r6
            have hlen' : vs'.length < sizeLine := by
              have : (some d6).toList.length = 1 := rfl
              rw [this] at hlen
              omega
            refine ⟨vs', q1, hlen', hN _ ⟨vs' ++ [y], less H6 Dl, ρ6, less_same, upd_less, by simp [h3], ?_⟩⟩
            refine q2.drop fun q hq => ?_
            have e7 : ((acc ++ (some d6).toList).map A.d).zip (vs' ++ [y]) = (acc.map A.d).zip vs' ++ [(A.d d6, y)] := zip_snoc h3
            rw [e7] at hq
            simp only [List.mem_append, List.mem_cons, List.not_mem_nil, or_false, List.cons_append, List.nil_append] at hq ⊢
            rcases hq with (hq | hq) | hq
            · exact .inr (.inr (.inl hq))
            · exact .inl hq
            · exact .inr (.inr (.inr hq))
end
end LP

set_option maxHeartbeats 2000000
namespace LP
open PySem PySem.Spec PyProof.Rows L2
section
variable {ci : Ci} {X : Cx}
def iB (X : Cx) (scope : Scope) (tg iter : Expr) : TI := fun σ H R => BlkX X scope fun Y => wpI Y tg iter σ H R
theorem comp2_run {elt tg iter tg1 iter1 : Expr} {ifs ifs1 : List Expr} {scope : Scope} {vs vs1 : List Nat} {fi fi1 : QI} {t t1 : TgF} {ws ws1 : List Nat} {b b1 : QB} {f : QF} (hi : RI ci X tg iter fi) (hg : BlkX X scope fun Y => RG ci Y tg t ws) (hw : ∀ i ∈ ws, i ∈ vs) (hb : BlkX X scope fun Y => RC ci Y ifs b)
    (hi1 : BlkX X scope fun Y => RI ci Y tg1 iter1 fi1) (hg1 : BlkX X scope fun Y => RG ci Y tg1 t1 ws1) (hw1 : ∀ i ∈ ws1, i ∈ vs1) (hv1 : ∀ i ∈ vs1, i ∈ vs) (hb1 : BlkX X scope fun Y => RC ci Y ifs1 b1) (hf : BlkX X scope fun Y => RP ci Y elt f)
    {F : Fr X.K ci} {T : List (A × V)} {Γ : Ga} {S : So} {σ : L2.St} {H : Hp} {a : A} (r : Rel F T Γ S σ H) (q : fComp2 fi t vs b fi1 t1 vs1 b1 f Γ S = some a) {Q : VK} (k : ∀ p H', Rel F ((a, .ref p) :: T) Γ S σ H' → Q (.ref p) H') :
    tLc2 (wpI X tg iter) (gB X scope tg) (tB' X scope ifs) (iB X scope tg1 iter1) (gB X scope tg1) (tB' X scope ifs1) (eB X scope elt) vs vs1 σ H Q := by
  unfold fComp2 at q
  cases e1 : fi Γ S with
  | none => rw [e1] at q; cases q
  | some it =>
    rw [e1, Option.bind_some] at q
    cases e2 : it S with
    | none => rw [e2] at q; cases q
    | some ds =>
      rw [e2, Option.bind_some] at q
      cases e3 : catL (elt2 t vs b fi1 t1 vs1 b1 f Γ S) ds with
      | none => rw [e3] at q; cases q
      | some res =>
        rw [e3, Option.bind_some] at q
        split at q
        · rename_i hres
          cases q
          refine wpI_mono (hi F T Γ S σ H it ds r e1 e2) fun J H1 ⟨U, ⟨hsz, G, Y, W, spec⟩, r1⟩ Dl hD => ?_
          obtain ⟨ρ1, r1⟩ := r1
          obtain ⟨V', hV, r1⟩ := r1.keep
          have hgs := r1.gs
          let T1 := V' ++ (U ++ T)
          refine walk_in W (fun i H' => ∃ acc vs' Hb ρ, catL (elt2 t vs b fi1 t1 vs1 b1 f Γ S) (ds.take i) = some acc ∧ Hb Dl = none ∧ H' = upd Hb Dl (.lst vs') ∧ acc.length = vs'.length ∧ RelR F ρ ((acc.map A.d).zip vs' ++ T1) Γ S σ Hb) ⟨[], [], H1, ρ1, by simp [catL], hD, rfl, rfl, r1⟩ ?_ ?_ ?_
          · rintro i H' _ ⟨acc, vs', Hb, ρ, h1, h2, rfl, h3, h4⟩
            exact (spec F _ Γ S σ _ ⟨ρ, h4.alloc h2⟩ (fun q hq => by simp [T1, hq]) e2).1
          · rintro i x H2 H3 hlt ⟨acc, vs', Hb, ρ, h1, h2, rfl, h3, h4⟩ hy
            have rin := h4.hideIn (o := .lst vs') h2
            obtain ⟨d, hd, r3⟩ := (spec _ _ Γ S σ _ ⟨ρ, rin⟩ (fun q hq => by simp [T1, hq]) e2).2 i x H3 hlt hy
            obtain ⟨acc', o, rest, ho, hta, hsp⟩ := catL_at e3 hd
            have hae : acc' = acc := by rw [hta] at h1; exact Option.some.inj h1
            subst hae
            have hacc := catL_snoc ho h1
            have htk : ds.take (i + 1) = ds.take i ++ [d] := by rw [List.take_succ, hd]; rfl
            rw [← htk] at hacc
            have hlen0 : acc'.length + o.length ≤ sizeLine := by
              have : res.length = acc'.length + (o.length + rest.length) := by rw [hsp]; simp
              omega
            unfold elt2 at ho
            cases e4 : t (wipeG Γ vs) d with
            | none => rw [e4] at ho; cases ho
            | some Γ' =>
              rw [e4, Option.bind_some] at ho
              cases e5 : b Γ' S with
              | none => rw [e5] at ho; cases ho
              | some c =>
                rw [e5, Option.bind_some] at ho
                obtain ⟨ρ3, r3⟩ := r3
                intro s0 H0 C cl fp
                refine gWp_mono (hg s0 H0 C cl fp _ _ (wipeG Γ vs) S (L2.wipe σ vs) H3 d x Γ' ⟨ρ3, r3.wipe vs⟩ List.mem_cons_self e4) fun σ2 H4 ⟨w1, r4⟩ => ?_
                refine ⟨by rw [w1 vs hw, wipe_idem vs vs fun _ h => h], ?_⟩
                intro s0 H0 C cl fp
                have tst : wpC (X.blk s0 H0 scope (compEnvC scope cl C X.env) fp) ifs σ2 H4 (fun c' H' => c' = c ∧ Rel (F.hide (upd Hb Dl (.lst vs')) ρ S Dl) ((.d d, x) :: ((acc'.map A.d).zip vs' ++ T1)) Γ' S σ2 H') := by
                  rcases hb s0 H0 C cl fp with ⟨rfl, rfl⟩ | ⟨e0, rfl, hbb⟩
                  · cases e5
                    exact wpC_of pts_nil ⟨rfl, r4⟩
                  · exact wpC_of (pts_one pt_wp) (hbb _ _ Γ' S σ2 H4 c r4 e5)
                refine wpC_mono tst fun c' H5 ⟨hc', r5⟩ => ?_
                subst hc'
                cases c' with
                | false =>
                  rw [if_neg Bool.false_ne_true] at ho
                  cases ho
                  refine iteF ?_
                  obtain ⟨ρ5, r5⟩ := r5
                  obtain ⟨q1, q2⟩ := h4.hideOut h2 r5
                  have q3 := q2.slots hgs fun j a e => by
                    obtain ⟨v, v1, v2⟩ := hV j a e
                    exact ⟨v, v1, q2.tl (a, v) (by simp [T1, v2])⟩
                  rw [List.append_nil] at hacc
                  refine ⟨acc', vs', less H5 Dl, ρ5, hacc, less_same, ?_, h3, q3.drop fun q hq => List.mem_cons_of_mem _ hq⟩
                  rw [← upd_less]
                  funext z
                  by_cases hz : z = Dl
                  · subst hz; rw [upd_same, q1]
                  · rw [upd_ne hz]
                | true =>
                  rw [if_pos rfl] at ho
                  cases e6 : fi1 Γ' S with
                  | none => rw [e6] at ho; cases ho
                  | some it1 =>
                    rw [e6, Option.bind_some] at ho
                    cases e7 : it1 S with
                    | none => rw [e7] at ho; cases ho
                    | some ds1 =>
                      rw [e7, Option.bind_some] at ho
                      refine iteT ?_
                      intro s0 H0 C cl fp
                      refine wpI_mono (hi1 s0 H0 C cl fp _ _ Γ' S σ2 H5 it1 ds1 r5 e6 e7) fun J1 H6 ⟨U1, ⟨hsz1, G1, Y1, W1, spec1⟩, r6⟩ => ?_
                      obtain ⟨ρ6, r6⟩ := r6
                      obtain ⟨V2, hV2, r6⟩ := r6.keep
                      have hgs2 := r6.gs
                      obtain ⟨q1, q2⟩ := h4.hideOut h2 r6
                      let T2 := V2 ++ (U1 ++ T1)
                      have z0 : H6 = upd (less H6 Dl) Dl (.lst vs') := by
                        rw [← upd_less]
                        funext z
                        by_cases hz : z = Dl
                        · subst hz; rw [upd_same, q1]
                        · rw [upd_ne hz]
                      have q3 : RelR F ρ6 ((acc'.map A.d).zip vs' ++ T2) Γ' S σ2 (less H6 Dl) := q2.drop fun q hq => by
                        simp only [T2, List.mem_append, List.mem_cons] at hq ⊢
                        rcases hq with hq | hq | hq | hq
                        · exact .inr (.inr (.inr (.inl hq)))
                        · exact .inl hq
                        · exact .inr (.inl hq)
                        · exact .inr (.inr (.inr (.inr hq)))
                      refine walk_in W1 (fun j H' => ∃ a1 vs2 Hb2 ρ2, compL (eltF t1 vs1 b1 f Γ' S) (ds1.take j) = some a1 ∧ Hb2 Dl = none ∧ H' = upd Hb2 Dl (.lst vs2) ∧ (acc' ++ a1).length = vs2.length ∧ RelR F ρ2 (((acc' ++ a1).map A.d).zip vs2 ++ T2) Γ' S σ2 Hb2) ⟨[], vs', less H6 Dl, ρ6, by simp [compL], less_same, z0, by simpa using h3, by simpa using q3⟩ ?_ ?_ ?_
                      · rintro j H' _ ⟨a1, vs2, Hb2, ρ2, k1, k2, rfl, k3, k4⟩
                        exact (spec1 F _ Γ' S σ2 _ ⟨ρ2, k4.alloc k2⟩ (fun q hq => by simp [T2, hq]) e7).1
                      · rintro j x2 H7 H8 hlt1 ⟨a1, vs2, Hb2, ρ2, k1, k2, rfl, k3, k4⟩ hy1
                        have rin2 := k4.hideIn (o := .lst vs2) k2
                        obtain ⟨d2, hd2, r8⟩ := (spec1 _ _ Γ' S σ2 _ ⟨ρ2, rin2⟩ (fun q hq => by simp [T2, hq]) e7).2 j x2 H8 hlt1 hy1
                        obtain ⟨a1', o2, rest2, ho2, hta2, hsp2⟩ := compL_take ho hd2
                        have hae2 : a1' = a1 := by rw [hta2] at k1; exact Option.some.inj k1
                        subst hae2
                        have hacc2 := compL_snoc k1 ho2
                        have htk2 : ds1.take (j + 1) = ds1.take j ++ [d2] := by rw [List.take_succ, hd2]; rfl
                        rw [← htk2] at hacc2
                        have hl2 : (acc' ++ a1').length + o2.toList.length ≤ sizeLine := by
                          have : o.length = a1'.length + (o2.toList.length + rest2.length) := by rw [hsp2]; simp
                          rw [List.length_append]
                          omega
                        refine elt_step hg1 hw1 hb1 hf (T1 := T2) (acc := acc' ++ a1') (vs' := vs2) (o := o2) (fun j a e => ?_) hgs2 k2 k3 k4 hl2 ho2 r8 fun H' ⟨vs3, Hb3, ρ3, m1, m2, m3, m4⟩ => ?_
                        · obtain ⟨v, v1, v2⟩ := hV2 j a e
                          exact ⟨v, v1, by simp [T2, v2]⟩
                        · refine ⟨a1' ++ o2.toList, vs3, Hb3, ρ3, ?_, m1, m2, by rw [← m3, List.append_assoc], by have e9 := List.append_assoc acc' a1' o2.toList; rw [e9] at m4; exact m4⟩
                          rw [hacc2]
                          cases o2 <;> simp
                      · rintro H' ⟨a1, vs2, Hb2, ρ2, k1, k2, rfl, k3, k4⟩
                        rw [List.take_length, ho] at k1
                        cases k1
                        refine ⟨acc' ++ o, vs2, Hb2, ρ2, hacc, k2, rfl, k3, ?_⟩
                        have := k4.slots hgs fun j a e => by
                          obtain ⟨v, v1, v2⟩ := hV j a e
                          exact ⟨v, v1, k4.tl (a, v) (by simp [T2, T1, v2])⟩
                        exact this.drop fun q hq => by
                          simp only [T2, List.mem_append] at hq ⊢
                          rcases hq with hq | hq
                          · exact .inl hq
                          · exact .inr (.inr (.inr hq))
          · rintro H' ⟨acc, vs', Hb, ρ, h1, h2, rfl, h3, h4⟩
            rw [List.take_length, e3] at h1
            cases h1
            refine k Dl _ ⟨ρ, ?_⟩
            have R := reps_of h4 h3 fun q hq => List.mem_append_left _ hq
            exact (h4.newL h2 R).drop fun q hq => by
              rcases List.mem_cons.mp hq with rfl | hq
              · exact List.mem_cons_self
              · simp [T1, hq]
        · cases q
theorem rp_lc2v (own : List (Str × Nat)) (vs1 : List Nat) {elt tg iter tg1 iter1 : Expr} {ifs ifs1 : List Expr} {scope : Scope} {pos : Pos} {fi fi1 : QI} {t t1 : TgF} {ws ws1 vs : List Nat} {b b1 : QB} {f : QF} (hv : own.map (·.2) = vs) (hc : X.calm = true) (hN : X.N.Nodup) (hi : RI ci X tg iter fi) (ok : blkC X.N X.env.scope scope own = true)
    (hg : BlkX X scope fun Y => RG ci Y tg t ws) (hb : BlkX X scope fun Y => RC ci Y ifs b) (hi1 : BlkX X scope fun Y => RI ci Y tg1 iter1 fi1) (hg1 : BlkX X scope fun Y => RG ci Y tg1 t1 ws1) (hb1 : BlkX X scope fun Y => RC ci Y ifs1 b1) (hf : BlkX X scope fun Y => RP ci Y elt f)
    (hw : ∀ i ∈ ws, i ∈ vs := by decide) (hw1 : ∀ i ∈ ws1, i ∈ vs1 := by decide) (hv1 : ∀ i ∈ vs1, i ∈ vs := by decide) (hs : ∀ x, foldedSetIterable iter X.env x = pure x := by intro _; rfl) (hs1 : ∀ env x, foldedSetIterable iter1 env x = pure x := by intro _ _; rfl) :
    RP ci X (.ListComp elt [⟨tg, iter, ifs, 0⟩, ⟨tg1, iter1, ifs1, 0⟩] scope pos) (fComp2 fi t vs b fi1 t1 vs1 b1 f) := fun F T Γ S σ H a r q => by
  subst hv
  exact wpX_of (pe_lc2 (te := eB X scope elt) (tt := tB' X scope ifs) (g := gB X scope tg) (wi1 := iB X scope tg1 iter1) (g1 := gB X scope tg1) (tt1 := tB' X scope ifs1) (vs1 := vs1) hc hN pi_wp (blkOk_by ok) hv1 (fun s H C cl fp => ⟨fun pins s' σ H' v u Q I r h => h s H C cl fp pins s' u I r⟩)
    (fun s H C cl fp => ⟨fun pins s' σ H' Q I h => h s H C cl fp pins s' I⟩) (fun s H C cl fp => ⟨fun pins s' σ H' R I h => h s H C cl fp pins s' I⟩) (fun s H C cl fp => ⟨fun pins s' σ H' v u Q I r h => h s H C cl fp pins s' u I r⟩) (fun s H C cl fp => ⟨fun pins s' σ H' Q I h => h s H C cl fp pins s' I⟩) (fun s H C cl fp => ⟨fun pins s' σ H' Q I h => h s H C cl fp pins s' I⟩) hs hs1) (comp2_run hi hg hw hb hi1 hg1 hw1 hv1 hb1 hf r q fun p H' h => h)
end
end LP

set_option maxHeartbeats 2000000
namespace LP
open PySem PySem.Spec PyProof.Rows L2 RZ
/-! zip of two lists or of two tuples -/
def twoT (a b : A) : Option (List D × List D) := match viewT a, viewT b with
  | some l, some m => some (l, m)
  | _, _ => none
def iZQ (f g : QF) : QI := fun Γ S => (f Γ S).bind fun a => (g Γ S).map fun b S' => match twoT a b with
  | some (l, m) => some (List.zipWith pairD l m)
  | none => (viewL S' a).bind fun l => (viewL S' b).map fun m => List.zipWith pairD l m
section
variable {ci : Ci} {X : Cx}
theorem ri_zipQ {e e2 : Expr} {elts : List Expr} {kk : Nat} {tpos p pos : Pos} {f g : QF} (hg : Gl X "zip") (hm : X.mg "zip" = none) (h1 : RP ci X e f) (h2 : RP ci X e2 g) (hs : starEach [e, e2] X.env = (false, eval e X.env) :: starEach [e2] X.env := by kernel_rfl) (hs2 : starEach [e2] X.env = [(false, eval e2 X.env)] := by kernel_rfl) (hpl : (backTo pos (starEach [e2] X.env)).any (·.1) = false := by kernel_rfl) : RI ci X (.Tuple elts kk tpos) (.Call (.Name "zip" p) [e, e2] [] pos) (iZQ f g) := fun F T Γ S σ H it ds r q1 q2 => by
  unfold iZQ at q1
  cases e1 : f Γ S with
  | none => rw [e1] at q1; cases q1
  | some a =>
    cases e3 : g Γ S with
    | none => rw [e1, e3] at q1; cases q1
    | some b =>
      rw [e1, e3] at q1; cases q1
      dsimp only at q2
      cases ht0 : twoT a b with
      | some lm =>
        obtain ⟨l, m⟩ := lm
        rw [ht0] at q2
        obtain rfl : List.zipWith pairD l m = ds := Option.some.inj q2
        have ⟨e4, e5⟩ : viewT a = some l ∧ viewT b = some m := by
          unfold twoT at ht0
          split at ht0
          · rename_i l' m' k1 k2
            cases ht0
            exact ⟨k1, k2⟩
          · cases ht0
        refine wpI_of (pi_zipA hg hm (pa_cons pe_wp (pa_cons pe_wp pa_nil hs2) hs) hs hpl) (wpX_mono (h1 F T Γ S σ H _ r e1) fun v H1 r1 => wpX_monoI (h2 F _ Γ S σ H1 _ r1 e3) fun u H2 hz r2 => ?_)
        obtain ⟨ρ, q⟩ := id r2
        obtain ⟨p, vs, rfl, hq, R⟩ := RelR.viewT (q.top (a := a) (v := v) (by simp)) e4
        obtain ⟨p', vs', rfl, hq', R'⟩ := RelR.viewT (q.top (a := b) (v := u) (by simp)) e5
        have hn : (List.zipWith pairD l m).length = min vs.length vs'.length := by rw [List.length_zipWith, R.length, R'.length]
        refine ⟨p, p', vs, vs', rfl, .inr ⟨hq, hq', [(b, .ref p'), (a, .ref p)], ⟨?_, fun H => ∃ xs ys, SqT X.K H p xs ∧ SqT X.K H p' ys ∧ min xs.length ys.length = (List.zipWith pairD l m).length, (ItzT X.K p p').yld, ⟨?_, ?_, fun _ _ _ _ _ _ y => y⟩, ?_⟩, r2⟩⟩
        · have := hz p vs (.inr hq)
          rw [hn]; omega
        · rintro i H hi ⟨xs, ys, h1, h2, h3⟩
          have a1 : i < xs.length := by omega
          have a2 : i < ys.length := by omega
          exact ⟨xs, ys, xs[i], ys[i], h1, h2, by simp [a1], by simp [a2]⟩
        · rintro H ⟨xs, ys, h1, h2, h3⟩
          exact ⟨xs, ys, h1, h2, by omega⟩
        · intro F T Γ S σ H r hU hS
          obtain ⟨ρ, r⟩ := r
          obtain ⟨_, xs, ex, hx, Rx⟩ := RelR.viewT (r.top (a := a) (v := .ref p) (hU _ (by simp))) e4
          cases ex
          obtain ⟨_, ys, ey, hy, Ry⟩ := RelR.viewT (r.top (a := b) (v := .ref p') (hU _ (by simp))) e5
          cases ey
          refine ⟨⟨xs, ys, hx, hy, by rw [List.length_zipWith, Rx.length, Ry.length]⟩, ?_⟩
          rintro i w H' hi ⟨t, x, y, rfl, ht, rfl, g1, g2⟩
          obtain ⟨d1, k1, k2⟩ := Rx.get (g1 xs hx)
          obtain ⟨d2, k3, k4⟩ := Ry.get (g2 ys hy)
          refine ⟨pairD d1 d2, ?_, newPair r ht k2 k4⟩
          rw [List.getElem?_zipWith, k1, k3]
      | none =>
       rw [ht0] at q2
       dsimp only at q2
       cases e4 : viewL S a with
       | none => rw [e4] at q2; cases q2
       | some l =>
        cases e5 : viewL S b with
        | none => rw [e4, e5] at q2; cases q2
        | some m =>
          rw [e4, e5] at q2
          obtain rfl : List.zipWith pairD l m = ds := Option.some.inj q2
          refine wpI_of (pi_zipA hg hm (pa_cons pe_wp (pa_cons pe_wp pa_nil hs2) hs) hs hpl) (wpX_mono (h1 F T Γ S σ H _ r e1) fun v H1 r1 => wpX_monoI (h2 F _ Γ S σ H1 _ r1 e3) fun u H2 hz r2 => ?_)
          obtain ⟨ρ, q⟩ := id r2
          obtain ⟨p, vs, rfl, hq, R⟩ := q.viewL (q.top (a := a) (v := v) (by simp)) e4
          obtain ⟨p', vs', rfl, hq', R'⟩ := q.viewL (q.top (a := b) (v := u) (by simp)) e5
          have hn : (List.zipWith pairD l m).length = min vs.length vs'.length := by rw [List.length_zipWith, R.length, R'.length]
          refine ⟨p, p', vs, vs', rfl, .inl ⟨hq, hq', [(b, .ref p'), (a, .ref p)], ⟨?_, fun H => ∃ xs ys, SqL X.K H p xs ∧ SqL X.K H p' ys ∧ min xs.length ys.length = (List.zipWith pairD l m).length, (Itz X.K p p').yld, ⟨?_, ?_, fun _ _ _ _ _ _ y => y⟩, ?_⟩, r2⟩⟩
          · have := hz p vs (.inl hq)
            rw [hn]; omega
          · rintro i H hi ⟨xs, ys, h1, h2, h3⟩
            have a1 : i < xs.length := by omega
            have a2 : i < ys.length := by omega
            exact ⟨xs, ys, xs[i], ys[i], h1, h2, by simp [a1], by simp [a2]⟩
          · rintro H ⟨xs, ys, h1, h2, h3⟩
            exact ⟨xs, ys, h1, h2, by omega⟩
          · intro F T Γ S σ H r hU hS
            dsimp only at hS
            rw [ht0] at hS
            dsimp only at hS
            obtain ⟨ρ, r⟩ := r
            cases e6 : viewL S a with
            | none => rw [e6] at hS; cases hS
            | some l' =>
              cases e7 : viewL S b with
              | none => rw [e6, e7] at hS; cases hS
              | some m' =>
                rw [e6, e7] at hS
                have hS' : List.zipWith pairD l' m' = List.zipWith pairD l m := Option.some.inj hS
                obtain ⟨_, xs, ex, hx, Rx⟩ := r.viewL (r.top (a := a) (v := .ref p) (hU _ (by simp))) e6
                cases ex
                obtain ⟨_, ys, ey, hy, Ry⟩ := r.viewL (r.top (a := b) (v := .ref p') (hU _ (by simp))) e7
                cases ey
                refine ⟨⟨xs, ys, hx, hy, by rw [← hS', List.length_zipWith, Rx.length, Ry.length]⟩, ?_⟩
                rintro i w H' hi ⟨t, x, y, rfl, ht, rfl, g1, g2⟩
                obtain ⟨d1, k1, k2⟩ := Rx.get (g1 xs hx)
                obtain ⟨d2, k3, k4⟩ := Ry.get (g2 ys hy)
                refine ⟨pairD d1 d2, ?_, newPair r ht k2 k4⟩
                rw [← hS', List.getElem?_zipWith, k1, k3]
end
end LP

set_option maxHeartbeats 2000000
namespace LP
open PySem PySem.Spec PyProof.Rows L2
/-- a statement that is never reached -/
def wDead : WS := fun _ _ _ => False
def gBoolL (S : So) : List A → Option D
  | [.d (.lst l)] => some (.bl (!l.isEmpty))
  | _ => none
section
variable {ci : Ci} {X : Cx}
theorem rs_dead {s : Stmt} : RS ci X s wDead := fun _ _ _ _ _ _ _ _ _ q => q.elim
theorem c_boolL : CallG ci X (.type "bool") gBoolL := ⟨_, call_boolL, fun F T Γ S σ H as vs d r hl hT e Q k => by
  unfold gBoolL at e
  split at e
  · rename_i l
    cases e
    obtain ⟨v, rfl, hv⟩ := as1 (F := F) hl hT
    obtain ⟨ρ, r'⟩ := id r
    obtain ⟨p, vs, rfl, hq, R⟩ := r'.viewL (r'.top hv) (l := l) rfl
    have e1 : l.isEmpty = vs.isEmpty := by
      have := R.length
      cases l <;> cases vs <;> first | rfl | (simp at this)
    exact ⟨p, vs, rfl, hq, by rw [← e1]; exact k _ _ (r.bl _)⟩
  · cases e⟩
theorem rs_asgLc2Pv (i : Nat) (own : List (Str × Nat)) (vs1 : List Nat) {y : Str} {py : Pos} {elt tg iter tg1 iter1 : Expr} {ifs ifs1 : List Expr} {scope : Scope} {pos spos : Pos} {fi fi1 : QI} {t t1 : TgF} {ws ws1 vs : List Nat} {b b1 : QB} {f : QF} (hv : own.map (·.2) = vs) (hc : X.calm = true) (hN : X.N.Nodup) (hi : RI ci X tg iter fi) (ok : blkC X.N X.env.scope scope own = true)
    (hg : BlkX X scope fun Y => RG ci Y tg t ws) (hb : BlkX X scope fun Y => RC ci Y ifs b) (hi1 : BlkX X scope fun Y => RI ci Y tg1 iter1 fi1) (hg1 : BlkX X scope fun Y => RG ci Y tg1 t1 ws1) (hb1 : BlkX X scope fun Y => RC ci Y ifs1 b1) (hf : BlkX X scope fun Y => RP ci Y elt f)
    (hsw : swapsWith (.ListComp elt [⟨tg, iter, ifs, 0⟩, ⟨tg1, iter1, ifs1, 0⟩] scope pos) (some (.Name y py)) spos.line X.env = pure true) (hy : X.N[i]? = some y := by rfl) (hyl : X.env.scope.names.lookup y = some .local := by kernel_rfl)
    (hw : ∀ i ∈ ws, i ∈ vs := by decide) (hw1 : ∀ i ∈ ws1, i ∈ vs1 := by decide) (hv1 : ∀ i ∈ vs1, i ∈ vs := by decide) (hs : ∀ x, foldedSetIterable iter X.env x = pure x := by intro _; rfl) (hs1 : ∀ env x, foldedSetIterable iter1 env x = pure x := by intro _ _; rfl) :
    RS ci X (.Assign [.Name y py] (.ListComp elt [⟨tg, iter, ifs, 0⟩, ⟨tg1, iter1, ifs1, 0⟩] scope pos) spos) (wAsg i (wP (fComp2 fi t vs b fi1 t1 vs1 b1 f))) := fun F D xo T Γ S σ H r ⟨a, e, q⟩ => by
  subst hv
  exact wpS_of (ps_setLc2 (te := eB X scope elt) (tt := tB' X scope ifs) (g := gB X scope tg) (wi1 := iB X scope tg1 iter1) (g1 := gB X scope tg1) (tt1 := tB' X scope ifs1) (vs1 := vs1) hc hN hy hyl hsw pi_wp (blkOk_by ok) hv1 (fun s H C cl fp => ⟨fun pins s' σ H' v u Q I r h => h s H C cl fp pins s' u I r⟩)
    (fun s H C cl fp => ⟨fun pins s' σ H' Q I h => h s H C cl fp pins s' I⟩) (fun s H C cl fp => ⟨fun pins s' σ H' R I h => h s H C cl fp pins s' I⟩) (fun s H C cl fp => ⟨fun pins s' σ H' v u Q I r h => h s H C cl fp pins s' u I r⟩) (fun s H C cl fp => ⟨fun pins s' σ H' Q I h => h s H C cl fp pins s' I⟩) (fun s H C cl fp => ⟨fun pins s' σ H' Q I h => h s H C cl fp pins s' I⟩) hs hs1) (comp2_run hi hg hw hb hi1 hg1 hw1 hv1 hb1 hf r e fun p H' h1 => ⟨_, S, (h1.put i List.mem_cons_self).tail, q⟩)
end
end LP

set_option maxHeartbeats 400000
namespace LP
open PySem PySem.Spec PyProof.Rows L2
/-! range of two great numbers that are near one another -/
def iR2W (f g : QF) : QI := fun Γ S => (f Γ S).bind fun a => (g Γ S).bind fun b => match a, b with
  | .d (.int i), .d (.int j) => if (0 ≤ i ∧ i < 4611686018427387904 ∧ 0 ≤ j ∧ j < 4611686018427387904) ∧ j - i ≤ 16777216 then some fun _ => some (rangeD i (j - i).toNat) else none
  | _, _ => none
section
variable {ci : Ci} {X : Cx}
theorem ri_r2W {tg e e2 : Expr} {f g : QF} {p pos : Pos} (hg : Gl X "range") (hm : X.mg "range" = none) (h : RP ci X e f) (h2 : RP ci X e2 g) (hs : starEach [e, e2] X.env = [(false, eval e X.env), (false, eval e2 X.env)] := by kernel_rfl) (hs2 : starEach [e2] X.env = [(false, eval e2 X.env)] := by kernel_rfl) : RI ci X tg (.Call (.Name "range" p) [e, e2] [] pos) (iR2W f g) := fun F T Γ S σ H it ds r q1 q2 => by
  unfold iR2W at q1
  cases e1 : f Γ S with
  | none => rw [e1] at q1; cases q1
  | some a =>
    cases e3 : g Γ S with
    | none => rw [e1, e3] at q1; cases q1
    | some b =>
      rw [e1, e3, Option.bind_some, Option.bind_some] at q1
      split at q1
      · rename_i i j
        split at q1
        · rename_i hj
          cases q1; cases q2
          refine wpI_of (pi_range2 hg hm (pa_cons pe_wp (pa_cons pe_wp pa_nil hs2) (by rw [hs, hs2])) hs hs2) (wpX_mono (two h h2 r e1 e3) fun v H1 h1 => wpX_mono h1 fun u H' h' => ?_)
          have z1 := h'.asInt (v := u) List.mem_cons_self
          have z2 := h'.asInt (v := v) (i := i) (by simp)
          subst z1 z2
          exact ⟨i, j, rfl, ⟨by omega, by omega, by omega, by omega⟩, [], range_spec (by omega), h'.tail.tail⟩
        · cases q1
      · cases q1
end
end LP

set_option maxHeartbeats 4000000
namespace LP
open PySem PySem.Spec PyProof.Rows L2
/-! set(a list of whole numbers) -/
section
variable {P : Program} {w : World} {A : Around} {E : Value → Shared → Prop}
/-- the object of an empty set -/
abbrev set0 (w : World) : Obj := { cls := .type "set", dict := none, data := .set #[] 0 (.fresh 0 0 (!w.params.followText "set-order")) }
/-- what its filling leaves -/
def Filled (w : World) (s : Shared) (D : Addr) (ns : List Int) (s2 : Shared) : Prop := ∃ h' tk c, s2 = { s with heap := h', toks := tk } ∧ SetR w h' D (fun j => decide (j ∈ ns)) c ∧ c ≤ ns.length ∧ ∀ b o, b ≠ D → s.heap.get? b = some o → h'.get? b = some o
theorem int_at' {items : Array Value} {ns : List Int} (hit : IntsAre items.toList ns) {i : Nat} {v : Value} (hv : items[i]? = some v) : ∃ k t, ns[i]? = some k ∧ v = .int k t := by
  have hsz := hit.length
  obtain ⟨hi, _⟩ := Array.getElem?_eq_some_iff.mp hv
  rw [Array.length_toList] at hsz
  obtain ⟨t, e⟩ := PyProof.Rows.IntsAre.int_at hit i v (by rw [Array.getElem?_toList]; exact hv)
  have hk : ns[i]? = some ns[i] := List.getElem?_eq_getElem (by omega)
  exact ⟨_, t, hk, by rw [e, List.getD_eq_getElem?_getD, hk]; rfl⟩
theorem init_setL {s : Shared} {l D : Addr} {items : Array Value} {ns : List Int} {Q : Fin → Shared → Prop} (hh : A.handled = none) (hl : s.heap.IsList l items) (hD : s.heap.get? D = some (set0 w)) (hit : IntsAre items.toList ns) (hb : ns.length + 1 < scanBound)
    (h : ∀ s2, Filled w s D ns s2 → Q (.done (.ret .none)) s2) : wpAny (model P w) A (Builtin.«set.__init__» ⟨[.ref D, .ref l], []⟩) Q E s := by
  have hsz : items.size = ns.length := by rw [← Array.length_toList]; exact hit.length
  have hl0 := hl
  obtain ⟨⟨ocls, odict, odata, oslots⟩, hol, hcl, nl, hdl⟩ := hl
  simp only at hcl hdl
  subst hcl hdl
  have hlD : l ≠ D := fun z => by
    subst z
    rw [hD] at hol
    have e := congrArg (fun o : Option Obj => o.map (·.cls)) hol
    exact absurd e (by simp)
  have f1 := F.sub_list_set
  have f2 := F.sub_list_frozenset
  have f3 : (Value.type "list" == Value.type "dict") = false := by decide
  have f4 : Shared.TypeIs s (.ref D) "set" := ⟨_, hD, rfl⟩
  unfold Builtin.«set.__init__» noKeywords Builtin.Frozenset.updateFrom
  generalize hPI : pyIter = PI
  wp_walk
  subst hPI
  refine wpAny_pyIter_list hl0 (wpAny_bind (wpAny_runValue ?_))
  have hlt := Heap.lt_size hol
  have hDt := Heap.lt_size hD
  refine set_update_ints ((Walks.list (by simp [hh]) _ l (Nat.ne_of_lt hlt) items).toS) D (by simp only [List.mem_cons, List.not_mem_nil, or_false, not_or]; exact ⟨Nat.ne_of_lt hDt, Ne.symm hlD⟩) ns hsz hb (fun i v hv => int_at' hit hv) (items.size - 0) 0 _ (by omega) (Nat.zero_le _) ⟨⟨_, Heap.get?_push_size _ rfl, rfl, rfl⟩, hl0.push _⟩ ⟨0, Nat.le_refl 0, setR_new_at (Heap.get?_push_of_some _ hD)⟩ fun s2 c hm hc hS => ?_
  obtain ⟨h2, g2, d2, t2, o2⟩ := s2
  have e1 : g2 = s.gens := hm.gens
  have e2 : d2 = s.drawn := hm.drawn
  have e3 : o2 = s.os := hm.os
  subst e1 e2 e3
  refine wpAny_pure ?_
  refine wpAny_pure (h _ ⟨h2, t2, c, rfl, hS, hsz ▸ hc, fun b o hb2 e => ?_⟩)
  exact hm.heap b o (by simp only [List.mem_cons, List.not_mem_nil, or_false, not_or]; exact ⟨hb2, Nat.ne_of_lt (Heap.lt_size e)⟩) (Heap.get?_push_of_some _ e)
/-- set(l) -/
theorem call_setI {s : Shared} {l : Addr} {items : Array Value} {ns : List Int} {Q : Value → Shared → Prop} (hh : A.handled = none) (hl : s.heap.IsList l items) (hit : IntsAre items.toList ns) (hb : ns.length + 1 < scanBound)
    (h : ∀ s2, Filled w { s with heap := s.heap.push (set0 w) } s.heap.objs.size ns s2 → Q (.ref s.heap.objs.size) s2) : wpAny (model P w) A (call (.type "set") [.ref l]) Q E s := by
  have hD : (s.heap.push (set0 w)).get? s.heap.objs.size = some (set0 w) := Heap.get?_push_size _ rfl
  obtain ⟨c, tl, hmro⟩ := F.called_set.mro
  have q1 := F.called_set.made
  have q2 := F.called_set.sub
  have q3 := F.called_set.notType
  have q4 := F.called_set.canCreate
  have q5 := F.typeCall_set_1 (.ref l)
  have q6 := F.called_set.init.lookup
  have q7 := F.called_set.init.bind (.ref s.heap.objs.size)
  have q8 : Shared.TypeIs { s with heap := s.heap.push (set0 w) } (.ref s.heap.objs.size) "set" := ⟨_, hD, rfl⟩
  refine wpAny_call (codeAny_of_tree (wpAny_pure ⟨Code.quiet_builtin _ (by decide +kernel), codeAny_builtin F.entry_type_call ?_⟩))
  rw [Around.under_plain (weight_type_call_type "set" [.ref l] []) rfl]
  repeat (any_goals (first | assumption | wp_step))
  refine codeAny_mono (code_set_led1 (.ref l) (E := E) (Q₁ := fun obj s1 => obj = .ref s.heap.objs.size ∧ s1 = { s with heap := s.heap.push (set0 w) }) ⟨rfl, rfl⟩) fun r s1 hr => ?_
  rcases r with e | fl
  · exact hr
  cases fl with
  | ret obj =>
    obtain ⟨rfl, rfl⟩ := hr
    repeat (any_goals (first | assumption | wp_step))
    refine codeAny_mono (codeAny_call_builtin (R := wants (fun r s2 => r = .none ∧ Filled w { s with heap := s.heap.push (set0 w) } s.heap.objs.size ns s2) E) F.called_set.init.plain F.entry_set_init (check_set_init_1 q8 (init_setL (by simp [hh]) (hl.push _) hD hit hb fun s2 hs2 => ⟨rfl, hs2⟩))) fun r2 s2 hr2 => ?_
    rcases r2 with e | fl2
    · exact hr2
    cases fl2 with
    | ret r =>
      obtain ⟨rfl, hf⟩ := hr2
      repeat (any_goals (first | assumption | wp_step))
      exact h _ hf
    | _ => exact hr2.elim
  | _ => exact hr.elim
end
section
variable {X : Cx}
def rSetL (w : World) : List V → Hp → VK → Prop := fun xs H Q => ∃ (l : Addr) (ns : List Int), xs = [.ref l] ∧ SqL X.K H l (ns.map V.int) ∧ ns.length ≤ 1000 ∧ ∀ (p : Addr) (c : Nat), c ≤ ns.length → H p = none → Q (.ref p) (upd H p (SetO w p (fun j => decide (j ∈ ns)) c))
theorem cr_setL (hc : X.calm = true) : CallR X (.type "set") (rSetL (X := X) X.w) := by
  intro pins s σ H xs us Q I r h
  obtain ⟨l, ns, rfl, hs, hl, q⟩ := h
  rw [Vals.ref1 r]
  obtain ⟨its, rv, p, hz⟩ := I.list hs
  have hit : IntsAre its ns := ints_vals rv
  refine call_setI (items := its.toArray) (I.ok.hd hc) p.isList (by simpa using hit) (by unfold scanBound; omega) fun s2 hf => ?_
  obtain ⟨h', tk, c, rfl, hS, hcl, hk⟩ := hf
  have hn : H s.heap.objs.size = none := I.hok.fresh (Nat.le_refl _)
  exact ⟨.ref _, upd H s.heap.objs.size (SetO X.w s.heap.objs.size (fun j => decide (j ∈ ns)) c), I.laid (t' := tk) (fun b o e => hk b o (Nat.ne_of_lt (Heap.lt_size e)) (Heap.get?_push_of_some _ e)) (Nat.le_refl _) (setO_new hS), rfl, q _ c hcl hn⟩
end
end LP

set_option maxHeartbeats 1000000
namespace LP
open PySem PySem.Spec PyProof.Rows L2
/-! the numbers of a list, each once, ascending -/
def insS (x : Int) : List Int → List Int
  | [] => [x]
  | y :: l => if x < y then x :: y :: l else if x = y then y :: l else y :: insS x l
def srtS (l : List Int) : List Int := l.foldr insS []
theorem insS_mem {x z : Int} : ∀ {l : List Int}, z ∈ insS x l ↔ z = x ∨ z ∈ l
  | [] => by simp [insS]
  | y :: l => by
    unfold insS
    split
    · simp
    · split
      · rename_i h
        subst h
        simp
      · simp only [List.mem_cons, insS_mem (l := l)]
        constructor
        · rintro (h | h | h)
          · exact .inr (.inl h)
          · exact .inl h
          · exact .inr (.inr h)
        · rintro (h | h | h)
          · exact .inr (.inl h)
          · exact .inl h
          · exact .inr (.inr h)
theorem insS_srt {x : Int} : ∀ {l : List Int}, l.Pairwise (· < ·) → (insS x l).Pairwise (· < ·)
  | [], _ => by simp [insS]
  | y :: l, h => by
    obtain ⟨h1, h2⟩ := List.pairwise_cons.mp h
    unfold insS
    split
    · rename_i hx
      refine List.pairwise_cons.mpr ⟨fun z hz => ?_, h⟩
      rcases List.mem_cons.mp hz with rfl | hz
      · exact hx
      · have := h1 z hz; omega
    · split
      · exact h
      · refine List.pairwise_cons.mpr ⟨fun z hz => ?_, insS_srt h2⟩
        rcases insS_mem.mp hz with rfl | hz
        · omega
        · exact h1 z hz
theorem srtS_mem {z : Int} : ∀ {l : List Int}, z ∈ srtS l ↔ z ∈ l
  | [] => by simp [srtS]
  | y :: l => by
    show z ∈ insS y (srtS l) ↔ _
    rw [insS_mem, srtS_mem (l := l), List.mem_cons]
theorem srtS_srt : ∀ l : List Int, (srtS l).Pairwise (· < ·)
  | [] => by simp [srtS]
  | y :: l => insS_srt (srtS_srt l)
/-- ascending lists are told by their members -/
theorem srt_uniq : ∀ {a b : List Int}, a.Pairwise (· < ·) → b.Pairwise (· < ·) → (∀ x, x ∈ a ↔ x ∈ b) → a = b
  | [], [], _, _, _ => rfl
  | [], y :: b, _, _, h => by simpa using (h y).mpr List.mem_cons_self
  | x :: a, [], _, _, h => by simpa using (h x).mp List.mem_cons_self
  | x :: a, y :: b, ha, hb, h => by
    obtain ⟨a1, a2⟩ := List.pairwise_cons.mp ha
    obtain ⟨b1, b2⟩ := List.pairwise_cons.mp hb
    have e : x = y := by
      rcases List.mem_cons.mp ((h x).mp List.mem_cons_self) with e | e
      · exact e
      · rcases List.mem_cons.mp ((h y).mpr List.mem_cons_self) with e2 | e2
        · exact e2.symm
        · have := a1 y e2; have := b1 x e; omega
    subst e
    congr 1
    refine srt_uniq a2 b2 fun z => ?_
    constructor
    · intro hz
      rcases List.mem_cons.mp ((h z).mp (List.mem_cons_of_mem _ hz)) with e | e
      · have := a1 z hz; omega
      · exact e
    · intro hz
      rcases List.mem_cons.mp ((h z).mpr (List.mem_cons_of_mem _ hz)) with e | e
      · have := b1 z hz; omega
      · exact e
theorem insS_len (x : Int) : ∀ l : List Int, (insS x l).length ≤ l.length + 1
  | [] => by simp [insS]
  | y :: l => by
    have := insS_len x l
    unfold insS
    split
    · simp
    · split
      · simp
      · simp only [List.length_cons]; omega
theorem srtS_len : ∀ l : List Int, (srtS l).length ≤ l.length
  | [] => by simp [srtS]
  | y :: l => by
    have h1 := insS_len y (srtS l)
    have h2 := srtS_len l
    show (insS y (srtS l)).length ≤ _
    simp only [List.length_cons]
    omega
/-- sorted(set(xs)), sorted({x for x in xs}) -/
def gSortS (S : So) (a : A) : Option D := (viewL S a).bind fun l => (dInts l).bind fun ns => if ns.length < 64 then some (.lst ((srtS ns).map .int)) else none
def fSortS (f : QF) : QF := fun Γ S => (f Γ S).bind fun a => (gSortS S a).map .d
theorem gSortS_some {S : So} {a : A} {d : D} (h : gSortS S a = some d) : ∃ l ns, viewL S a = some l ∧ dInts l = some ns ∧ ns.length < 64 ∧ d = .lst ((srtS ns).map .int) := by
  unfold gSortS at h
  cases e1 : viewL S a with
  | none => rw [e1] at h; cases h
  | some l =>
    cases e2 : dInts l with
    | none => rw [e1, Option.bind_some, e2] at h; cases h
    | some ns =>
      rw [e1, Option.bind_some, e2, Option.bind_some] at h
      split at h
      · rename_i hl
        cases h
        exact ⟨l, ns, rfl, e2, hl, rfl⟩
      · cases h
section
variable {ci : Ci} {X : Cx}
theorem rp_sortSet {e : Expr} {p p2 pos pos2 : Pos} {f : QF} (hc : X.calm = true) (hg : Gl X "sorted") (hm : X.mg "sorted" = none) (hg2 : Gl X "set") (hm2 : X.mg "set" = none) (h : RP ci X e f)
    (he : starEach [e] X.env = [(false, eval e X.env)] := by kernel_rfl) (he2 : starEach [.Call (.Name "set" p2) [e] [] pos2] X.env = [(false, eval (.Call (.Name "set" p2) [e] [] pos2) X.env)] := by kernel_rfl) :
    RP ci X (.Call (.Name "sorted" p) [.Call (.Name "set" p2) [e] [] pos2] [] pos) (fSortS f) := fun F T Γ S σ H a r q => by
  unfold fSortS at q
  cases e1 : f Γ S with
  | none => rw [e1] at q; cases q
  | some b =>
    rw [e1, Option.bind_some] at q
    cases e2 : gSortS S b with
    | none => rw [e2] at q; cases q
    | some d =>
      rw [e2] at q; cases q
      obtain ⟨l, ns, e3, e4, hl, rfl⟩ := gSortS_some e2
      refine wpX_of (pe_callB (cr_sortedSet hc) hg hm (by decide +kernel) (pa_cons (pe_callTy (cr_setL hc) hg2 hm2 (by decide +kernel) (pa_cons pe_wp pa_nil he) (by decide +kernel) (by decide +kernel) he rfl) pa_nil he2) (by decide +kernel) (by decide +kernel) he2 rfl) ?_
      refine wpX_mono (h F T Γ S σ H _ r e1) fun v H1 r1 => ?_
      obtain ⟨ρ, r1⟩ := r1
      obtain ⟨x, vs, rfl, hq, R⟩ := r1.viewL (r1.top List.mem_cons_self) e3
      have := ints_reps e4 R
      subst this
      refine ⟨x, ns, rfl, hq, by omega, fun y c hcl hy => ?_⟩
      refine ⟨y, _, c, rfl, upd_same, by omega, fun ms z h1 h2 h3 hz => ?_⟩
      have hm2 : ms = srtS ns := srt_uniq h1 (srtS_srt ns) fun x => by rw [h2 x, srtS_mem]; simp
      subst hm2
      refine ⟨ρ, ((r1.alloc hy).newL hz (reps_ints _)).drop fun q hq => ?_⟩
      rcases List.mem_cons.mp hq with rfl | hq
      · exact List.mem_cons_self
      · exact List.mem_cons_of_mem _ (List.mem_cons_of_mem _ hq)
end
end LP

set_option maxHeartbeats 2000000
namespace LP
open PySem PySem.Spec PyProof.Rows L2
/-! {x for x in a list of whole numbers} -/
section
variable {P : Program} {w : World} {A : Around} {E : Value → Shared → Prop} {env : Env}
/-- the set so far, all else as it was -/
def ScSo (w : World) (s3 : Shared) (D C : Addr) (wr : List Addr) (ns : List Int) (s1 : Shared) : Prop :=
  (∃ h tk, s1 = { s3 with heap := h, toks := tk }) ∧ (∀ b o, b ≠ D → b ≠ C → b ∉ wr → s3.heap.get? b = some o → s1.heap.get? b = some o) ∧ (∃ m, s1.heap.Ns C m) ∧ ∃ c, c ≤ ns.length ∧ SetR w s1.heap D (fun j => decide (j ∈ ns)) c
def scB (scope : Scope) (x : Str) : Bool := (scope.names.all fun y => decide (y.2 = .local) && decide (scope.names.lookup y.1 = some .local)) && decide (scope.names.lookup x = some .local)
theorem scB_ok {scope : Scope} {x : Str} (h : scB scope x = true) : (∀ y ∈ scope.names, y.2 = .local ∧ scope.names.lookup y.1 = some .local) ∧ scope.names.lookup x = some .local := by
  unfold scB at h
  rw [Bool.and_eq_true, decide_eq_true_eq, List.all_eq_true] at h
  refine ⟨fun y hy => ?_, h.2⟩
  have := h.1 y hy
  rw [Bool.and_eq_true, decide_eq_true_eq, decide_eq_true_eq] at this
  exact this
theorem cloFrom_local {cells : List (Str × Addr)} : ∀ {names : List (Str × NameKind)} {acc : List (Str × Addr)}, (∀ y ∈ names, y.2 = .local) → cloFrom cells names acc = acc
  | [], _, _ => rfl
  | y :: names, acc, h => by
    have h1 := h y List.mem_cons_self
    obtain ⟨n, k⟩ := y
    simp only at h1
    subst h1
    have := cloFrom_local (cells := cells) (names := names) (acc := acc) fun z hz => h z (List.mem_cons_of_mem _ hz)
    rw [cloFrom]
    simpa using this
theorem sc_ints {x : Str} {px px2 pos : Pos} {iter : Expr} {scope : Scope} {Q : Value → Shared → Prop} {s : Shared} (hh : A.handled = none) (hsc : scB scope x = true) (hkind : scope.kind = .function) (hd : (x == ("__debug__" : Str)) = false)
    (h : wpAny (model P w) A (eval iter env) (fun v s1 => ∃ l items ns, v = .ref l ∧ s1.heap.IsList l items ∧ IntsAre items.toList ns ∧ ns.length + 1 < scanBound ∧
      ∀ D h' tk c, s1.heap.objs.size ≤ D → SetR w h' D (fun j => decide (j ∈ ns)) c → c ≤ ns.length → (∀ b o, s1.heap.get? b = some o → h'.get? b = some o) → Q (.ref D) { s1 with heap := h', toks := tk }) E s)
    (hs : ∀ x, foldedSetIterable iter env x = pure x := by intro _; rfl) : wpAny (model P w) A (eval (.SetComp (.Name x px) [⟨.Name x px2, iter, [], 0⟩] scope pos) env) Q E s := by
  refine SetComp_goes (cl := []) ?_ ?_ hkind ?_ (wpAny_mono h (fun v s1 h1 => ?_) fun _ _ e => e) hs
  · have := closure_ok (scope := scope) (env := env) fun y hy e => by
      rw [((scB_ok hsc).1 y hy).1] at e
      cases e
    rw [this, cloFrom_local fun y hy => ((scB_ok hsc).1 y hy).1]
  · intro y hy
    rw [((scB_ok hsc).1 y hy).1]
    simp
  · intro y hy _
    exact ((scB_ok hsc).1 y hy).2
  obtain ⟨l, items, ns, rfl, hl, hit, hb, hQ⟩ := h1
  have hl0 := hl
  obtain ⟨_, hol, _⟩ := hl0
  have hlt : l < s1.heap.objs.size := Heap.lt_size hol
  have hsz : items.size = ns.length := by rw [← Array.length_toList]; exact hit.length
  refine wpAny_pyIter_list hl ⟨s1.heap.objs.size, [s1.heap.objs.size, l], [s1.heap.objs.size], items.size, _, _, rfl,
    Goes.ofWalks (Walks.list hh s1.heap.objs.size l (Nat.ne_of_lt hlt) items) (fun i v s Q E _ hQ => wpAny_pure hQ), ⟨⟨_, Heap.get?_push_size _ rfl, rfl, rfl⟩, hl.push _⟩, fun D C s3 cb hD => ?_⟩
  have nD := cb.newD
  have nC := cb.newC
  simp only [Heap.size_push] at nD nC
  have iD : s1.heap.objs.size ≠ D := Nat.ne_of_lt nD
  have iC : s1.heap.objs.size ≠ C := Nat.ne_of_lt nC
  have lD : l ≠ D := Nat.ne_of_lt (Nat.lt_trans hlt nD)
  have lC : l ≠ C := Nat.ne_of_lt (Nat.lt_trans hlt nC)
  have hck : (compEnvC scope [] C env).scope.kind = .function := hkind
  have hkl : (compEnvC scope [] C env).kindOf x = some .local := lookup_relabel_local (scB_ok hsc).2
  refine ⟨fun i s' => ScSo w s3 D C [s1.heap.objs.size] (ns.take i) s', ⟨⟨_, _, rfl⟩, fun b o _ _ _ e => e, ⟨_, cb.names⟩, 0, Nat.zero_le _, setR_new_at hD⟩, ?_, ?_, ?_⟩
  · rintro i s' h' tk ⟨⟨h2, tk2, rfl⟩, k1, ⟨m, k2⟩, c, k3, k4⟩ hk _
    have dW : D ∉ [s1.heap.objs.size] := by simp only [List.mem_singleton]; exact Ne.symm iD
    have cW : C ∉ [s1.heap.objs.size] := by simp only [List.mem_singleton]; exact Ne.symm iC
    exact ⟨⟨_, _, rfl⟩, fun b o b1 b2 b3 e => hk b o b3 (k1 b o b1 b2 b3 e), ⟨m, k2.at' fun o e => hk C o cW e⟩, c, k3, k4.at fun o e => hk D o dW e⟩
  · rintro i v s' hi hv ⟨st1, st2⟩ ⟨⟨h2, tk2, rfl⟩, k1, ⟨m, k2⟩, c, k3, k4⟩
    obtain ⟨k, t, hk, rfl⟩ := int_at' hit hv
    refine wpAny_assign_Name (wpAny_storeName_local hkl k2 (fun h3 n3 sb3 => ?_) (by rw [hck]; rfl))
    refine wpAny_pure ?_
    rw [if_pos rfl]
    refine wpAny_Name (wpAny_loadName_local hck hkl n3 (v := .int k t) (by simp) ?_) hd
    have k4' : SetR w h3 D (fun j => decide (j ∈ ns.take i)) c := k4.at fun o e => sb3.extBut D o cb.ne e
    have hc : c ≤ i := Nat.le_trans k3 (List.length_take_le _ _)
    refine setR_add k4' (by omega) fun h4 sb4 hS => ?_
    refine ⟨⟨⟨_, _, rfl⟩, fun b o b1 b2 b3 e => ?_, ⟨_, n3.sameBut sb4 (Ne.symm cb.ne)⟩, _, ?_, hS.congr fun j => ?_⟩, ?_⟩
    · exact sb4.extBut b o b1 (sb3.extBut b o b2 (k1 b o b1 b2 b3 e))
    · have : (ns.take (i + 1)).length = i + 1 := by rw [List.length_take]; omega
      rw [this]
      split <;> omega
    · rw [List.take_add_one, hk]
      simp [List.mem_append]
    · exact ⟨st1.at fun o e => sb4.extBut _ o iD (sb3.extBut _ o iC e), st2.at fun o e => sb4.extBut _ o lD (sb3.extBut _ o lC e)⟩
  · rintro s' ⟨⟨h2, tk2, rfl⟩, k1, ⟨m, k2⟩, c, k3, k4⟩
    refine ⟨m, k2, fun h5 sb => ?_⟩
    rw [hsz, List.take_length] at k3 k4
    obtain ⟨h6, t6, e6⟩ := cb.only
    subst e6
    refine hQ D h5 _ c (Nat.le_of_lt nD) (k4.at fun o e => sb.extBut D o cb.ne e) k3 fun b o e => ?_
    have hbl := Heap.lt_size e
    exact sb.extBut b o (Nat.ne_of_lt (Nat.lt_trans hbl nC)) (k1 b o (Nat.ne_of_lt (Nat.lt_trans hbl nD)) (Nat.ne_of_lt (Nat.lt_trans hbl nC)) (by simp only [List.mem_singleton]; exact Nat.ne_of_lt hbl) (cb.old b o (Heap.get?_push_of_some _ e)))
end
end LP

set_option maxHeartbeats 1000000
namespace LP
open PySem PySem.Spec PyProof.Rows L2
/-! sorted({x for x in xs}); list displays with starred items; defs with a star parameter -/
section
variable {ci : Ci} {X : Cx}
theorem pe_scI {x : Str} {px px2 pos : Pos} {iter : Expr} {scope : Scope} {te : TE} (hc : X.calm = true) (hsc : scB scope x = true) (hkind : scope.kind = .function) (hd : (x == ("__debug__" : Str)) = false) (he : PE X iter te) (hs : ∀ x, foldedSetIterable iter X.env x = pure x := by intro _; rfl) :
    PE X (.SetComp (.Name x px) [⟨.Name x px2, iter, [], 0⟩] scope pos) (fun σ H Q => te σ H fun v H1 => ∃ (l : Addr) (ns : List Int), v = .ref l ∧ SqL X.K H1 l (ns.map V.int) ∧ ns.length ≤ 1000 ∧ ∀ (p : Addr) (c : Nat), c ≤ ns.length → H1 p = none → Q (.ref p) (upd H1 p (SetO X.w p (fun j => decide (j ∈ ns)) c))) := by
  refine ⟨fun pins s σ H Q I h => sc_ints (I.ok.hd hc) hsc hkind hd (thn (he.run pins s σ H _ I h) fun v s1 ⟨y, H1, I1, ry, l, ns, ey, hq, hl, q⟩ => ?_) hs⟩
  subst ey
  obtain rfl : v = Value.ref l := ry
  obtain ⟨its, rv, p, hz⟩ := I1.list hq
  refine ⟨l, its.toArray, ns, rfl, p.isList, by simpa using ints_vals rv, by unfold scanBound; omega, fun D h' tk c hD hS hcl hk => ?_⟩
  have hn : H1 D = none := I1.hok.fresh hD
  exact ⟨.ref _, upd H1 D (SetO X.w D (fun j => decide (j ∈ ns)) c), I1.laid (t' := tk) hk hD (setO_new hS), rfl, q D c hcl hn⟩
theorem rp_sortSc {x : Str} {px px2 pos2 p pos : Pos} {e : Expr} {scope : Scope} {f : QF} (hc : X.calm = true) (hg : Gl X "sorted") (hm : X.mg "sorted" = none) (hsc : scB scope x = true) (hkind : scope.kind = .function) (h : RP ci X e f) (hd : (x == ("__debug__" : Str)) = false := by decide +kernel)
    (he2 : starEach [.SetComp (.Name x px) [⟨.Name x px2, e, [], 0⟩] scope pos2] X.env = [(false, eval (.SetComp (.Name x px) [⟨.Name x px2, e, [], 0⟩] scope pos2) X.env)] := by kernel_rfl) (hs : ∀ x, foldedSetIterable e X.env x = pure x := by intro _; rfl) :
    RP ci X (.Call (.Name "sorted" p) [.SetComp (.Name x px) [⟨.Name x px2, e, [], 0⟩] scope pos2] [] pos) (fSortS f) := fun F T Γ S σ H a r q => by
  unfold fSortS at q
  cases e1 : f Γ S with
  | none => rw [e1] at q; cases q
  | some b =>
    rw [e1, Option.bind_some] at q
    cases e2 : gSortS S b with
    | none => rw [e2] at q; cases q
    | some d =>
      rw [e2] at q; cases q
      obtain ⟨l, ns, e3, e4, hl, rfl⟩ := gSortS_some e2
      refine wpX_of (pe_callB (cr_sortedSet hc) hg hm (by decide +kernel) (pa_cons (pe_scI hc hsc hkind hd pe_wp hs) pa_nil he2) (by decide +kernel) (by decide +kernel) he2 rfl) ?_
      refine wpX_mono (h F T Γ S σ H _ r e1) fun v H1 r1 => ?_
      obtain ⟨ρ, r1⟩ := r1
      obtain ⟨x, vs, rfl, hq, R⟩ := r1.viewL (r1.top List.mem_cons_self) e3
      have := ints_reps e4 R
      subst this
      refine ⟨x, ns, rfl, hq, by omega, fun y c hcl hy => ?_⟩
      refine ⟨y, _, c, rfl, upd_same, by omega, fun ms z h1 h2 h3 hz => ?_⟩
      have hm2 : ms = srtS ns := srt_uniq h1 (srtS_srt ns) fun x => by rw [h2 x, srtS_mem]; simp
      subst hm2
      refine ⟨ρ, ((r1.alloc hy).newL hz (reps_ints _)).drop fun q hq => ?_⟩
      rcases List.mem_cons.mp hq with rfl | hq
      · exact List.mem_cons_self
      · exact List.mem_cons_of_mem _ (List.mem_cons_of_mem _ hq)
/-! items, some of them starred -/
def RSl (ci : Ci) (X : Cx) (es : List Expr) (f : QFs) : Prop := ∀ (F : Fr X.K ci) T Γ S σ H as, Rel F T Γ S σ H → f Γ S = some as → wpA X es σ H (fun vs H' => as.length = vs.length ∧ Rel F ((as.zip vs) ++ T) Γ S σ H')
theorem rsl_of {es : List Expr} {fs : QFs} (h : RPs ci X es fs) : RSl ci X es fs := h.2
def fStar (f : QF) (fs : QFs) : QFs := fun Γ S => (f Γ S).bind fun a => (viewQ S a).bind fun l => (fs Γ S).map fun as => l.map A.d ++ as
theorem rsl_cons {e : Expr} {es : List Expr} {f : QF} {fs : QFs} (h : RP ci X e f) (hs : RSl ci X es fs) (hst : starEach (e :: es) X.env = (false, eval e X.env) :: starEach es X.env := by kernel_rfl) : RSl ci X (e :: es) (fCons f fs) := fun F T Γ S σ H as r q => by
  obtain ⟨a, as', e1, e2, rfl⟩ := cons_some q
  refine wpA_of (pa_cons pe_wp pa_wp hst) (wpX_mono (h F T Γ S σ H _ r e1) fun v H' h' => wpA_mono (hs F _ Γ S σ H' _ h' e2) fun vs H2 h2 => ?_)
  obtain ⟨hl, h2⟩ := h2
  refine ⟨by simp [hl], h2.drop fun x hx => ?_⟩
  rw [List.zip_cons_cons] at hx
  simp only [List.mem_append, List.mem_cons, List.cons_append] at hx ⊢
  rcases hx with hx | hx | hx
  · exact .inr (.inl hx)
  · exact .inl hx
  · exact .inr (.inr hx)
theorem Rel.viewQ' {F : Fr X.K ci} {T : List (A × V)} {Γ : Ga} {S : So} {σ : L2.St} {H : Hp} {a : A} {v : V} {l : List D} (r : Rel F ((a, v) :: T) Γ S σ H) (e : viewQ S a = some l) : ∃ p vs, v = .ref p ∧ (SqT X.K H p vs ∨ SqL X.K H p vs) ∧ l.length = vs.length ∧ Rel F ((l.map A.d).zip vs ++ T) Γ S σ H := by
  obtain ⟨ρ, r⟩ := r
  have fin : ∀ {p : Addr} {vs : List V}, Reps X.K ci (mu F ρ S) H l vs → Rel F ((l.map A.d).zip vs ++ T) Γ S σ H := fun {p vs} R => ⟨ρ, (r.reps R).drop fun q hq => by
    simp only [List.mem_append, List.mem_cons] at hq ⊢
    rcases hq with hq | hq
    · exact .inl hq
    · exact .inr (.inr hq)⟩
  unfold viewQ at e
  split at e
  · cases e
    obtain ⟨p, vs, e1, e2, R⟩ := RelR.viewT (r.top List.mem_cons_self) (l := l) rfl
    exact ⟨p, vs, e1, .inl e2, R.length, fin (p := p) R⟩
  · obtain ⟨p, vs, e1, e2, R⟩ := r.viewL (r.top List.mem_cons_self) e
    exact ⟨p, vs, e1, .inr e2, R.length, fin (p := p) R⟩
theorem rsl_star {e : Expr} {es : List Expr} {p : Pos} {f : QF} {fs : QFs} (h : RP ci X e f) (hs : RSl ci X es fs) (hst : starEach (.Starred e p :: es) X.env = (true, eval e X.env) :: starEach es X.env := by kernel_rfl) : RSl ci X (.Starred e p :: es) (fStar f fs) := fun F T Γ S σ H as r q => by
  unfold fStar at q
  cases e1 : f Γ S with
  | none => rw [e1] at q; cases q
  | some a =>
    rw [e1, Option.bind_some] at q
    cases e2 : viewQ S a with
    | none => rw [e2] at q; cases q
    | some l =>
      rw [e2, Option.bind_some] at q
      cases e3 : fs Γ S with
      | none => rw [e3] at q; cases q
      | some as' =>
        rw [e3] at q; cases q
        refine wpA_of (StX.pa_star pe_wp pa_wp hst) (wpX_mono (h F T Γ S σ H _ r e1) fun v H' h' => ?_)
        obtain ⟨x, vs, rfl, hq, hl, r2⟩ := Rel.viewQ' h' e2
        refine ⟨x, vs, rfl, hq, wpA_mono (hs F _ Γ S σ H' _ r2 e3) fun ws H2 ⟨hl2, h2⟩ => ⟨by simp [hl, hl2], h2.drop fun y hy => ?_⟩⟩
        rw [List.zip_append (by simpa using hl)] at hy
        simp only [List.mem_append] at hy ⊢
        rcases hy with (hy | hy) | hy
        · exact .inr (.inl hy)
        · exact .inl hy
        · exact .inr (.inr hy)
def fLstS (fs : QFs) : QF := fun Γ S => (fs Γ S).bind fun as => if as.length ≤ 1000 then (dataOf as).map fun l => .d (.lst l) else none
theorem rp_lstS {es : List Expr} {fs : QFs} {pos : Pos} (h : RSl ci X es fs) : RP ci X (.List es pos) (fLstS fs) := fun F T Γ S σ H a r q => by
  unfold fLstS at q
  cases e1 : fs Γ S with
  | none => rw [e1] at q; cases q
  | some as =>
    rw [e1, Option.bind_some] at q
    split at q
    · rename_i hlen
      cases e2 : dataOf as with
      | none => rw [e2] at q; cases q
      | some l =>
        rw [e2] at q; cases q
        rw [dataOf_eq e2] at e1 hlen
        refine wpX_of (pe_lst pa_wp) (wpA_mono (h F T Γ S σ H _ r e1) fun vs H' h' => ?_)
        obtain ⟨hz, ρ, h'⟩ := h'
        have hz' : l.length = vs.length := by rw [← hz, List.length_map]
        refine ⟨by rw [← hz, sizeLine_eq]; omega, fun p hp => ?_⟩
        have R := reps_of h' hz' fun q hq => List.mem_append_left _ hq
        exact ⟨ρ, (h'.newL hp R).drop fun q hq => by
          rcases List.mem_cons.mp hq with rfl | hq
          · exact List.mem_cons_self
          · exact List.mem_cons_of_mem _ (List.mem_append_right _ hq)⟩
    · cases q
end
/-! def f(*v) -/
theorem star_P {K : PySem.W.Frag} {ci : Ci} {G : PC} {vs : List V} {H : Hp} {Q : VK} {E : XK} (h : spP K ci (packP 0 G) vs H Q E) :
    ∃ ws rest, vs = ws ++ rest ∧ ws.length = 0 ∧ rest.length ≤ sizeLine ∧ ∀ p, H p = Option.none → spP K ci G (ws ++ [V.ref p]) (upd H p (.tup rest)) Q E := by
  obtain ⟨ds, ex, o, h1, h2, h3, h4⟩ := h
  unfold packP at h3
  split at h3
  · rename_i hl
    rw [List.take_zero, List.drop_zero, List.nil_append] at h3
    refine ⟨[], vs, rfl, rfl, by rw [← h1, sizeLine_eq]; omega, fun q hq => ?_⟩
    have r2 := h2.newT hq (reps_of h2 h1 fun z hz => hz)
    have r3 := (r2.drop (T' := [(.d (.tup ds), .ref q)]) fun z hz => by simp at hz; simp [hz])
    have r4 := r3.here
    refine ⟨[.tup ds], ex, o, rfl, r4, h3, ?_⟩
    cases o with
    | ok d =>
      rintro v H' ⟨S', ⟨ρ', q'⟩⟩
      exact h4 v H' ⟨S', ⟨ρ', (r3.after q').drop fun z hz => List.mem_append_left _ hz⟩⟩
    | error er =>
      rintro cls dd H' ⟨S', ρ', q', e⟩
      exact h4 cls dd H' ⟨S', ρ', r3.there q', e⟩
  · cases h3
end LP

set_option maxHeartbeats 1000000
namespace LP
open PySem PySem.Spec PyProof.Rows L2
section
variable {P : Program} {w0 : World} {K : PySem.W.Frag} {mg : Str → Option Value} {base : Heap} {ci : Ci} {x qual : Str} {params : Arguments} {body : List Stmt} {scope : Scope} {f : Addr} {fd : FuncData} {N : List Str} {k : Nat}
/-- def f(*v), a contract on the tuple -/
theorem fnSP {pv : Str} {G : PC} {w : WS} (F : FunD K x qual params body scope [] [] f fd) (sc : FnScope N [pv] scope) (hb : Body P w0 K mg base ci N qual scope f k body w)
    (bnd : ∀ (kV doc pm : Value) (an : Option Addr) (cdv ct : Value) (rest : List Value), bindArgs (PySem.W.fnOf x qual params body scope .none kV doc pm an cdv ct) ⟨rest, []⟩ = (newTuple rest >>= fun t => pure [(pv, t)]))
    (hv : ∀ ds o, G ds = some o → w (stG N (ds.map A.d)) [] { nx := fun _ _ => o = .ok .non, rt := fun a _ => ∃ d, a = .d d ∧ o = .ok d, ex := fun er _ => o = .error er }) : FnR P w0 K mg base (L2.CX P w0) (k + 1) f (spP K ci (packP 0 G)) := by
  obtain ⟨oc, od, dV, kV, doc, pm, an, cdv, ct, osl, rfl, lk, hcd, hD, hK⟩ := F.ex
  rcases hD with ⟨_, rfl⟩ | ⟨e, _⟩
  · refine (StX.fn_star (ps := []) (sp := spP K ci G) lk hcd sc StX.cxUp (fun us rest hl => ?_) (bodyP hb hv cdv)).imp fun vs H Q E h => star_P h
    cases us with
    | nil => exact bnd kV doc pm an cdv ct rest
    | cons => cases hl
  · exact absurd rfl e
end
structure CallS (P : Program) (w : World) (K : PySem.W.Frag) (mg : Str → Option Value) (base : Heap) (ci : Ci) (k : Nat) (x : Str) (G : PC) : Prop where
  ex : ∃ (f : Addr), FnR P w K mg base (L2.CX P w) k f (spP K ci G) ∧ mg x = some (.ref f) ∧ PySem.W.keepIn K (.ref f) = true
section
variable {X : Cx} {CX : CXT} {k : Nat} {f : Addr} {sp : Sp} {E : XK} {x : Str} {e : Expr} {es : List Expr} {t : TA} {p pos : Pos}
theorem pe_callR (F : FnR X.prog X.w X.K X.mg X.base CX k f sp) (hr : Room k X.A) (hk : PySem.W.keepIn X.K (.ref f) = true) (hg : Gl X x) (hm : X.mg x = some (.ref f)) (hx : Passes CX X E) (ha : PA X (e :: es) t) (hdb : (x == ("__debug__" : Str)) = false)
    (he : starEach (e :: es) X.env = (false, eval e X.env) :: starEach es X.env) (hpl : (backTo pos (starEach es X.env)).any (·.1) = false) : PE X (.Call (.Name x p) (e :: es) [] pos) (fun σ H Q => t σ H fun vs H1 => sp vs H1 Q E) :=
  ⟨fun pins s σ H Q I h => wpAny_Call_Name_kw (ld_glob I hg hm (PySem.W.callWith_K (h₀ := X.base) I.ok.mod.kin hk (thn (ha.run pos pins s σ H _ I h) fun us s1 ⟨vs, H1, I1, r, q⟩ => ⟨I1.kIn, wpAny_call (run_fnR F hr hx I1 r q)⟩) he hpl) hdb)⟩
theorem pe_callR0 (F : FnR X.prog X.w X.K X.mg X.base CX k f sp) (hr : Room k X.A) (hk : PySem.W.keepIn X.K (.ref f) = true) (hg : Gl X x) (hm : X.mg x = some (.ref f)) (hx : Passes CX X E) (hdb : (x == ("__debug__" : Str)) = false) : PE X (.Call (.Name x p) [] [] pos) (fun σ H Q => sp [] H Q E) :=
  ⟨fun pins s σ H Q I h => wpAny_Call_Name_kw (ld_glob I hg hm (PySem.W.callWith_K0 I.kIn hk (wpAny_call (run_fnR F hr hx I .nil h))) hdb)⟩
end
section
variable {ci : Ci} {X : Cx}
theorem rp_callSt {k : Nat} {x : Str} {p pos : Pos} {e : Expr} {es : List Expr} {G : PC} {fs : QFs} (C : CallS X.prog X.w X.K X.mg X.base ci k x G) (hr : Room k X.A) (hg : Gl X x) (ha : RPs ci X (e :: es) fs)
    (hdb : (x == ("__debug__" : Str)) = false := by decide +kernel) (he : starEach (e :: es) X.env = (false, eval e X.env) :: starEach es X.env := by rfl) (hpl : (backTo pos (starEach es X.env)).any (·.1) = false := by kernel_rfl) : RP ci X (.Call (.Name x p) (e :: es) [] pos) (fFn [] G fs) := fun F T Γ S σ H a r q => by
  obtain ⟨l, d, e1, e2, rfl⟩ := fn_some q
  obtain ⟨f, h1, h2, h3⟩ := C.ex
  refine wpX_of (pe_callR (E := E0) h1 hr h3 hg h2 passL pa_wp hdb he hpl) (wpA_mono (ha.2 F T Γ S σ H _ r e1) fun vs H' ⟨hz, r1⟩ => ?_)
  have := spP_of (Q := fun v H' => Rel F ((.d d, v) :: T) Γ S σ H') (E := E0) r1 (by simpa using hz) (fun q hq => List.mem_append_left _ hq) (dfl := []) rfl e2 (fun d' ed v H2 r2 => by cases ed; exact r2.drop dropA) fun er z => by cases z
  rw [List.map_nil, List.append_nil] at this
  exact this
theorem rp_callSt0 {k : Nat} {x : Str} {p pos : Pos} {G : PC} (C : CallS X.prog X.w X.K X.mg X.base ci k x G) (hr : Room k X.A) (hg : Gl X x) (hdb : (x == ("__debug__" : Str)) = false := by decide +kernel) : RP ci X (.Call (.Name x p) [] [] pos) (fFn [] G fNil) := fun F T Γ S σ H a r q => by
  have : ∃ d, G [] = some (.ok d) ∧ a = .d d := by
    unfold fFn fNil at q
    rw [Option.bind_some, dataOf, Option.bind_some] at q
    split at q
    · rename_i d e3
      cases q
      exact ⟨d, e3, rfl⟩
    · cases q
  obtain ⟨d, e2, rfl⟩ := this
  obtain ⟨f, h1, h2, h3⟩ := C.ex
  refine wpX_of (pe_callR0 (E := E0) h1 hr h3 hg h2 passL hdb) ?_
  have := spP_of (l := []) (vs := []) (Q := fun v H' => Rel F ((.d d, v) :: T) Γ S σ H') (E := E0) r rfl (fun q hq => by cases hq) (dfl := []) rfl e2 (fun d' ed v H2 r2 => by cases ed; exact r2) fun er z => by cases z
  exact this
end
end LP

set_option maxHeartbeats 0
namespace K
open PySem PySem.Spec PyProof.Rows L2 LP
/-! what the defs promise -/
/-- alike, n deep -/
def D.sam : Nat → D → Bool
  | _, .non => true | _, .bl _ => true | _, .int _ => true | _, .str _ => true
  | n + 1, .lst l => l.all fun x => D.sam n x
  | n + 1, .tup l => l.all fun x => D.sam n x
  | _, _ => false
open Classical in
noncomputable def G_same (n : Nat) : PC := fun ds => match ds with
  | [x, y] => if x = y ∧ D.sam n x = true then some (.ok (.bl true)) else none
  | _ => none
/-- the bag: cells, place, pool, state, count -/
def bagMO (cs : List Int) (at_ : Nat) (pool st n : Int) : MO := .lst [.d (.lst (cs.map .int)), .d (.int at_), .d (.int pool), .d (.int st), .d (.int n)]
def Bag (m : MO) : Prop := ∃ cs at_ pool st n, m = bagMO cs at_ pool st n ∧ 0 ≤ st ∧ st < 2147483579 ∧ cs.length ≤ 63
noncomputable def G_prev : Nat → PC
  | 0 => fun _ => none
  | n + 1 => G_same n
def fc_bag : FC := fun as S _ Q => ∃ (k : Nat) (cs : List Int), as = [.loc k] ∧ S[k]? = some (.scr (cs.map .int)) ∧ cs.length ≤ 63 ∧ ∀ m, Bag m → Q (.loc S.length) (S ++ [m])
def fc_pull : FC := fun as S _ Q => ∃ k m many, as = [.loc k, .d (.int many)] ∧ S[k]? = some m ∧ Bag m ∧ 0 < many ∧ many < 1152921504606846976 ∧ ∀ r m', Bag m' → 0 ≤ r → r < many → Q (.d (.int r)) (S.set k m')
/-- the rows of a list or a text -/
def rowsOf : D → Option (List D)
  | .lst l => some l
  | .str s => some (s.cps.toList.map fun c => .str ⟨#[c]⟩)
  | _ => none
def fc_pick : FC := fun as S _ Q => ∃ k m rows l, as = [.loc k, .d rows] ∧ S[k]? = some m ∧ Bag m ∧ rowsOf rows = some l ∧ 0 < l.length ∧ l.length < 1000 ∧ ∀ d m', Bag m' → d ∈ l → Q (.d d) (S.set k m')
/-! spans, runs, letters -/
abbrev GR : Int := 999999999999999999
def okP (p : PZ) : Bool := decide (0 ≤ p.1 ∧ p.1 ≤ p.2 ∧ p.2 ≤ GR)
def jstep (acc : List PZ) (p : PZ) : List PZ := match acc.getLast? with
  | some q => if p.1 ≤ q.2 + 1 then acc.dropLast ++ [(q.1, max q.2 p.2)] else acc ++ [p]
  | none => [p]
def joinL (l : List PZ) : List PZ := (sortP l).foldl jstep []
def inL (x : Int) (l : List PZ) : Bool := l.any fun p => decide (p.1 ≤ x ∧ x ≤ p.2)
def lenL (l : List PZ) : Int := (l.map fun p => p.2 - p.1 + 1).sum
def oks (n : Nat) (l : List PZ) : Bool := l.all okP && decide (l.length ≤ n)
/-- a letter with these runs -/
def ltr (rs : List PZ) : D := .ins 0 [.lst (rs.map pzD)]
def runsOf : D → Option (List PZ)
  | .ins 0 [.lst l] => (pairsOf l).bind fun rs => if oks 60 rs = true then some rs else none
  | _ => none
def spansOf : D → Option (List PZ)
  | .lst l => (pairsOf l).bind fun rs => if oks 60 rs = true then some rs else none
  | .tup l => (pairsOf l).bind fun rs => if oks 60 rs = true then some rs else none
  | _ => none
def G_is_number : PC := fun ds => match ds with
  | [.int i, .int a, .int b] => some (.ok (.bl (decide (a ≤ i ∧ i ≤ b))))
  | _ => none
def G_is_span : PC := fun ds => match ds with
  | [.tup [.int a, .int b]] => if okP (a, b) = true then some (.ok (.bl true)) else none
  | _ => none
def G_joined : PC := fun ds => match ds with
  | [d] => (spansOf d).map fun ps => .ok (.lst ((joinL ps).map pzD))
  | _ => none
def G_init : PI' := fun ds => match ds with
  | [.tup l] => (spansOf (.tup l)).map fun ps => .ok [.lst ((joinL ps).map pzD)]
  | _ => none
def G_Letter : PI' := packI G_init
def G_runs : PC := fun ds => match ds with
  | [d] => (runsOf d).map fun rs => .ok (.lst (rs.map pzD))
  | _ => none
def G_contains : PC := fun ds => match ds with
  | [d, .int x] => (runsOf d).map fun rs => .ok (.bl (decide (0 ≤ x ∧ x ≤ GR) && inL x rs))
  | _ => none
def mt_runs : Nat → Option (List D × PC)
  | 0 => some ([], G_runs)
  | _ => none
/-! the law's own -/
def G_in : PC := fun ds => match ds with
  | [.int x, .lst l] => (spansOf (.lst l)).map fun ps => .ok (.bl (inL x ps))
  | _ => none
def G_letter : PC := fun ds => match ds with
  | [.lst l] => (spansOf (.lst l)).bind fun ps => if ps.length ≤ 3 then some (.ok (ltr (joinL ps))) else none
  | _ => none
/-- a span near base -/
def near (base : Int) (p : PZ) : Prop := base ≤ p.1 ∧ p.1 ≤ p.2 ∧ p.2 ≤ base + 16
def fc_span : FC := fun as S _ Q => ∃ k m base, as = [.loc k, .d (.int base)] ∧ S[k]? = some m ∧ Bag m ∧ ∀ p m', Bag m' → near base p → Q (.d (pzD p)) (S.set k m')
/-! cutting -/
/-- the indexes of the rows with a number -/
def plL (x : Int) (L : List (List PZ)) : List Int := ((List.range L.length).filter fun i => inL x (L.getD i [])).map fun (i : Nat) => (i : Int)
abbrev T3 := Int × Int × List Int
def t3D (t : T3) : D := .tup [.int t.1, .int t.2.1, .tup (t.2.2.map .int)]
/-- a further piece from low to high -/
def cstep (pl : Int → List Int) (acc : List T3) (p : PZ) : List T3 := match acc.getLast? with
  | some q => if q.2.2 = pl p.1 then acc.dropLast ++ [(q.1, p.2 - 1, pl p.1)] else acc ++ [(p.1, p.2 - 1, pl p.1)]
  | none => [(p.1, p.2 - 1, pl p.1)]
def endsL (L : List (List PZ)) : List Int := 0 :: (L.flatten.map (·.1) ++ (L.flatten.filter fun p => decide (p.2 < GR)).map (·.2 + 1))
def piecesL (b : List Int) : List PZ := List.zip b (b.tail ++ [GR + 1])
def cutL (L : List (List PZ)) : List T3 := (piecesL (srtS (endsL L))).foldl (cstep fun x => plL x L) []
/-- the law's own -/
def lends (L : List (List PZ)) : List Int := L.flatten.foldl (fun acc p => acc ++ [p.1] ++ (if p.2 + 1 < 1000000000000000000 then [p.2 + 1] else [])) [0]
def lstep (pl : Int → List Int) (acc : List T3) (x : Int) : List T3 := match acc.getLast? with
  | some q => if q.2.2 = pl x then acc else acc.dropLast ++ [(q.1, x - 1, q.2.2)] ++ [(x, GR, pl x)]
  | none => [(x, GR, pl x)]
def lcutL (L : List (List PZ)) : List T3 := (srtS (lends L)).foldl (lstep fun x => plL x L) []
def okL (L : List (List PZ)) : Bool := decide (L.length ≤ 3) && L.all fun l => oks 3 l
def lettersOf : List D → Option (List (List PZ))
  | [] => some []
  | d :: ds => (runsOf d).bind fun rs => (lettersOf ds).map fun L => rs :: L
def rowsL : List D → Option (List (List PZ))
  | [] => some []
  | .lst l :: ds => (spansOf (.lst l)).bind fun ps => (rowsL ds).map fun L => ps :: L
  | _ => none
def G_cut : PC := fun ds => match ds with
  | [.tup ls] => (lettersOf ls).bind fun L => if okL L = true then some (.ok (.lst ((cutL L).map t3D))) else none
  | _ => none
def G_cutS : PC := packP 0 G_cut
def G_places : PC := fun ds => match ds with
  | [.int x, .lst rows] => (rowsL rows).bind fun L => if okL L = true then some (.ok (.tup ((plL x L).map .int))) else none
  | _ => none
def G_lcut : PC := fun ds => match ds with
  | [.lst rows] => (rowsL rows).bind fun L => if okL L = true then some (.ok (.lst ((lcutL L).map t3D))) else none
  | _ => none
end K

set_option maxHeartbeats 400000
namespace K
open PySem PySem.Spec PyProof.Rows L2 LP
/-! runs: plain mathematics -/
/-- runs behind one another, apart, the ends in order -/
def Canon : List PZ → Prop
  | [] => True
  | [p] => p.1 ≤ p.2
  | p :: q :: r => p.1 ≤ p.2 ∧ p.2 + 1 < q.1 ∧ Canon (q :: r)
/-- x is in one -/
def mem (x : Int) (l : List PZ) : Prop := ∃ p ∈ l, p.1 ≤ x ∧ x ≤ p.2
theorem inL_iff {x : Int} {l : List PZ} : inL x l = true ↔ mem x l := by
  unfold inL mem
  rw [List.any_eq_true]
  constructor
  · rintro ⟨p, hp, h⟩; exact ⟨p, hp, of_decide_eq_true h⟩
  · rintro ⟨p, hp, h⟩; exact ⟨p, hp, decide_eq_true h⟩
theorem mem_append {x : Int} {a b : List PZ} : mem x (a ++ b) ↔ mem x a ∨ mem x b := by
  unfold mem
  constructor
  · rintro ⟨p, hp, h⟩
    rcases List.mem_append.mp hp with hp | hp
    · exact .inl ⟨p, hp, h⟩
    · exact .inr ⟨p, hp, h⟩
  · rintro (⟨p, hp, h⟩ | ⟨p, hp, h⟩)
    · exact ⟨p, List.mem_append_left _ hp, h⟩
    · exact ⟨p, List.mem_append_right _ hp, h⟩
theorem mem_perm {x : Int} {a b : List PZ} (h : a.Perm b) : mem x a ↔ mem x b := by
  unfold mem
  constructor
  · rintro ⟨p, hp, e⟩; exact ⟨p, h.mem_iff.mp hp, e⟩
  · rintro ⟨p, hp, e⟩; exact ⟨p, h.mem_iff.mpr hp, e⟩
theorem mem_cons {x : Int} {p : PZ} {l : List PZ} : mem x (p :: l) ↔ (p.1 ≤ x ∧ x ≤ p.2) ∨ mem x l := by
  unfold mem
  constructor
  · rintro ⟨q, hq, e⟩
    rcases List.mem_cons.mp hq with rfl | hq
    · exact .inl e
    · exact .inr ⟨q, hq, e⟩
  · rintro (e | ⟨q, hq, e⟩)
    · exact ⟨p, List.mem_cons_self, e⟩
    · exact ⟨q, List.mem_cons_of_mem _ hq, e⟩
theorem mem_nil {x : Int} : ¬ mem x [] := by rintro ⟨p, hp, _⟩; cases hp
theorem canon_tl {p : PZ} {l : List PZ} (h : Canon (p :: l)) : Canon l := by
  cases l with
  | nil => trivial
  | cons q r => exact h.2.2
theorem canon_hd {p : PZ} {l : List PZ} (h : Canon (p :: l)) : p.1 ≤ p.2 := by
  cases l with
  | nil => exact h
  | cons q r => exact h.1
/-- what stands behind the first run lies apart -/
theorem canon_far {p : PZ} : ∀ {l : List PZ}, Canon (p :: l) → ∀ x, mem x l → p.2 + 1 < x
  | [], _, x, h => (mem_nil h).elim
  | q :: r, h, x, hx => by
    have h1 := canon_hd h.2.2
    rcases mem_cons.mp hx with e | e
    · have := h.2.1; omega
    · have := canon_far h.2.2 x e
      have := h.2.1
      omega
/-- the runs are told by the numbers -/
theorem canon_uniq : ∀ {a b : List PZ}, Canon a → Canon b → (∀ x, mem x a ↔ mem x b) → a = b
  | [], [], _, _, _ => rfl
  | [], q :: b, _, hb, h => by
    have := (h q.1).mpr (mem_cons.mpr (.inl ⟨Int.le_refl _, canon_hd hb⟩))
    exact (mem_nil this).elim
  | p :: a, [], ha, _, h => by
    have := (h p.1).mp (mem_cons.mpr (.inl ⟨Int.le_refl _, canon_hd ha⟩))
    exact (mem_nil this).elim
  | p :: a, q :: b, ha, hb, h => by
    have hp := canon_hd ha
    have hq := canon_hd hb
    have fa := canon_far ha
    have fb := canon_far hb
    have e1 : p.1 = q.1 := by
      have i1 := (h p.1).mp (mem_cons.mpr (.inl ⟨Int.le_refl _, hp⟩))
      have i2 := (h q.1).mpr (mem_cons.mpr (.inl ⟨Int.le_refl _, hq⟩))
      rcases mem_cons.mp i1 with z | z <;> rcases mem_cons.mp i2 with w | w
      · omega
      · have := fa _ w; omega
      · have := fb _ z; omega
      · have := fa _ w; have := fb _ z; omega
    have e2 : p.2 = q.2 := by
      rcases Int.lt_trichotomy p.2 q.2 with c | c | c
      · have i := (h (p.2 + 1)).mpr (mem_cons.mpr (.inl ⟨by omega, by omega⟩))
        rcases mem_cons.mp i with z | z
        · omega
        · have := fa _ z; omega
      · exact c
      · have i := (h (q.2 + 1)).mp (mem_cons.mpr (.inl ⟨by omega, by omega⟩))
        rcases mem_cons.mp i with z | z
        · omega
        · have := fb _ z; omega
    have e : p = q := Prod.ext e1 e2
    subst e
    rw [canon_uniq (canon_tl ha) (canon_tl hb) fun x => ?_]
    constructor
    · intro hx
      have := fa x hx
      rcases mem_cons.mp ((h x).mp (mem_cons.mpr (.inr hx))) with z | z
      · omega
      · exact z
    · intro hx
      have := fb x hx
      rcases mem_cons.mp ((h x).mpr (mem_cons.mpr (.inr hx))) with z | z
      · omega
      · exact z
/-! joining -/
theorem canon_snoc {p : PZ} (hp : p.1 ≤ p.2) : ∀ {l : List PZ}, Canon l → (∀ q, l.getLast? = some q → q.2 + 1 < p.1) → Canon (l ++ [p])
  | [], _, _ => hp
  | [q], h, hl => ⟨h, hl q rfl, hp⟩
  | q :: r :: l, h, hl => ⟨h.1, h.2.1, canon_snoc hp (l := r :: l) h.2.2 fun z hz => hl z (by rw [List.getLast?_cons_cons]; exact hz)⟩
theorem canon_init : ∀ {l : List PZ} {q : PZ}, Canon (l ++ [q]) → Canon l ∧ q.1 ≤ q.2 ∧ ∀ z, l.getLast? = some z → z.2 + 1 < q.1
  | [], q, h => ⟨trivial, h, fun z hz => by cases hz⟩
  | [p], q, h => ⟨h.1, h.2.2, fun z hz => by cases hz; exact h.2.1⟩
  | p :: r :: l, q, h => by
    obtain ⟨h1, h2, h3⟩ := canon_init (l := r :: l) h.2.2
    exact ⟨⟨h.1, h.2.1, h1⟩, h2, fun z hz => h3 z (by rw [List.getLast?_cons_cons] at hz; exact hz)⟩
theorem last_split {l : List PZ} {q : PZ} (h : l.getLast? = some q) : l = l.dropLast ++ [q] := by
  have hne : l ≠ [] := by rintro rfl; cases h
  rw [List.getLast?_eq_some_getLast hne] at h
  cases h
  exact (List.dropLast_concat_getLast hne).symm
theorem jstep_canon {acc : List PZ} {p : PZ} (h : Canon acc) (hp : p.1 ≤ p.2) (hs : ∀ q, acc.getLast? = some q → q.1 ≤ p.1) : Canon (jstep acc p) := by
  unfold jstep
  split
  · rename_i q hq
    have hsp := last_split hq
    have h' := h
    rw [hsp] at h'
    obtain ⟨c1, c2, c3⟩ := canon_init h'
    split
    · rename_i hc
      refine canon_snoc (p := (q.1, max q.2 p.2)) (by show q.1 ≤ max q.2 p.2; omega) c1 c3
    · rename_i hc
      refine canon_snoc hp h fun z hz => ?_
      rw [hq] at hz
      cases hz
      omega
  · exact hp
theorem jstep_last {acc : List PZ} {p : PZ} (hs : ∀ q, acc.getLast? = some q → q.1 ≤ p.1) : ∃ q, (jstep acc p).getLast? = some q ∧ q.1 ≤ p.1 := by
  unfold jstep
  split
  · rename_i q hq
    split
    · exact ⟨_, List.getLast?_concat .., hs q hq⟩
    · exact ⟨_, List.getLast?_concat .., Int.le_refl _⟩
  · exact ⟨p, rfl, Int.le_refl _⟩
theorem jstep_mem {acc : List PZ} {p : PZ} (hp : p.1 ≤ p.2) (hl : ∀ q, acc.getLast? = some q → q.1 ≤ p.1 ∧ q.1 ≤ q.2) (x : Int) : mem x (jstep acc p) ↔ mem x acc ∨ (p.1 ≤ x ∧ x ≤ p.2) := by
  unfold jstep
  split
  · rename_i q hq
    have hsp := last_split hq
    obtain ⟨h1, h2⟩ := hl q hq
    split
    · rename_i hc
      rw [mem_append, mem_cons]
      have e : mem x acc ↔ mem x acc.dropLast ∨ (q.1 ≤ x ∧ x ≤ q.2) := by
        have e1 : mem x acc ↔ mem x (acc.dropLast ++ [q]) := by rw [← hsp]
        rw [e1, mem_append, mem_cons]
        simp [mem_nil]
      rw [e]
      simp only [mem_nil, or_false]
      constructor
      · rintro (z | z)
        · exact .inl (.inl z)
        · by_cases c : x ≤ q.2
          · exact .inl (.inr ⟨z.1, c⟩)
          · refine .inr ⟨by omega, ?_⟩
            have := z.2
            omega
      · rintro ((z | z) | z)
        · exact .inl z
        · exact .inr ⟨z.1, by omega⟩
        · exact .inr ⟨by omega, by omega⟩
    · rw [mem_append, mem_cons]
      simp [mem_nil]
  · rename_i hq
    have : acc = [] := by
      cases acc with
      | nil => rfl
      | cons a b => simp at hq
    subst this
    rw [mem_cons]
    simp [mem_nil]
theorem fold_join : ∀ {l acc : List PZ}, (∀ p ∈ l, p.1 ≤ p.2) → l.Pairwise (fun a b => leP a b = true) → Canon acc → (∀ q, acc.getLast? = some q → ∀ p ∈ l, q.1 ≤ p.1) → Canon (l.foldl jstep acc) ∧ ∀ x, mem x (l.foldl jstep acc) ↔ mem x acc ∨ mem x l
  | [], acc, _, _, hc, _ => ⟨hc, fun x => by simp [mem_nil]⟩
  | p :: l, acc, h, hp, hc, hl => by
    have h1 : p.1 ≤ p.2 := h p List.mem_cons_self
    have hs : ∀ q, acc.getLast? = some q → q.1 ≤ p.1 := fun q hq => hl q hq p List.mem_cons_self
    have c1 := jstep_canon hc h1 hs
    obtain ⟨p1, p2⟩ := List.pairwise_cons.mp hp
    have l2 : ∀ q, (jstep acc p).getLast? = some q → ∀ r ∈ l, q.1 ≤ r.1 := fun q hq r hr => by
      obtain ⟨q', e, k⟩ := jstep_last hs
      rw [hq] at e
      cases e
      have := leP_iff.mp (p1 r hr)
      omega
    obtain ⟨f1, f2⟩ := fold_join (l := l) (acc := jstep acc p) (fun r hr => h r (List.mem_cons_of_mem _ hr)) p2 c1 l2
    refine ⟨f1, fun x => ?_⟩
    have hl2 : ∀ q, acc.getLast? = some q → q.1 ≤ p.1 ∧ q.1 ≤ q.2 := fun q hq => ⟨hs q hq, by
      have hsp := last_split hq
      rw [hsp] at hc
      exact (canon_init hc).2.1⟩
    show mem x (l.foldl jstep (jstep acc p)) ↔ _
    rw [f2 x, jstep_mem h1 hl2, mem_cons, or_assoc]
theorem join_spec {l : List PZ} (h : ∀ p ∈ l, p.1 ≤ p.2) : Canon (joinL l) ∧ ∀ x, mem x (joinL l) ↔ mem x l := by
  obtain ⟨h1, h2⟩ := fold_join (l := sortP l) (acc := []) (fun p hp => h p ((sortP_perm l).mem_iff.mp hp)) (sortP_srt l) trivial (fun q hq => by cases hq)
  refine ⟨h1, fun x => ?_⟩
  show mem x ((sortP l).foldl jstep []) ↔ _
  rw [h2 x]
  simp only [mem_nil, false_or]
  exact mem_perm (sortP_perm l)
theorem jstep_len (acc : List PZ) (p : PZ) : (jstep acc p).length ≤ acc.length + 1 := by
  unfold jstep
  split
  · rename_i q hq
    split
    · have : acc ≠ [] := by rintro rfl; cases hq
      simp <;> omega
    · simp
  · simp
theorem fold_len : ∀ (l acc : List PZ), (l.foldl jstep acc).length ≤ acc.length + l.length
  | [], acc => by simp
  | p :: l, acc => by
    have := fold_len l (jstep acc p)
    have := jstep_len acc p
    simp only [List.foldl_cons, List.length_cons]
    omega
theorem join_len (l : List PZ) : (joinL l).length ≤ l.length := by
  have := fold_len (sortP l) []
  have e := (sortP_perm l).length_eq
  unfold joinL
  simp only [List.length_nil] at this
  omega
/-! the ends of canonical runs are numbers of them -/
theorem canon_ok {l : List PZ} (h : Canon l) (hb : ∀ x, mem x l → 0 ≤ x ∧ x ≤ GR) : ∀ p ∈ l, okP p = true := by
  intro p hp
  have hle : ∀ {l : List PZ}, Canon l → ∀ p ∈ l, p.1 ≤ p.2 := by
    intro l
    induction l with
    | nil => intro _ p hp; cases hp
    | cons q r ih =>
      intro h p hp
      rcases List.mem_cons.mp hp with rfl | hp
      · exact canon_hd h
      · exact ih (canon_tl h) p hp
  have h1 := hle h p hp
  have a := hb p.1 ⟨p, hp, Int.le_refl _, h1⟩
  have b := hb p.2 ⟨p, hp, h1, Int.le_refl _⟩
  exact decide_eq_true ⟨a.1, h1, b.2⟩
theorem ok_le {l : List PZ} (h : ∀ p ∈ l, okP p = true) : ∀ p ∈ l, p.1 ≤ p.2 := fun p hp => (of_decide_eq_true (h p hp)).2.1
theorem ok_mem {l : List PZ} (h : ∀ p ∈ l, okP p = true) (x : Int) (hx : mem x l) : 0 ≤ x ∧ x ≤ GR := by
  obtain ⟨p, hp, e⟩ := hx
  have := of_decide_eq_true (h p hp)
  omega
theorem join_ok {l : List PZ} (h : ∀ p ∈ l, okP p = true) : ∀ p ∈ joinL l, okP p = true := by
  obtain ⟨h1, h2⟩ := join_spec (ok_le h)
  exact canon_ok h1 fun x hx => ok_mem h x ((h2 x).mp hx)
end K

set_option maxHeartbeats 400000
namespace K
open PySem PySem.Spec PyProof.Rows L2 LP
/-! == of lists of whole numbers, of pairs -/
theorem pys_ints : ∀ l : List Int, D.pys (l.map .int) = some (l.map PyData.int)
  | [] => by rw [List.map_nil, D.pys]; rfl
  | s :: l => by rw [List.map_cons, D.pys, pys_ints l, D.py]; rfl
def pyP (p : PZ) : PyData := .tuple [.int p.1, .int p.2]
theorem py_pz (p : PZ) : D.py (pzD p) = some (pyP p) := by
  simp only [pzD, D.py, D.pys, Option.bind_some, Option.map_some, pyP]
theorem pys_pairs : ∀ l : List PZ, D.pys (l.map pzD) = some (l.map pyP)
  | [] => by rw [List.map_nil, D.pys]; rfl
  | s :: l => by rw [List.map_cons, D.pys, pys_pairs l, py_pz]; rfl
theorem lay_ints : ∀ l : List Int, PyData.canLayAll0 (l.map PyData.int) = true
  | [] => by rw [List.map_nil, PyData.canLayAll0]
  | s :: l => by rw [List.map_cons, PyData.canLayAll0, PyData.canLay0, lay_ints l]; rfl
theorem lay_pairs : ∀ l : List PZ, PyData.canLayAll0 (l.map pyP) = true
  | [] => by rw [List.map_nil, PyData.canLayAll0]
  | s :: l => by
    rw [List.map_cons, PyData.canLayAll0, lay_pairs l]
    simp only [pyP, PyData.canLay0, PyData.canLayAll0, Bool.and_self]
theorem dep_ints : ∀ l : List Int, PyData.depthAll (l.map PyData.int) = 0
  | [] => by rw [List.map_nil, PyData.depthAll]
  | s :: l => by rw [List.map_cons, PyData.depthAll, dep_ints l, PyData.depth]; rfl
theorem dep_pairs : ∀ l : List PZ, PyData.depthAll (l.map pyP) ≤ 1
  | [] => by rw [List.map_nil, PyData.depthAll]; decide
  | s :: l => by
    have := dep_pairs l
    rw [List.map_cons, PyData.depthAll]
    have e : PyData.depth (pyP s) ≤ 1 := by simp [pyP, PyData.depth, PyData.depthAll]
    omega
theorem shp_ints (l : List Int) : SeqAt.shaped (.list (l.map PyData.int)) = true := by
  unfold SeqAt.shaped
  rw [PyData.canLay0, lay_ints, PyData.depth, dep_ints]
  rfl
theorem shp_pairs (l : List PZ) : SeqAt.shaped (.list (l.map pyP)) = true := by
  have := dep_pairs l
  unfold SeqAt.shaped
  rw [PyData.canLay0, lay_pairs, PyData.depth]
  simp
  omega
theorem eqv_ints : ∀ a b : List Int, PyData.eqvAll (a.map .int) (b.map .int) = decide (a = b)
  | [], [] => by simp [PyData.eqvAll]
  | x :: a, [] => by simp [PyData.eqvAll]
  | [], y :: b => by simp [PyData.eqvAll]
  | x :: a, y :: b => by
    rw [List.map_cons, List.map_cons, PyData.eqvAll, eqv_ints a b, PyData.eqv]
    by_cases h : x = y <;> by_cases h2 : a = b <;> simp [h, h2]
theorem eqv_pz (p q : PZ) : PyData.eqv (pyP p) (pyP q) = decide (p = q) := by
  obtain ⟨a, b⟩ := p
  obtain ⟨c, d⟩ := q
  simp only [pyP, PyData.eqv, PyData.eqvAll, Bool.and_true]
  by_cases h : a = c <;> by_cases h2 : b = d <;> simp [h, h2]
theorem eqv_pairs : ∀ a b : List PZ, PyData.eqvAll (a.map pyP) (b.map pyP) = decide (a = b)
  | [], [] => by simp [PyData.eqvAll]
  | x :: a, [] => by simp [PyData.eqvAll]
  | [], y :: b => by simp [PyData.eqvAll]
  | x :: a, y :: b => by
    rw [List.map_cons, List.map_cons, PyData.eqvAll, eqv_pairs a b, eqv_pz]
    by_cases h : x = y <;> by_cases h2 : a = b <;> simp [h, h2]
theorem deq_ints (a b : List Int) : deq (.lst (a.map .int)) (.lst (b.map .int)) = some (decide (a = b)) := by
  simp only [deq, D.py, pys_ints, Option.map_some, Option.bind_some, shp_ints, Bool.and_self, if_true, PyData.eqv, eqv_ints]
theorem deq_pairs (a b : List PZ) : deq (.lst (a.map pzD)) (.lst (b.map pzD)) = some (decide (a = b)) := by
  simp only [deq, D.py, pys_pairs, Option.map_some, Option.bind_some, shp_pairs, Bool.and_self, if_true, PyData.eqv, eqv_pairs]
theorem eq_ints (neg : Bool) (S : So) (a b : List Int) : gEqU neg S (.d (.lst (a.map .int))) (.d (.lst (b.map .int))) = some (.bl (if neg then !decide (a = b) else decide (a = b))) := by
  simp only [gEqU, D.flat, gEq, valD, Option.bind_some, deq_ints, Option.map_some, Bool.false_eq_true, false_and, if_false]
theorem eq_pairs (neg : Bool) (S : So) (a b : List PZ) : gEqU neg S (.d (.lst (a.map pzD))) (.d (.lst (b.map pzD))) = some (.bl (if neg then !decide (a = b) else decide (a = b))) := by
  simp only [gEqU, D.flat, gEq, valD, Option.bind_some, deq_pairs, Option.map_some, Bool.false_eq_true, false_and, if_false]
theorem shp_tints (l : List Int) : SeqAt.shaped (.tuple (l.map PyData.int)) = true := by
  unfold SeqAt.shaped
  rw [PyData.canLay0, lay_ints, PyData.depth, dep_ints]
  rfl
theorem deq_tints (a b : List Int) : deq (.tup (a.map .int)) (.tup (b.map .int)) = some (decide (a = b)) := by
  simp only [deq, D.py, pys_ints, Option.map_some, Option.bind_some, shp_tints, Bool.and_self, if_true, PyData.eqv, eqv_ints]
theorem eq_tints (neg : Bool) (S : So) (a b : List Int) : gEqU neg S (.d (.tup (a.map .int))) (.d (.tup (b.map .int))) = some (.bl (if neg then !decide (a = b) else decide (a = b))) := by
  simp only [gEqU, D.flat, gEq, valD, Option.bind_some, deq_tints, Option.map_some, Bool.false_eq_true, false_and, if_false]
def pyT (t : T3) : PyData := .tuple [.int t.1, .int t.2.1, .tuple (t.2.2.map .int)]
theorem py_t3 (t : T3) : D.py (t3D t) = some (pyT t) := by
  simp only [t3D, D.py, D.pys, pys_ints, Option.bind_some, Option.map_some, pyT]
theorem pys_t3 : ∀ l : List T3, D.pys (l.map t3D) = some (l.map pyT)
  | [] => by rw [List.map_nil, D.pys]; rfl
  | s :: l => by rw [List.map_cons, D.pys, pys_t3 l, py_t3]; rfl
theorem lay_t3 : ∀ l : List T3, PyData.canLayAll0 (l.map pyT) = true
  | [] => by rw [List.map_nil, PyData.canLayAll0]
  | s :: l => by
    rw [List.map_cons, PyData.canLayAll0, lay_t3 l]
    simp only [pyT, PyData.canLay0, PyData.canLayAll0, lay_ints, Bool.and_self]
theorem dep_t3 : ∀ l : List T3, PyData.depthAll (l.map pyT) ≤ 2
  | [] => by rw [List.map_nil, PyData.depthAll]; decide
  | s :: l => by
    have := dep_t3 l
    rw [List.map_cons, PyData.depthAll]
    have e : PyData.depth (pyT s) ≤ 2 := by simp [pyT, PyData.depth, PyData.depthAll, dep_ints]
    omega
theorem shp_t3 (l : List T3) : SeqAt.shaped (.list (l.map pyT)) = true := by
  have := dep_t3 l
  unfold SeqAt.shaped
  rw [PyData.canLay0, lay_t3, PyData.depth]
  simp
  omega
theorem deq_t3 (a : List T3) : deq (.lst (a.map t3D)) (.lst []) = some (decide (a = [])) := by
  have e : (D.lst ([] : List D)) = .lst (([] : List T3).map t3D) := rfl
  rw [e]
  simp only [deq, D.py, pys_t3, Option.map_some, Option.bind_some, shp_t3, Bool.and_self, if_true, PyData.eqv]
  cases a <;> simp [PyData.eqvAll]
theorem flat_ints (l : List Int) : (l.map D.int).all D.flat = true := by
  rw [List.all_eq_true]
  intro d hd
  obtain ⟨i, _, rfl⟩ := List.mem_map.mp hd
  rfl
theorem any_ints (n : Int) (l : List Int) : ((l.map D.int).any fun y => feq y (.int n)) = decide (n ∈ l) := by
  rw [List.any_map]
  induction l with
  | nil => simp
  | cons x l ih =>
    rw [List.any_cons, ih]
    by_cases h : x = n
    · subst h; simp [feq]
    · have : ¬ n = x := fun e => h e.symm
      simp [feq, h, this]
theorem in_ints (neg : Bool) (S : So) (n : Int) (l : List Int) : gInU neg S (.d (.int n)) (.d (.lst (l.map .int))) = some (.bl (if neg then !decide (n ∈ l) else decide (n ∈ l))) := by
  simp only [gInU, gIn, viewQ, viewL, Option.bind_some, flat_ints, any_ints, D.flat, Bool.and_self, if_true]
end K

set_option maxHeartbeats 400000
namespace K
open PySem PySem.Spec PyProof.Rows L2 LP
/-! pieces with one answer: plain mathematics -/
section
variable (pl : Int → List Int)
def segs : List Int → Int → List T3
  | [], _ => []
  | [c], e => [(c, e, pl c)]
  | c :: d :: r, e => (c, d - 1, pl c) :: segs (d :: r) e
def kstep (C : List Int) (b : Int) : List Int := match C.getLast? with
  | some c => if pl c = pl b then C else C ++ [b]
  | none => [b]
/-- the begins behind one with the answer p that are kept -/
def compR : List Int → List Int → List Int
  | _, [] => []
  | p, b :: r => if p = pl b then compR p r else b :: compR (pl b) r
end
variable {pl : Int → List Int}
theorem segs_snoc : ∀ {C : List Int} {b e : Int}, segs pl (C ++ [b]) e = segs pl C (b - 1) ++ [(b, e, pl b)]
  | [], b, e => rfl
  | [c], b, e => rfl
  | c :: d :: r, b, e => by
    show segs pl (c :: d :: (r ++ [b])) e = _
    rw [segs, segs, List.cons_append]
    congr 1
    exact segs_snoc (C := d :: r)
theorem last_cases {α : Type} (C : List α) : C = [] ∨ ∃ C0 c, C = C0 ++ [c] := by
  rcases List.eq_nil_or_concat C with h | ⟨C0, c, h⟩
  · exact .inl h
  · exact .inr ⟨C0, c, by rw [h, List.concat_eq_append]⟩
theorem cstep_segs {C : List Int} {b n : Int} : cstep pl (segs pl C (b - 1)) (b, n) = segs pl (kstep pl C b) (n - 1) := by
  rcases last_cases C with rfl | ⟨C0, c, rfl⟩
  · rfl
  · unfold cstep kstep
    rw [segs_snoc]
    simp only [List.getLast?_concat, List.dropLast_concat]
    by_cases h : pl c = pl b
    · rw [if_pos h, if_pos h, segs_snoc, h]
    · rw [if_neg h, if_neg h, segs_snoc, segs_snoc]
theorem cfold : ∀ (bs C : List Int), (piecesL bs).foldl (cstep pl) (segs pl C (bs.headD (GR + 1) - 1)) = segs pl (bs.foldl (kstep pl) C) GR
  | [], C => by
    show segs pl C (GR + 1 - 1) = segs pl C GR
    congr 1
  | b :: r, C => by
    have e : piecesL (b :: r) = (b, r.headD (GR + 1)) :: piecesL r := by
      unfold piecesL
      cases r <;> rfl
    rw [e, List.foldl_cons, List.foldl_cons]
    show List.foldl (cstep pl) (cstep pl (segs pl C (b - 1)) (b, r.headD (GR + 1))) (piecesL r) = _
    rw [cstep_segs, cfold r]
theorem lstep_segs {C : List Int} {x : Int} : lstep pl (segs pl C GR) x = segs pl (kstep pl C x) GR := by
  rcases last_cases C with rfl | ⟨C0, c, rfl⟩
  · rfl
  · unfold lstep kstep
    rw [segs_snoc]
    simp only [List.getLast?_concat, List.dropLast_concat]
    by_cases h : pl c = pl x
    · rw [if_pos h, if_pos h, segs_snoc]
    · rw [if_neg h, if_neg h, segs_snoc, segs_snoc]
theorem lfold : ∀ (bs C : List Int), bs.foldl (lstep pl) (segs pl C GR) = segs pl (bs.foldl (kstep pl) C) GR
  | [], C => rfl
  | b :: r, C => by rw [List.foldl_cons, List.foldl_cons, lstep_segs, lfold r]
theorem kfold : ∀ (r C0 : List Int) (c : Int), r.foldl (kstep pl) (C0 ++ [c]) = C0 ++ [c] ++ compR pl (pl c) r
  | [], C0, c => by simp [compR]
  | b :: r, C0, c => by
    rw [List.foldl_cons, compR]
    have e : kstep pl (C0 ++ [c]) b = if pl c = pl b then C0 ++ [c] else C0 ++ [c] ++ [b] := by
      unfold kstep
      simp only [List.getLast?_concat]
    rw [e]
    by_cases h : pl c = pl b
    · rw [if_pos h, if_pos h, kfold r]
    · rw [if_neg h, if_neg h, kfold r (C0 ++ [c]) b]
      simp
theorem compR_sub : ∀ {r p : List Int}, (compR pl p r).Sublist r
  | [], p => by simp [compR]
  | b :: r, p => by
    rw [compR]
    split
    · exact compR_sub.cons _
    · exact compR_sub.cons₂ _
/-- no change from a to b -/
theorem still {a : Int} : ∀ (n : Nat), (∀ x, a < x → x ≤ a + n → pl x = pl (x - 1)) → pl (a + n) = pl a
  | 0, _ => by simp
  | n + 1, h => by
    have e := h (a + (n + 1 : Nat)) (by omega) (Int.le_refl _)
    rw [e, show a + ((n + 1 : Nat) : Int) - 1 = a + n by omega]
    exact still n fun x h1 h2 => h x h1 (by omega)
theorem compR_mem : ∀ {r : List Int} {a : Int}, (a :: r).Pairwise (· < ·) → (∀ x ∈ r, x ≤ GR) → (∀ x, a < x → x ≤ GR → pl x ≠ pl (x - 1) → x ∈ r) → ∀ x, x ∈ compR pl (pl a) r ↔ a < x ∧ x ≤ GR ∧ pl x ≠ pl (x - 1)
  | [], a, _, _, h, x => by
    rw [compR]
    constructor
    · intro z; cases z
    · rintro ⟨h1, h2, h3⟩
      exact h x h1 h2 h3
  | b :: r, a, hp, hg, h, x => by
    obtain ⟨p1, p2⟩ := List.pairwise_cons.mp hp
    obtain ⟨q1, q2⟩ := List.pairwise_cons.mp p2
    have hab := p1 b List.mem_cons_self
    have hbg := hg b List.mem_cons_self
    have quiet : ∀ z, a < z → z < b → pl z = pl (z - 1) := fun z h1 h2 => by
      by_cases e : pl z = pl (z - 1)
      · exact e
      · rcases List.mem_cons.mp (h z h1 (by omega) e) with e2 | e2
        · omega
        · have := q1 z e2; omega
    have eb : pl (b - 1) = pl a := by
      have := still (pl := pl) (a := a) (b - 1 - a).toNat fun z h1 h2 => quiet z h1 (by omega)
      rw [show a + ((b - 1 - a).toNat : Int) = b - 1 by omega] at this
      exact this
    have ih := compR_mem (r := r) (a := b) p2 (fun z hz => hg z (List.mem_cons_of_mem _ hz)) (fun z h1 h2 h3 => by
      rcases List.mem_cons.mp (h z (by omega) h2 h3) with e | e
      · omega
      · exact e) x
    have split3 : a < x → x ≤ b ∨ b < x := fun _ => by omega
    rw [compR]
    by_cases hc : pl a = pl b
    · rw [if_pos hc, hc, ih]
      constructor
      · rintro ⟨h1, h2⟩; exact ⟨by omega, h2⟩
      · rintro ⟨h1, h2, h3⟩
        refine ⟨?_, h2, h3⟩
        by_cases e : b < x
        · exact e
        · by_cases e2 : x = b
          · subst e2
            exact absurd (by rw [eb, hc]) h3
          · exact absurd (quiet x h1 (by omega)) h3
    · rw [if_neg hc, List.mem_cons, ih]
      constructor
      · rintro (e | ⟨h1, h2⟩)
        · subst e
          exact ⟨hab, hbg, fun z => hc (by rw [← eb, z])⟩
        · exact ⟨by omega, h2⟩
      · rintro ⟨h1, h2, h3⟩
        by_cases e : b < x
        · exact .inr ⟨e, h2, h3⟩
        · by_cases e2 : x = b
          · exact .inl e2
          · exact absurd (quiet x h1 (by omega)) h3
/-- begins: ascending, from 0, all changes among them -/
structure Begins (pl : Int → List Int) (bs : List Int) : Prop where
  srt : bs.Pairwise (· < ·)
  zero : (0 : Int) ∈ bs
  rng : ∀ x ∈ bs, 0 ≤ x ∧ x ≤ GR
  all : ∀ x, 0 < x → x ≤ GR → pl x ≠ pl (x - 1) → x ∈ bs
theorem Begins.head {bs : List Int} (h : Begins pl bs) : ∃ r, bs = 0 :: r := by
  have h0 := h.zero
  cases bs with
  | nil => cases h0
  | cons b r =>
    rcases List.mem_cons.mp h0 with e | e
    · exact ⟨r, by rw [e]⟩
    · have h1 := (List.pairwise_cons.mp h.srt).1 0 e
      have h2 := (h.rng b List.mem_cons_self).1
      omega
theorem Begins.fold {bs : List Int} (h : Begins pl bs) : ∃ C, bs.foldl (kstep pl) [] = 0 :: C ∧ C.Pairwise (· < ·) ∧ ∀ x, x ∈ C ↔ 0 < x ∧ x ≤ GR ∧ pl x ≠ pl (x - 1) := by
  obtain ⟨r, rfl⟩ := h.head
  refine ⟨compR pl (pl 0) r, ?_, ?_, fun x => ?_⟩
  · rw [List.foldl_cons]
    exact kfold r [] 0
  · exact ((List.pairwise_cons.mp h.srt).2).sublist compR_sub
  · refine compR_mem h.srt (fun z hz => (h.rng z (List.mem_cons_of_mem _ hz)).2) (fun z h1 h2 h3 => ?_) x
    rcases List.mem_cons.mp (h.all z h1 h2 h3) with e | e
    · omega
    · exact e
theorem Begins.same {bs bs' : List Int} (h : Begins pl bs) (h' : Begins pl bs') : bs.foldl (kstep pl) [] = bs'.foldl (kstep pl) [] := by
  obtain ⟨C, e, s, m⟩ := h.fold
  obtain ⟨C', e', s', m'⟩ := h'.fold
  rw [e, e', srt_uniq s s' fun x => by rw [m, m']]
/-! the places -/
theorem inL_step {x : Int} {l : List PZ} (h : inL x l ≠ inL (x - 1) l) : ∃ p ∈ l, x = p.1 ∨ x = p.2 + 1 := by
  by_cases h1 : inL x l = true
  · have h2 : inL (x - 1) l ≠ true := fun e => h (by rw [h1, e])
    obtain ⟨p, hp, a, b⟩ := inL_iff.mp h1
    refine ⟨p, hp, .inl ?_⟩
    have h3 : ¬ (p.1 ≤ x - 1 ∧ x - 1 ≤ p.2) := fun e => h2 (inL_iff.mpr ⟨p, hp, e⟩)
    omega
  · have h2 : inL (x - 1) l = true := by
      cases e : inL (x - 1) l with
      | true => rfl
      | false => rw [e] at h; exact absurd (by simpa using h1) h
    obtain ⟨p, hp, a, b⟩ := inL_iff.mp h2
    refine ⟨p, hp, .inr ?_⟩
    have h3 : ¬ (p.1 ≤ x ∧ x ≤ p.2) := fun e => h1 (inL_iff.mpr ⟨p, hp, e⟩)
    omega
theorem plL_step {x : Int} {L : List (List PZ)} (h : plL x L ≠ plL (x - 1) L) : ∃ p ∈ L.flatten, x = p.1 ∨ x = p.2 + 1 := by
  by_cases e : ∃ l ∈ L, inL x l ≠ inL (x - 1) l
  · obtain ⟨l, hl, hne⟩ := e
    obtain ⟨p, hp, e⟩ := inL_step hne
    exact ⟨p, List.mem_flatten.mpr ⟨l, hl, hp⟩, e⟩
  · refine absurd ?_ h
    unfold plL
    congr 1
    refine List.filter_congr fun i hi => ?_
    rw [List.mem_range] at hi
    by_cases e2 : inL x (L.getD i []) = inL (x - 1) (L.getD i [])
    · exact e2
    · refine absurd ⟨_, ?_, e2⟩ e
      rw [List.getD_eq_getElem?_getD, List.getElem?_eq_getElem hi, Option.getD_some]
      exact List.getElem_mem hi
theorem ends_mem {x : Int} {L : List (List PZ)} : x ∈ endsL L ↔ x = 0 ∨ (∃ p ∈ L.flatten, x = p.1) ∨ ∃ p ∈ L.flatten, p.2 < GR ∧ x = p.2 + 1 := by
  unfold endsL
  rw [List.mem_cons, List.mem_append, List.mem_map, List.mem_map]
  simp only [List.mem_filter, decide_eq_true_eq]
  constructor
  · rintro (h | ⟨p, h1, h2⟩ | ⟨p, ⟨h1, h2⟩, h3⟩)
    · exact .inl h
    · exact .inr (.inl ⟨p, h1, h2.symm⟩)
    · exact .inr (.inr ⟨p, h1, h2, h3.symm⟩)
  · rintro (h | ⟨p, h1, h2⟩ | ⟨p, h1, h2, h3⟩)
    · exact .inl h
    · exact .inr (.inl ⟨p, h1, h2.symm⟩)
    · exact .inr (.inr ⟨p, ⟨h1, h2⟩, h3.symm⟩)
theorem lfold_mem {x : Int} : ∀ {l : List PZ} {acc : List Int}, x ∈ l.foldl (fun acc p => acc ++ [p.1] ++ (if p.2 + 1 < 1000000000000000000 then [p.2 + 1] else [])) acc ↔ x ∈ acc ∨ (∃ p ∈ l, x = p.1) ∨ ∃ p ∈ l, p.2 < GR ∧ x = p.2 + 1
  | [], acc => by simp
  | p :: l, acc => by
    rw [List.foldl_cons, lfold_mem (l := l)]
    simp only [List.mem_append, List.mem_singleton, List.exists_mem_cons, List.mem_cons, List.not_mem_nil, or_false, exists_eq_or_imp]
    by_cases h : p.2 + 1 < 1000000000000000000
    · rw [if_pos h]
      have hg : p.2 < GR := by unfold GR; omega
      simp only [List.mem_singleton, hg, true_and]
      constructor
      · rintro (((a | a) | a) | a | a)
        · exact .inl a
        · exact .inr (.inl (.inl a))
        · exact .inr (.inr (.inl a))
        · exact .inr (.inl (.inr a))
        · exact .inr (.inr (.inr a))
      · rintro (a | (a | a) | a | a)
        · exact .inl (.inl (.inl a))
        · exact .inl (.inl (.inr a))
        · exact .inr (.inl a)
        · exact .inl (.inr a)
        · exact .inr (.inr a)
    · rw [if_neg h]
      have hg : ¬ p.2 < GR := by unfold GR; omega
      simp only [List.not_mem_nil, or_false, hg, false_and, false_or]
      constructor
      · rintro ((a | a) | a | a)
        · exact .inl a
        · exact .inr (.inl (.inl a))
        · exact .inr (.inl (.inr a))
        · exact .inr (.inr a)
      · rintro (a | (a | a) | a)
        · exact .inl (.inl a)
        · exact .inl (.inr a)
        · exact .inr (.inl a)
        · exact .inr (.inr a)
theorem lends_mem {x : Int} {L : List (List PZ)} : x ∈ lends L ↔ x = 0 ∨ (∃ p ∈ L.flatten, x = p.1) ∨ ∃ p ∈ L.flatten, p.2 < GR ∧ x = p.2 + 1 := by
  unfold lends
  rw [lfold_mem]
  simp
theorem begins_of {L : List (List PZ)} {b : List Int} {pl : Int → List Int} (hpl : ∀ x, pl x = plL x L) (ho : ∀ p ∈ L.flatten, okP p = true) (hm : ∀ x, x ∈ b ↔ x = 0 ∨ (∃ p ∈ L.flatten, x = p.1) ∨ ∃ p ∈ L.flatten, p.2 < GR ∧ x = p.2 + 1) : Begins pl (srtS b) := by
  refine ⟨srtS_srt b, srtS_mem.mpr ((hm 0).mpr (.inl rfl)), fun x hx => ?_, fun x h1 h2 h3 => ?_⟩
  · rcases (hm x).mp (srtS_mem.mp hx) with e | ⟨p, hp, e⟩ | ⟨p, hp, e1, e⟩
    · subst e; unfold GR; omega
    · have := of_decide_eq_true (ho p hp); omega
    · have := of_decide_eq_true (ho p hp); omega
  · rw [srtS_mem, hm]
    rw [hpl, hpl] at h3
    obtain ⟨p, hp, e | e⟩ := plL_step h3
    · exact .inr (.inl ⟨p, hp, e⟩)
    · exact .inr (.inr ⟨p, hp, by omega, e⟩)
theorem inL_join {l : List PZ} (h : ∀ p ∈ l, okP p = true) (x : Int) : inL x (joinL l) = inL x l := by
  rw [Bool.eq_iff_iff, inL_iff, inL_iff]
  exact (join_spec (ok_le h)).2 x
theorem plL_join {L : List (List PZ)} (h : ∀ l ∈ L, ∀ p ∈ l, okP p = true) (x : Int) : plL x (L.map joinL) = plL x L := by
  unfold plL
  rw [List.length_map]
  congr 1
  refine List.filter_congr fun i hi => ?_
  rw [List.mem_range] at hi
  rw [List.getD_eq_getElem?_getD, List.getD_eq_getElem?_getD, List.getElem?_map, List.getElem?_eq_getElem hi]
  simp only [Option.map_some, Option.getD_some]
  exact inL_join (h _ (List.getElem_mem hi)) x
/-- both ways to cut -/
theorem cut_law {L : List (List PZ)} (h : ∀ l ∈ L, ∀ p ∈ l, okP p = true) : cutL (L.map joinL) = lcutL L := by
  have hf : ∀ p ∈ L.flatten, okP p = true := fun p hp => by
    obtain ⟨l, hl, hp⟩ := List.mem_flatten.mp hp
    exact h l hl p hp
  have hf2 : ∀ p ∈ (L.map joinL).flatten, okP p = true := fun p hp => by
    obtain ⟨l, hl, hp⟩ := List.mem_flatten.mp hp
    obtain ⟨l', hl', rfl⟩ := List.mem_map.mp hl
    exact join_ok (h l' hl') p hp
  have e0 : (fun x => plL x (L.map joinL)) = fun x => plL x L := funext fun x => plL_join h x
  unfold cutL lcutL
  rw [e0]
  have b1 := begins_of (pl := fun x => plL x L) (L := L.map joinL) (b := endsL (L.map joinL)) (fun x => (plL_join h x).symm) hf2 fun x => ends_mem
  have b2 := begins_of (pl := fun x => plL x L) (L := L) (b := lends L) (fun x => rfl) hf fun x => lends_mem
  have c1 := cfold (pl := fun x => plL x L) (srtS (endsL (L.map joinL))) []
  have c2 := lfold (pl := fun x => plL x L) (srtS (lends L)) []
  have c1' : (piecesL (srtS (endsL (L.map joinL)))).foldl (cstep fun x => plL x L) [] = _ := c1
  have c2' : (srtS (lends L)).foldl (lstep fun x => plL x L) [] = _ := c2
  rw [c1', c2', b1.same b2]
end K

set_option maxHeartbeats 0
namespace K
open PySem PySem.Spec PyProof.Rows L2 LP
def topS (i : Nat) : Stmt := PySem.Challenge.pw_lumplooks_k08_whole_numbers_cut_by_lette.main.body.getD i (.Pass ⟨0, 0, 0, 0⟩)

structure Tc (mg : Str → Option Value) : Prop where
  f_all : mg "all" = none
  f_any : mg "any" = none
  f_bool : mg "bool" = none
  f_enumerate : mg "enumerate" = none
  f_int : mg "int" = none
  f_isinstance : mg "isinstance" = none
  f_len : mg "len" = none
  f_list : mg "list" = none
  f_max : mg "max" = none
  f_min : mg "min" = none
  f_range : mg "range" = none
  f_set : mg "set" = none
  f_sorted : mg "sorted" = none
  f_str : mg "str" = none
  f_tuple : mg "tuple" = none
  f_zip : mg "zip" = none
def N_is_number : List Str := ["value", "least", "most"]
theorem sc_is_number : FnScope N_is_number ["value", "least", "most"] (defScope (topS 9)) := ⟨rfl, rfl, rfl, by decide +kernel, rfl, by decide +kernel, by decide +kernel⟩
def w_is_number_0  : WS :=
  wRet (wP (fAnd (fIsi [.int] (fV 0)) (fAnd (fNot (fIsi [.bool] (fV 0))) (fChain gLe gLe (fV 1) (fV 0) (fV 2)))))
abbrev w_is_number  : WS := w_is_number_0
theorem b_is_number {P : Program} {w0 : World} {K : PySem.W.Frag} {mg : Str → Option Value} {base : Heap} {ci : Ci} {f : Addr}  (T : Tc mg)  :
    Body P w0 K mg base ci N_is_number "is_number" (defScope (topS 9)) f (0) (defBody (topS 9)) (w_is_number ) := by
  intro cdv A outer s H E hr
  have ND : N_is_number.Nodup := sc_is_number.nd
  unfold w_is_number w_is_number_0
  exact rss_one (rs_ret (re_p (rp_and (rp_isi .int (gl_of (by kernel_rfl)) T.f_isinstance (gl_of (by kernel_rfl)) T.f_int (by decide +kernel) (rp_v 0)) (rp_and (rp_not (rp_isi .bool (gl_of (by kernel_rfl)) T.f_isinstance (gl_of (by kernel_rfl)) T.f_bool (by decide +kernel) (rp_v 0))) (rp_one (rp_chain o_le o_le (rp_v 1) (rp_v 0) (rp_v 2)))))))
def N_is_span : List Str := ["value"]
theorem sc_is_span : FnScope N_is_span ["value"] (defScope (topS 12)) := ⟨rfl, rfl, rfl, by decide +kernel, rfl, by decide +kernel, by decide +kernel⟩
def w_is_span_1  : WS :=
  wRet (wP (fAnd (fFn [.int 0, .int 999999999999999999] G_is_number (fCons (fOp gIx (fV 0) (fC (.int 1))) (fNil))) (fOp gLe (fOp gIx (fV 0) (fC (.int 0))) (fOp gIx (fV 0) (fC (.int 1))))))
def w_is_span_0  : WS :=
  wSeq (wIf (wB (bOr (bNot (bV (fIsi [.tuple] (fV 0)))) (bOr (bV (fOp (gEqU true) (fCall gLen (fCons (fV 0) (fNil))) (fC (.int 2)))) (bNot (bV (fFn [.int 0, .int 999999999999999999] G_is_number (fCons (fOp gIx (fV 0) (fC (.int 0))) (fNil))))))))
  (wRet (wP (fC (.bl false))))
  (wNext)) (w_is_span_1)
abbrev w_is_span  : WS := w_is_span_0
theorem b_is_span {P : Program} {w0 : World} {K : PySem.W.Frag} {mg : Str → Option Value} {base : Heap} {ci : Ci} {f : Addr}  (T : Tc mg) (C_is_number_2 : CallP P w0 K mg base ci (1) "is_number" [.int 0, .int 999999999999999999] (spP K ci G_is_number)) :
    Body P w0 K mg base ci N_is_span "is_span" (defScope (topS 12)) f (1) (defBody (topS 12)) (w_is_span ) := by
  intro cdv A outer s H E hr
  have ND : N_is_span.Nodup := sc_is_span.nd
  unfold w_is_span w_is_span_0 w_is_span_1
  exact rss_cons (rs_if (rt_b (rb_w (rw_or (rb_not (rb_v (rp_isi .tuple (gl_of (by kernel_rfl)) T.f_isinstance (gl_of (by kernel_rfl)) T.f_tuple (by decide +kernel) (rp_v 0)))) (rw_or (rb_cmp (o_neU hr.units) (rp_callB c_len (gl_of (by kernel_rfl)) T.f_len (by decide +kernel) (rps_cons (rp_v 0) (rps_nil))) (rp_int) (nomark _)) (rw_or1 (rb_not (rb_v (rp_call C_is_number_2 (hr.mono (by omega)) (gl_of (by kernel_rfl)) (rps_cons (rp_ix (rp_v 0) (rp_int)) (rps_nil))))))))))
      (rss_one (rs_ret (re_p (rp_bl))))
      (rss_nil))
      (rss_one (rs_ret (re_p (rp_and (rp_call C_is_number_2 (hr.mono (by omega)) (gl_of (by kernel_rfl)) (rps_cons (rp_ix (rp_v 0) (rp_int)) (rps_nil))) (rp_one (rp_cmp o_le (rp_ix (rp_v 0) (rp_int)) (rp_ix (rp_v 0) (rp_int)) (nomark _)))))))
def N_joined : List Str := ["spans", "found", "low", "high"]
theorem sc_joined : FnScope N_joined ["spans"] (defScope (topS 13)) := ⟨rfl, rfl, rfl, by decide +kernel, rfl, by decide +kernel, by decide +kernel⟩
def w_joined_for1_0  : WS :=
  wIf (wB (bAnd (bV (fOp (gEqU true) (fV 1) (fLst (fNil)))) (bV (fOp gLe (fV 2) (fOp gPlus (fOp gIx (fOp gIx (fV 1) (fNeg (fC (.int 1)))) (fC (.int 1))) (fC (.int 1)))))))
  (wSetIx (wP (fV 1)) (wP (fNeg (fC (.int 1)))) (wP (fTup (fCons (fOp gIx (fOp gIx (fV 1) (fNeg (fC (.int 1)))) (fC (.int 0))) (fCons (fCall gMax2 (fCons (fCall gIntA (fCons (fOp gIx (fOp gIx (fV 1) (fNeg (fC (.int 1)))) (fC (.int 1))) (fNil))) (fCons (fCall gIntA (fCons (fV 3) (fNil))) (fNil)))) (fNil))))))
  (wDrop (wLM gApp (wP (fV 1)) (wPs (fCons (fTup (fCons (fV 2) (fCons (fV 3) (fNil)))) (fNil)))))
def w_joined_2  : WS :=
  wRet (wFrz (wP (fV 1)))
def w_joined_1  : WS :=
  wSeq (wFor (wI (iL (fCall gSortP (fCons (fV 0) (fNil))))) (tgT [2, 3])
  (w_joined_for1_0)) (w_joined_2)
def w_joined_0  : WS :=
  wSeq (wAsg 1 (wNewL (wPs (fNil)))) (w_joined_1)
abbrev w_joined  : WS := w_joined_0
theorem b_joined {P : Program} {w0 : World} {K : PySem.W.Frag} {mg : Str → Option Value} {base : Heap} {ci : Ci} {f : Addr}  (T : Tc mg)  :
    Body P w0 K mg base ci N_joined "joined" (defScope (topS 13)) f (0) (defBody (topS 13)) (w_joined ) := by
  intro cdv A outer s H E hr
  have ND : N_joined.Nodup := sc_joined.nd
  unfold w_joined w_joined_0 w_joined_1 w_joined_2 w_joined_for1_0
  exact rss_cons (rs_asg 1 ND (re_newL (ra_p (rps_nil))))
      (rss_cons (rs_for (passes_of rfl) rfl (rie_p (ri_list (rp_callB c_sortP (gl_of (by kernel_rfl)) T.f_sorted (by decide +kernel) (rps_cons (rp_v 0) (rps_nil))))) (rg_t rfl (rgs_n 2 ND (by rfl) (loc_of (by kernel_rfl)) (rgs_n 3 ND (by rfl) (loc_of (by kernel_rfl)) (rgs_nil))))
      (rss_one (rs_if (rt_b (rb_w (rw_and (rb_cmp (o_neU hr.units) (rp_v 1) (rp_lst (rps_nil)) (nomark _)) (rw_and1 (rb_cmp o_le (rp_v 2) (rp_op o_plus (rp_ix (rp_ix (rp_v 1) (rp_neg (rp_int))) (rp_int)) (rp_int)) (nomark _))))))
      (rss_one (rs_setIx (re_p (rp_v 1)) (re_p (rp_neg (rp_int))) (re_p (rp_tup (rps_cons (rp_ix (rp_ix (rp_v 1) (rp_neg (rp_int))) (rp_int)) (rps_cons (rp_callB (c_max2 rfl) (gl_of (by kernel_rfl)) T.f_max (by decide +kernel) (rps_cons (rp_callTy c_intA (gl_of (by kernel_rfl)) T.f_int (by decide +kernel) (rps_cons (rp_ix (rp_ix (rp_v 1) (rp_neg (rp_int))) (rp_int)) (rps_nil))) (rps_cons (rp_callTy c_intA (gl_of (by kernel_rfl)) T.f_int (by decide +kernel) (rps_cons (rp_v 3) (rps_nil))) (rps_nil)))) (rps_nil)))))))
      (rss_one (rs_expr (re_lm PySem.F.slot_list_append PySem.F.type_list_append l_append (re_p (rp_v 1)) (ra_p (rps_cons (rp_tup (rps_cons (rp_v 2) (rps_cons (rp_v 3) (rps_nil)))) (rps_nil)))))))))
      (rss_one (rs_ret (re_frz (re_p (rp_v 1))))))
def N_Letter_init : List Str := ["self", "spans", "at", "span"]
theorem sc_Letter_init : FnScope N_Letter_init ["self", "spans"] (defScope (inClass (topS 18) 1)) := ⟨rfl, rfl, rfl, by decide +kernel, rfl, by decide +kernel, by decide +kernel⟩
def w_Letter_init_for1_0  : WS :=
  wIf (wB (bNot (bV (fFn [] G_is_span (fCons (fV 3) (fNil))))))
  (wDead)
  (wNext)
def w_Letter_init_1  : WS :=
  wSetF [0] 0 (wP (fV 0)) (wP (fFn [] G_joined (fCons (fV 1) (fNil))))
def w_Letter_init_0  : WS :=
  wSeq (wFor (wI (iET (fV 1))) (tgT [2, 3])
  (w_Letter_init_for1_0)) (w_Letter_init_1)
abbrev w_Letter_init  : WS := w_Letter_init_0
theorem b_Letter_init {P : Program} {w0 : World} {K : PySem.W.Frag} {mg : Str → Option Value} {base : Heap} {ci : Ci} {f : Addr}  (T : Tc mg) (C_is_span : CallP P w0 K mg base ci (2) "is_span" [] (spP K ci G_is_span)) (C_joined : CallP P w0 K mg base ci (1) "joined" [] (spP K ci G_joined)) (A_own_runs : ∀ c ∈ [0], AttrOk K ci c "own_runs" 0) :
    Body P w0 K mg base ci N_Letter_init "Letter.__init__" (defScope (inClass (topS 18) 1)) f (2) (defBody (inClass (topS 18) 1)) (w_Letter_init ) := by
  intro cdv A outer s H E hr
  have ND : N_Letter_init.Nodup := sc_Letter_init.nd
  unfold w_Letter_init w_Letter_init_0 w_Letter_init_1 w_Letter_init_for1_0
  exact rss_cons (rs_for (passes_of rfl) rfl (rie_p (ri_enumT (gl_of (by kernel_rfl)) T.f_enumerate (rp_v 1))) (rg_t rfl (rgs_n 2 ND (by rfl) (loc_of (by kernel_rfl)) (rgs_n 3 ND (by rfl) (loc_of (by kernel_rfl)) (rgs_nil))))
      (rss_one (rs_if (rt_b (rb_not (rb_v (rp_call C_is_span (hr.mono (by omega)) (gl_of (by kernel_rfl)) (rps_cons (rp_v 3) (rps_nil))))))
      (rss_one (rs_dead))
      (rss_nil))))
      (rss_one (rs_setF A_own_runs (re_p (rp_v 0)) (re_p (rp_call C_joined (hr.mono (by omega)) (gl_of (by kernel_rfl)) (rps_cons (rp_v 1) (rps_nil))))))
def N_Letter_runs : List Str := ["self"]
theorem sc_Letter_runs : FnScope N_Letter_runs ["self"] (defScope (inClass (topS 18) 2)) := ⟨rfl, rfl, rfl, by decide +kernel, rfl, by decide +kernel, by decide +kernel⟩
def w_Letter_runs_0  : WS :=
  wRet (wP (fCall gList (fCons (fFld [0] 0 (fV 0)) (fNil))))
abbrev w_Letter_runs  : WS := w_Letter_runs_0
theorem b_Letter_runs {P : Program} {w0 : World} {K : PySem.W.Frag} {mg : Str → Option Value} {base : Heap} {ci : Ci} {f : Addr}  (T : Tc mg) (A_own_runs : ∀ c ∈ [0], AttrOk K ci c "own_runs" 0) :
    Body P w0 K mg base ci N_Letter_runs "Letter.runs" (defScope (inClass (topS 18) 2)) f (0) (defBody (inClass (topS 18) 2)) (w_Letter_runs ) := by
  intro cdv A outer s H E hr
  have ND : N_Letter_runs.Nodup := sc_Letter_runs.nd
  unfold w_Letter_runs w_Letter_runs_0
  exact rss_one (rs_ret (re_p (rp_callTy c_list (gl_of (by kernel_rfl)) T.f_list (by decide +kernel) (rps_cons (rp_fld A_own_runs (rp_v 0)) (rps_nil)))))
def N_Letter_contains : List Str := ["self", "number", "low", "high"]
theorem sc_Letter_contains : FnScope N_Letter_contains ["self", "number"] (defScope (inClass (topS 18) 10)) := ⟨rfl, rfl, rfl, by decide +kernel, rfl, by decide +kernel, by decide +kernel⟩
def w_Letter_contains_0  : WS :=
  wRet (wP (fAnd (fFn [.int 0, .int 999999999999999999] G_is_number (fCons (fV 1) (fNil))) (fCall (gBools fun l => l.any id) (fCons (fComp (iL (fFld [0] 0 (fV 0))) (tgT [2, 3]) [2, 3] (fun _ _ => some true) (fChain gLe gLe (fV 2) (fV 1) (fV 3))) (fNil)))))
abbrev w_Letter_contains  : WS := w_Letter_contains_0
theorem b_Letter_contains {P : Program} {w0 : World} {K : PySem.W.Frag} {mg : Str → Option Value} {base : Heap} {ci : Ci} {f : Addr}  (T : Tc mg) (C_is_number_2 : CallP P w0 K mg base ci (1) "is_number" [.int 0, .int 999999999999999999] (spP K ci G_is_number)) (A_own_runs : ∀ c ∈ [0], AttrOk K ci c "own_runs" 0) :
    Body P w0 K mg base ci N_Letter_contains "Letter.__contains__" (defScope (inClass (topS 18) 10)) f (1) (defBody (inClass (topS 18) 10)) (w_Letter_contains ) := by
  intro cdv A outer s H E hr
  have ND : N_Letter_contains.Nodup := sc_Letter_contains.nd
  unfold w_Letter_contains w_Letter_contains_0
  exact rss_one (rs_ret (re_p (rp_and (rp_call C_is_number_2 (hr.mono (by omega)) (gl_of (by kernel_rfl)) (rps_cons (rp_v 1) (rps_nil))) (rp_one (rp_callB (c_any rfl) (gl_of (by kernel_rfl)) T.f_any (by decide +kernel) (rps_cons (rp_lcv [("low", 2), ("high", 3)] rfl rfl ND (ri_list (rp_fld A_own_runs (rp_v 0))) (by kernel_rfl) (fun _ _ _ _ _ => rg_t rfl (rgs_n 2 ND (by rfl) (loc_of (by kernel_rfl)) (rgs_n 3 ND (by rfl) (loc_of (by kernel_rfl)) (rgs_nil)))) (fun _ _ _ _ _ => rc_nil) (fun _ _ _ _ _ => rp_chain o_le o_le (rp_v 2) (rp_v 1) (rp_v 3))) (rps_nil)))))))
def N_cut : List Str := ["letters", "runs", "ends", "begins", "found", "low", "later", "places", "letter", "run", "high", "end", "at"]
theorem sc_cut : FnScope N_cut ["letters"] (defScope (topS 19)) := ⟨rfl, rfl, rfl, by decide +kernel, rfl, by decide +kernel, by decide +kernel⟩
def w_cut_for1_1  : WS :=
  wIf (wB (bAnd (bV (fOp (gEqU true) (fV 4) (fLst (fNil)))) (bV (fOp (gEqU false) (fOp gIx (fOp gIx (fV 4) (fNeg (fC (.int 1)))) (fC (.int 2))) (fV 7)))))
  (wSetIx (wP (fV 4)) (wP (fNeg (fC (.int 1)))) (wP (fTup (fCons (fOp gIx (fOp gIx (fV 4) (fNeg (fC (.int 1)))) (fC (.int 0))) (fCons (fOp gSub (fV 6) (fC (.int 1))) (fCons (fV 7) (fNil)))))))
  (wDrop (wLM gApp (wP (fV 4)) (wPs (fCons (fTup (fCons (fV 5) (fCons (fOp gSub (fV 6) (fC (.int 1))) (fCons (fV 7) (fNil))))) (fNil)))))
def w_cut_for1_0  : WS :=
  wSeq (wAsg 7 (wP (fCall gTuple (fCons (fComp (iET (fV 0)) (tgT [12, 8]) [12, 8] (bV (fOp (gEither (gOwnIn false 0 G_contains) (gInU false)) (fV 5) (fV 8))) (fV 12)) (fNil))))) (w_cut_for1_1)
def w_cut_4  : WS :=
  wRet (wFrz (wP (fV 4)))
def w_cut_3  : WS :=
  wSeq (wFor (wI (iZQ (fV 3) (fLstS (fStar (fSl (fV 3) (oS (fC (.int 1))) (oN)) (fCons (fOp gPlus (fC (.int 999999999999999999)) (fC (.int 1))) fNil))))) (tgT [5, 6])
  (w_cut_for1_0)) (w_cut_4)
def w_cut_2  : WS :=
  wSeq (wPar [3, 4] (wCons (wP (fSortS (fV 2))) (wCons (wNewL (wPs (fNil))) (wNil)))) (w_cut_3)
def w_cut_1  : WS :=
  wSeq (wAsg 2 (wP (fOp gPlus (fOp gPlus (fLst (fCons (fC (.int 0)) (fNil))) (fComp (iL (fV 1)) (tgT [5, 10]) [5, 10] (fun _ _ => some true) (fV 5))) (fComp (iL (fV 1)) (tgT [5, 10]) [5, 10] (bV (fOp gLt (fV 10) (fC (.int 999999999999999999)))) (fOp gPlus (fV 10) (fC (.int 1))))))) (w_cut_2)
def w_cut_0  : WS :=
  wSeq (wAsg 1 (wP (fComp2 (iT (fV 0)) (tgN 8) [8, 9] (fun _ _ => some true) (iL (fMeth mt_runs (fV 8) fNil)) (tgN 9) [9] (fun _ _ => some true) (fV 9)))) (w_cut_1)
abbrev w_cut  : WS := w_cut_0
theorem b_cut {P : Program} {w0 : World} {K : PySem.W.Frag} {mg : Str → Option Value} {base : Heap} {ci : Ci} {f : Addr}  (T : Tc mg) (M_runs : ∀ c dfl G, mt_runs c = some (dfl, G) → MethP P w0 K mg base ci 1 c "runs" dfl (spP K ci G)) (M_contains : MethP P w0 K mg base ci 2 0 "__contains__" [] (spP K ci G_contains)) (gm_Letter : mg "Letter" = some (.ref (ci 0).1)) (V_GREATEST : CvalI K (ci 0).1 "GREATEST" 999999999999999999) :
    Body P w0 K mg base ci N_cut "cut" (defScope (topS 19)) f (3) (defBody (topS 19)) (w_cut ) := by
  intro cdv A outer s H E hr
  have ND : N_cut.Nodup := sc_cut.nd
  unfold w_cut w_cut_0 w_cut_1 w_cut_2 w_cut_3 w_cut_4 w_cut_for1_0 w_cut_for1_1
  exact rss_cons (rs_asgLc2Pv 1 [("letter", 8), ("run", 9)] [9] rfl rfl ND (ri_tup (rp_v 0)) (by kernel_rfl) (fun _ _ _ _ _ => rg_n 8 ND (by rfl) (loc_of (by kernel_rfl))) (fun _ _ _ _ _ => rc_nil) (fun _ _ _ _ _ => ri_list (rp_meth0 M_runs (hr.mono (by omega)) (rp_v 8))) (fun _ _ _ _ _ => rg_n 9 ND (by rfl) (loc_of (by kernel_rfl))) (fun _ _ _ _ _ => rc_nil) (fun _ _ _ _ _ => rp_v 9) (L2.sw_true rfl rfl rfl (by decide +kernel)))
      (rss_cons (rs_asg 2 ND (re_p (rp_op o_plus (rp_op o_plus (rp_lst (rps_cons (rp_int) (rps_nil))) (rp_lcv [("low", 5), ("high", 10)] rfl rfl ND (ri_list (rp_v 1)) (by kernel_rfl) (fun _ _ _ _ _ => rg_t rfl (rgs_n 5 ND (by rfl) (loc_of (by kernel_rfl)) (rgs_n 10 ND (by rfl) (loc_of (by kernel_rfl)) (rgs_nil)))) (fun _ _ _ _ _ => rc_nil) (fun _ _ _ _ _ => rp_v 5))) (rp_lcv [("low", 5), ("high", 10)] rfl rfl ND (ri_list (rp_v 1)) (by kernel_rfl) (fun _ _ _ _ _ => rg_t rfl (rgs_n 5 ND (by rfl) (loc_of (by kernel_rfl)) (rgs_n 10 ND (by rfl) (loc_of (by kernel_rfl)) (rgs_nil)))) (fun _ _ _ _ _ => rc_one (rb_cmp o_lt (rp_v 10) (rp_cval V_GREATEST (gl_of (by kernel_rfl)) gm_Letter) (nomark _))) (fun _ _ _ _ _ => rp_op o_plus (rp_v 10) (rp_int))))))
      (rss_cons (rs_par2 rfl ND (ra_cons (re_p (rp_sortSc rfl (gl_of (by kernel_rfl)) T.f_sorted (by kernel_rfl) (by kernel_rfl) (rp_v 2))) (ra_cons (re_newL (ra_p (rps_nil))) (ra_nil))))
      (rss_cons (rs_for (passes_of rfl) rfl (rie_p (ri_zipQ (gl_of (by kernel_rfl)) T.f_zip (rp_v 3) (rp_lstS (rsl_star (rp_sl (rp_v 3) (ro_s (rp_int)) (ro_n)) (rsl_cons (rp_op o_plus (rp_cval V_GREATEST (gl_of (by kernel_rfl)) gm_Letter) (rp_int)) (rsl_of rps_nil)))))) (rg_t rfl (rgs_n 5 ND (by rfl) (loc_of (by kernel_rfl)) (rgs_n 6 ND (by rfl) (loc_of (by kernel_rfl)) (rgs_nil))))
      (rss_cons (rs_asg 7 ND (re_p (rp_callTy c_tuple (gl_of (by kernel_rfl)) T.f_tuple (by decide +kernel) (rps_cons (rp_lcv [("at", 12), ("letter", 8)] rfl rfl ND (ri_enumT (gl_of (by kernel_rfl)) T.f_enumerate (rp_v 0)) (by kernel_rfl) (fun _ _ _ _ _ => rg_t rfl (rgs_n 12 ND (by rfl) (loc_of (by kernel_rfl)) (rgs_n 8 ND (by rfl) (loc_of (by kernel_rfl)) (rgs_nil)))) (fun _ _ _ _ _ => rc_one (rb_cmp (OpG.or2 (og_in M_contains (hr.mono (by omega))) o_inU) (rp_v 5) (rp_v 8) (by rfl))) (fun _ _ _ _ _ => rp_v 12)) (rps_nil)))))
      (rss_one (rs_if (rt_b (rb_w (rw_and (rb_cmp (o_neU hr.units) (rp_v 4) (rp_lst (rps_nil)) (nomark _)) (rw_and1 (rb_cmp (o_eqU hr.units) (rp_ix (rp_ix (rp_v 4) (rp_neg (rp_int))) (rp_int)) (rp_v 7) (nomark _))))))
      (rss_one (rs_setIx (re_p (rp_v 4)) (re_p (rp_neg (rp_int))) (re_p (rp_tup (rps_cons (rp_ix (rp_ix (rp_v 4) (rp_neg (rp_int))) (rp_int)) (rps_cons (rp_op o_sub (rp_v 6) (rp_int)) (rps_cons (rp_v 7) (rps_nil))))))))
      (rss_one (rs_expr (re_lm PySem.F.slot_list_append PySem.F.type_list_append l_append (re_p (rp_v 4)) (ra_p (rps_cons (rp_tup (rps_cons (rp_v 5) (rps_cons (rp_op o_sub (rp_v 6) (rp_int)) (rps_cons (rp_v 7) (rps_nil))))) (rps_nil))))))))))
      (rss_one (rs_ret (re_frz (re_p (rp_v 4))))))))
def N_l_bag : List Str := ["_law_script", "_law_state", "_law_cell"]
theorem sc_l_bag : FnScope N_l_bag ["_law_script"] (defScope (topS 21)) := ⟨rfl, rfl, rfl, by decide +kernel, rfl, by decide +kernel, by decide +kernel⟩
def w_l_bag_for1_0  : WS :=
  wAsg 1 (wP (fOp gMod (fCall gIntA (fCons (fOp gPlus (fOp gPlus (fOp gTimes (fV 1) (fC (.int 48947))) (fOp gMod (fCall gIntA (fCons (fV 2) (fNil))) (fC (.int 2147483563)))) (fC (.int 37))) (fNil))) (fC (.int 2147483579))))
def w_l_bag_2  : WS :=
  wRet (wNewL (wPs (fCons (fComp (iL (fSl (fV 0) (oN) (oS (fC (.int 63))))) (tgN 2) [2] (fun _ _ => some true) (fCall gIntA (fCons (fV 2) (fNil)))) (fCons (fC (.int 0)) (fCons (fC (.int 0)) (fCons (fV 1) (fCons (fC (.int 0)) (fNil))))))))
def w_l_bag_1  : WS :=
  wSeq (wFor (wI (iL (fSl (fV 0) (oN) (oS (fC (.int 63)))))) (tgN 2)
  (w_l_bag_for1_0)) (w_l_bag_2)
def w_l_bag_0  : WS :=
  wSeq (wAsg 1 (wP (fC (.int 10021)))) (w_l_bag_1)
abbrev w_l_bag  : WS := w_l_bag_0
theorem b_l_bag {P : Program} {w0 : World} {K : PySem.W.Frag} {mg : Str → Option Value} {base : Heap} {ci : Ci} {f : Addr}  (T : Tc mg)  :
    Body P w0 K mg base ci N_l_bag "_law_bag" (defScope (topS 21)) f (0) (defBody (topS 21)) (w_l_bag ) := by
  intro cdv A outer s H E hr
  have ND : N_l_bag.Nodup := sc_l_bag.nd
  unfold w_l_bag w_l_bag_0 w_l_bag_1 w_l_bag_2 w_l_bag_for1_0
  exact rss_cons (rs_asg 1 ND (re_p (rp_int)))
      (rss_cons (rs_for (passes_of rfl) rfl (rie_p (ri_list (rp_sl (rp_v 0) (ro_n) (ro_s (rp_int))))) (rg_n 2 ND (by rfl) (loc_of (by kernel_rfl)))
      (rss_one (rs_asg 1 ND (re_p (rp_op o_mod (rp_callTy c_intA (gl_of (by kernel_rfl)) T.f_int (by decide +kernel) (rps_cons (rp_op o_plus (rp_op o_plus (rp_op o_times (rp_v 1) (rp_int)) (rp_op o_mod (rp_callTy c_intA (gl_of (by kernel_rfl)) T.f_int (by decide +kernel) (rps_cons (rp_v 2) (rps_nil))) (rp_int))) (rp_int)) (rps_nil))) (rp_int))))))
      (rss_one (rs_ret (re_newL (ra_p (rps_cons (rp_lcv [("_law_cell", 2)] rfl rfl ND (ri_list (rp_sl (rp_v 0) (ro_n) (ro_s (rp_int)))) (by kernel_rfl) (fun _ _ _ _ _ => rg_n 2 ND (by rfl) (loc_of (by kernel_rfl))) (fun _ _ _ _ _ => rc_nil) (fun _ _ _ _ _ => rp_callTy c_intA (gl_of (by kernel_rfl)) T.f_int (by decide +kernel) (rps_cons (rp_v 2) (rps_nil)))) (rps_cons (rp_int) (rps_cons (rp_int) (rps_cons (rp_v 1) (rps_cons (rp_int) (rps_nil)))))))))))
def N_l_pull : List Str := ["_law_bag_here", "_law_many", "_law_state", "_law_cell", "_law_digit"]
theorem sc_l_pull : FnScope N_l_pull ["_law_bag_here", "_law_many"] (defScope (topS 22)) := ⟨rfl, rfl, rfl, by decide +kernel, rfl, by decide +kernel, by decide +kernel⟩
def w_l_pull_5  : WS :=
  wRet (wP (fOp gMod (fCall gIntA (fCons (fOp gPlus (fOp gFdivW (fOp gIx (fV 0) (fC (.int 3))) (fC (.int 79))) (fOp gTimes (fOp gMod (fCall gIntA (fCons (fOp gIx (fV 0) (fC (.int 3))) (fNil))) (fC (.int 7919))) (fC (.int 71)))) (fNil))) (fV 1)))
def w_l_pull_4  : WS :=
  wSeq (wSetIx (wP (fV 0)) (wP (fC (.int 3))) (wP (fOp gMod (fCall gIntA (fCons (fOp gPlus (fOp gPlus (fOp gPlus (fOp gPow (fV 2) (fC (.int 3))) (fOp gTimes (fV 2) (fC (.int 40111)))) (fOp gTimes (fOp gIx (fV 0) (fC (.int 4))) (fC (.int 1299583)))) (fC (.int 61027))) (fNil))) (fC (.int 2147483579))))) (w_l_pull_5)
def w_l_pull_3  : WS :=
  wSeq (wAsg 2 (wP (fOp gIx (fV 0) (fC (.int 3))))) (w_l_pull_4)
def w_l_pull_2  : WS :=
  wSeq (wIf (wB (bV (fOp gGt (fOp gIx (fV 0) (fC (.int 2))) (fC (.int 0)))))
  (wSeq (wAsg 4 (wP (fOp gMod (fCall gIntA (fCons (fOp gIx (fV 0) (fC (.int 2))) (fNil))) (fV 1))))
  (wSeq (wSetIx (wP (fV 0)) (wP (fC (.int 2))) (wP (fOp gFdivW (fCall gIntA (fCons (fOp gIx (fV 0) (fC (.int 2))) (fNil))) (fV 1))))
  (wRet (wP (fV 4)))))
  (wNext)) (w_l_pull_3)
def w_l_pull_1  : WS :=
  wSeq (wIf (wB (bAnd (bV (fOp (gEqU false) (fOp gIx (fV 0) (fC (.int 2))) (fC (.int 0)))) (bV (fOp gLt (fOp gIx (fV 0) (fC (.int 1))) (fCall gLen (fCons (fOp gIx (fV 0) (fC (.int 0))) (fNil)))))))
  (wSeq (wAsg 3 (wP (fOp gIx (fOp gIx (fV 0) (fC (.int 0))) (fOp gIx (fV 0) (fC (.int 1))))))
  (wSeq (wSetIx (wP (fV 0)) (wP (fC (.int 1))) (wP (fOp gPlus (fOp gIx (fV 0) (fC (.int 1))) (fC (.int 1)))))
  (wSeq (wIf (wB (bV (fOp gGe (fV 3) (fOp gPow (fC (.int 10)) (fC (.int 18))))))
  (wSetIx (wP (fV 0)) (wP (fC (.int 2))) (wP (fV 3)))
  (wNext))
  (wSetIx (wP (fV 0)) (wP (fC (.int 3))) (wP (fOp gMod (fCall gIntA (fCons (fOp gPlus (fOp gPlus (fOp gTimes (fOp gIx (fV 0) (fC (.int 3))) (fC (.int 39901))) (fOp gTimes (fOp gMod (fCall gIntA (fCons (fV 3) (fNil))) (fC (.int 2147483497))) (fC (.int 40361)))) (fC (.int 73))) (fNil))) (fC (.int 2147483579))))))))
  (wNext)) (w_l_pull_2)
def w_l_pull_0  : WS :=
  wSeq (wSetIx (wP (fV 0)) (wP (fC (.int 4))) (wP (fOp gPlus (fOp gIx (fV 0) (fC (.int 4))) (fC (.int 1))))) (w_l_pull_1)
abbrev w_l_pull  : WS := w_l_pull_0
theorem b_l_pull {P : Program} {w0 : World} {K : PySem.W.Frag} {mg : Str → Option Value} {base : Heap} {ci : Ci} {f : Addr}  (T : Tc mg)  :
    Body P w0 K mg base ci N_l_pull "_law_pull" (defScope (topS 22)) f (0) (defBody (topS 22)) (w_l_pull ) := by
  intro cdv A outer s H E hr
  have ND : N_l_pull.Nodup := sc_l_pull.nd
  unfold w_l_pull w_l_pull_0 w_l_pull_1 w_l_pull_2 w_l_pull_3 w_l_pull_4 w_l_pull_5
  exact rss_cons (rs_setIx (re_p (rp_v 0)) (re_p (rp_int)) (re_p (rp_op o_plus (rp_ix (rp_v 0) (rp_int)) (rp_int))))
      (rss_cons (rs_if (rt_b (rb_w (rw_and (rb_cmp (o_eqU hr.units) (rp_ix (rp_v 0) (rp_int)) (rp_int) (nomark _)) (rw_and1 (rb_cmp o_lt (rp_ix (rp_v 0) (rp_int)) (rp_callB c_len (gl_of (by kernel_rfl)) T.f_len (by decide +kernel) (rps_cons (rp_ix (rp_v 0) (rp_int)) (rps_nil))) (nomark _))))))
      (rss_cons (rs_asg 3 ND (re_p (rp_ix (rp_ix (rp_v 0) (rp_int)) (rp_ix (rp_v 0) (rp_int)))))
      (rss_cons (rs_setIx (re_p (rp_v 0)) (re_p (rp_int)) (re_p (rp_op o_plus (rp_ix (rp_v 0) (rp_int)) (rp_int))))
      (rss_cons (rs_if (rt_b (rb_cmp o_ge (rp_v 3) (rp_op o_pow (rp_int) (rp_int)) (nomark _)))
      (rss_one (rs_setIx (re_p (rp_v 0)) (re_p (rp_int)) (re_p (rp_v 3))))
      (rss_nil))
      (rss_one (rs_setIx (re_p (rp_v 0)) (re_p (rp_int)) (re_p (rp_op o_mod (rp_callTy c_intA (gl_of (by kernel_rfl)) T.f_int (by decide +kernel) (rps_cons (rp_op o_plus (rp_op o_plus (rp_op o_times (rp_ix (rp_v 0) (rp_int)) (rp_int)) (rp_op o_times (rp_op o_mod (rp_callTy c_intA (gl_of (by kernel_rfl)) T.f_int (by decide +kernel) (rps_cons (rp_v 3) (rps_nil))) (rp_int)) (rp_int))) (rp_int)) (rps_nil))) (rp_int))))))))
      (rss_nil))
      (rss_cons (rs_if (rt_b (rb_cmp o_gt (rp_ix (rp_v 0) (rp_int)) (rp_int) (nomark _)))
      (rss_cons (rs_asg 4 ND (re_p (rp_op o_mod (rp_callTy c_intA (gl_of (by kernel_rfl)) T.f_int (by decide +kernel) (rps_cons (rp_ix (rp_v 0) (rp_int)) (rps_nil))) (rp_v 1))))
      (rss_cons (rs_setIx (re_p (rp_v 0)) (re_p (rp_int)) (re_p (rp_op o_fdivW (rp_callTy c_intA (gl_of (by kernel_rfl)) T.f_int (by decide +kernel) (rps_cons (rp_ix (rp_v 0) (rp_int)) (rps_nil))) (rp_v 1))))
      (rss_one (rs_ret (re_p (rp_v 4))))))
      (rss_nil))
      (rss_cons (rs_asg 2 ND (re_p (rp_ix (rp_v 0) (rp_int))))
      (rss_cons (rs_setIx (re_p (rp_v 0)) (re_p (rp_int)) (re_p (rp_op o_mod (rp_callTy c_intA (gl_of (by kernel_rfl)) T.f_int (by decide +kernel) (rps_cons (rp_op o_plus (rp_op o_plus (rp_op o_plus (rp_op o_pow (rp_v 2) (rp_int)) (rp_op o_times (rp_v 2) (rp_int))) (rp_op o_times (rp_ix (rp_v 0) (rp_int)) (rp_int))) (rp_int)) (rps_nil))) (rp_int))))
      (rss_one (rs_ret (re_p (rp_op o_mod (rp_callTy c_intA (gl_of (by kernel_rfl)) T.f_int (by decide +kernel) (rps_cons (rp_op o_plus (rp_op o_fdivW (rp_ix (rp_v 0) (rp_int)) (rp_int)) (rp_op o_times (rp_op o_mod (rp_callTy c_intA (gl_of (by kernel_rfl)) T.f_int (by decide +kernel) (rps_cons (rp_ix (rp_v 0) (rp_int)) (rps_nil))) (rp_int)) (rp_int))) (rps_nil))) (rp_v 1)))))))))
def N_l_pick : List Str := ["_law_bag_here", "_law_rows"]
theorem sc_l_pick : FnScope N_l_pick ["_law_bag_here", "_law_rows"] (defScope (topS 23)) := ⟨rfl, rfl, rfl, by decide +kernel, rfl, by decide +kernel, by decide +kernel⟩
def w_l_pick_0  : WS :=
  wRet (wOp gIx (wP (fV 1)) (wFnM [] fc_pull (wPs (fCons (fV 0) (fCons (fCall gLen (fCons (fV 1) (fNil))) (fNil))))))
abbrev w_l_pick  : WS := w_l_pick_0
theorem b_l_pick {P : Program} {w0 : World} {K : PySem.W.Frag} {mg : Str → Option Value} {base : Heap} {ci : Ci} {f : Addr}  (T : Tc mg) (C_l_pull : CallP P w0 K mg base ci (1) "_law_pull" [] (spOf K ci fc_pull)) :
    Body P w0 K mg base ci N_l_pick "_law_pick" (defScope (topS 23)) f (1) (defBody (topS 23)) (w_l_pick ) := by
  intro cdv A outer s H E hr
  have ND : N_l_pick.Nodup := sc_l_pick.nd
  unfold w_l_pick w_l_pick_0
  exact rss_one (rs_ret (re_ix (re_p (rp_v 1)) (re_callM C_l_pull (hr.mono (by omega)) (gl_of (by kernel_rfl)) (ra_p (rps_cons (rp_v 0) (rps_cons (rp_callB c_len (gl_of (by kernel_rfl)) T.f_len (by decide +kernel) (rps_cons (rp_v 1) (rps_nil))) (rps_nil)))))))
def N_l_same : List Str := ["_law_found", "_law_due", "_law_one", "_law_two"]
theorem sc_l_same : FnScope N_l_same ["_law_found", "_law_due"] (defScope (topS 24)) := ⟨rfl, rfl, rfl, by decide +kernel, rfl, by decide +kernel, by decide +kernel⟩
def w_l_same_4 (G_rec : PC) : WS :=
  wRet (wP (fAnd (fOp (gEqU false) (fIsi [.str] (fV 1)) (fIsi [.str] (fV 0))) (fOp (gEqU false) (fV 0) (fV 1))))
def w_l_same_3 (G_rec : PC) : WS :=
  wSeq (wIf (wB (bV (fOp (gEqU true) (fIsi [.int] (fV 1)) (fIsi [.int] (fV 0)))))
  (wRet (wP (fC (.bl false))))
  (wNext)) (w_l_same_4 G_rec)
def w_l_same_2 (G_rec : PC) : WS :=
  wSeq (wIf (wB (bV (fOp (gEqU true) (fIsi [.bool] (fV 1)) (fIsi [.bool] (fV 0)))))
  (wRet (wP (fC (.bl false))))
  (wNext)) (w_l_same_3 G_rec)
def w_l_same_1 (G_rec : PC) : WS :=
  wSeq (wIf (wB (bOr (bV (fOp (gIsN false) (fV 1) (fC .non))) (bV (fOp (gIsN false) (fV 0) (fC .non)))))
  (wRet (wP (fAnd (fOp (gIsN false) (fV 1) (fC .non)) (fOp (gIsN false) (fV 0) (fC .non)))))
  (wNext)) (w_l_same_2 G_rec)
def w_l_same_0 (G_rec : PC) : WS :=
  wSeq (wIf (wB (bV (fIsi [.list, .tuple] (fV 1))))
  (wSeq (wIf (wB (bV (fOp (gEqU true) (fIsi [.list] (fV 0)) (fIsi [.list] (fV 1)))))
  (wRet (wP (fC (.bl false))))
  (wNext))
  (wSeq (wIf (wB (bV (fOp (gEqU true) (fIsi [.tuple] (fV 0)) (fIsi [.tuple] (fV 1)))))
  (wRet (wP (fC (.bl false))))
  (wNext))
  (wRet (wP (fAnd (fOp (gEqU false) (fCall gLen (fCons (fV 0) (fNil))) (fCall gLen (fCons (fV 1) (fNil)))) (fCall (gBools fun l => l.all id) (fCons (fComp (iZQ (fV 0) (fV 1)) (tgT [2, 3]) [2, 3] (fun _ _ => some true) (fFn [] G_rec (fCons (fV 2) (fCons (fV 3) (fNil))))) (fNil))))))))
  (wNext)) (w_l_same_1 G_rec)
abbrev w_l_same (G_rec : PC) : WS := w_l_same_0 G_rec
theorem b_l_same {P : Program} {w0 : World} {K : PySem.W.Frag} {mg : Str → Option Value} {base : Heap} {ci : Ci} {f : Addr} (G_rec : PC) (T : Tc mg) (C_l_same : CallP P w0 K mg base ci (n) "_law_same" [] (spP K ci G_rec)) :
    Body P w0 K mg base ci N_l_same "_law_same" (defScope (topS 24)) f (n) (defBody (topS 24)) (w_l_same G_rec) := by
  intro cdv A outer s H E hr
  have ND : N_l_same.Nodup := sc_l_same.nd
  unfold w_l_same w_l_same_0 w_l_same_1 w_l_same_2 w_l_same_3 w_l_same_4
  exact rss_cons (rs_if (rt_b (rb_v (rp_isi2 .list .tuple (gl_of (by kernel_rfl)) T.f_isinstance (gl_of (by kernel_rfl)) T.f_list (by decide +kernel) (gl_of (by kernel_rfl)) T.f_tuple (by decide +kernel) (rp_v 1))))
      (rss_cons (rs_if (rt_b (rb_cmp (o_neU hr.units) (rp_isi .list (gl_of (by kernel_rfl)) T.f_isinstance (gl_of (by kernel_rfl)) T.f_list (by decide +kernel) (rp_v 0)) (rp_isi .list (gl_of (by kernel_rfl)) T.f_isinstance (gl_of (by kernel_rfl)) T.f_list (by decide +kernel) (rp_v 1)) (nomark _)))
      (rss_one (rs_ret (re_p (rp_bl))))
      (rss_nil))
      (rss_cons (rs_if (rt_b (rb_cmp (o_neU hr.units) (rp_isi .tuple (gl_of (by kernel_rfl)) T.f_isinstance (gl_of (by kernel_rfl)) T.f_tuple (by decide +kernel) (rp_v 0)) (rp_isi .tuple (gl_of (by kernel_rfl)) T.f_isinstance (gl_of (by kernel_rfl)) T.f_tuple (by decide +kernel) (rp_v 1)) (nomark _)))
      (rss_one (rs_ret (re_p (rp_bl))))
      (rss_nil))
      (rss_one (rs_ret (re_p (rp_and (rp_cmp (o_eqU hr.units) (rp_callB c_len (gl_of (by kernel_rfl)) T.f_len (by decide +kernel) (rps_cons (rp_v 0) (rps_nil))) (rp_callB c_len (gl_of (by kernel_rfl)) T.f_len (by decide +kernel) (rps_cons (rp_v 1) (rps_nil))) (nomark _)) (rp_one (rp_callB (c_all rfl) (gl_of (by kernel_rfl)) T.f_all (by decide +kernel) (rps_cons (rp_lcv [("_law_one", 2), ("_law_two", 3)] rfl rfl ND (ri_zipQ (gl_of (by kernel_rfl)) T.f_zip (rp_v 0) (rp_v 1)) (by kernel_rfl) (fun _ _ _ _ _ => rg_t rfl (rgs_n 2 ND (by rfl) (loc_of (by kernel_rfl)) (rgs_n 3 ND (by rfl) (loc_of (by kernel_rfl)) (rgs_nil)))) (fun _ _ _ _ _ => rc_nil) (fun _ _ _ _ _ => rp_call C_l_same (hr.mono (by omega)) (gl_of (by kernel_rfl)) (rps_cons (rp_v 2) (rps_cons (rp_v 3) (rps_nil))))) (rps_nil))))))))))
      (rss_nil))
      (rss_cons (rs_if (rt_b (rb_w (rw_or (rb_cmp o_is (rp_v 1) (rp_non) (nomark _)) (rw_or1 (rb_cmp o_is (rp_v 0) (rp_non) (nomark _))))))
      (rss_one (rs_ret (re_p (rp_and (rp_cmp o_is (rp_v 1) (rp_non) (nomark _)) (rp_one (rp_cmp o_is (rp_v 0) (rp_non) (nomark _)))))))
      (rss_nil))
      (rss_cons (rs_if (rt_b (rb_cmp (o_neU hr.units) (rp_isi .bool (gl_of (by kernel_rfl)) T.f_isinstance (gl_of (by kernel_rfl)) T.f_bool (by decide +kernel) (rp_v 1)) (rp_isi .bool (gl_of (by kernel_rfl)) T.f_isinstance (gl_of (by kernel_rfl)) T.f_bool (by decide +kernel) (rp_v 0)) (nomark _)))
      (rss_one (rs_ret (re_p (rp_bl))))
      (rss_nil))
      (rss_cons (rs_if (rt_b (rb_cmp (o_neU hr.units) (rp_isi .int (gl_of (by kernel_rfl)) T.f_isinstance (gl_of (by kernel_rfl)) T.f_int (by decide +kernel) (rp_v 1)) (rp_isi .int (gl_of (by kernel_rfl)) T.f_isinstance (gl_of (by kernel_rfl)) T.f_int (by decide +kernel) (rp_v 0)) (nomark _)))
      (rss_one (rs_ret (re_p (rp_bl))))
      (rss_nil))
      (rss_one (rs_ret (re_p (rp_and (rp_cmp (o_eqU hr.units) (rp_isi .str (gl_of (by kernel_rfl)) T.f_isinstance (gl_of (by kernel_rfl)) T.f_str (by decide +kernel) (rp_v 1)) (rp_isi .str (gl_of (by kernel_rfl)) T.f_isinstance (gl_of (by kernel_rfl)) T.f_str (by decide +kernel) (rp_v 0)) (nomark _)) (rp_one (rp_cmp (o_eqU hr.units) (rp_v 0) (rp_v 1) (nomark _))))))))))
def N_l_in : List Str := ["_law_number", "_law_spans", "_law_low", "_law_high"]
theorem sc_l_in : FnScope N_l_in ["_law_number", "_law_spans"] (defScope (topS 25)) := ⟨rfl, rfl, rfl, by decide +kernel, rfl, by decide +kernel, by decide +kernel⟩
def w_l_in_0  : WS :=
  wRet (wP (fCall (gBools fun l => l.any id) (fCons (fComp (iL (fV 1)) (tgT [2, 3]) [2, 3] (fun _ _ => some true) (fChain gLe gLe (fV 2) (fV 0) (fV 3))) (fNil))))
abbrev w_l_in  : WS := w_l_in_0
theorem b_l_in {P : Program} {w0 : World} {K : PySem.W.Frag} {mg : Str → Option Value} {base : Heap} {ci : Ci} {f : Addr}  (T : Tc mg)  :
    Body P w0 K mg base ci N_l_in "_law_in" (defScope (topS 25)) f (0) (defBody (topS 25)) (w_l_in ) := by
  intro cdv A outer s H E hr
  have ND : N_l_in.Nodup := sc_l_in.nd
  unfold w_l_in w_l_in_0
  exact rss_one (rs_ret (re_p (rp_callB (c_any rfl) (gl_of (by kernel_rfl)) T.f_any (by decide +kernel) (rps_cons (rp_lcv [("_law_low", 2), ("_law_high", 3)] rfl rfl ND (ri_list (rp_v 1)) (by kernel_rfl) (fun _ _ _ _ _ => rg_t rfl (rgs_n 2 ND (by rfl) (loc_of (by kernel_rfl)) (rgs_n 3 ND (by rfl) (loc_of (by kernel_rfl)) (rgs_nil)))) (fun _ _ _ _ _ => rc_nil) (fun _ _ _ _ _ => rp_chain o_le o_le (rp_v 2) (rp_v 0) (rp_v 3))) (rps_nil)))))
def N_l_runs : List Str := ["_law_spans", "_law_found", "_law_low", "_law_high", "_law_last"]
theorem sc_l_runs : FnScope N_l_runs ["_law_spans"] (defScope (topS 26)) := ⟨rfl, rfl, rfl, by decide +kernel, rfl, by decide +kernel, by decide +kernel⟩
def w_l_runs_for1_0  : WS :=
  wIf (wB (bAnd (bV (fOp (gEqU true) (fV 1) (fLst (fNil)))) (bV (fOp gLe (fV 2) (fOp gPlus (fOp gIx (fOp gIx (fV 1) (fOp gSub (fCall gLen (fCons (fV 1) (fNil))) (fC (.int 1)))) (fC (.int 1))) (fC (.int 1)))))))
  (wSeq (wAsg 4 (wLM gPop (wP (fV 1)) wNil))
  (wDrop (wLM gApp (wP (fV 1)) (wPs (fCons (fTup (fCons (fOp gIx (fV 4) (fC (.int 0))) (fCons (fCall gMax2 (fCons (fCall gIntA (fCons (fOp gIx (fV 4) (fC (.int 1))) (fNil))) (fCons (fCall gIntA (fCons (fV 3) (fNil))) (fNil)))) (fNil)))) (fNil))))))
  (wDrop (wLM gApp (wP (fV 1)) (wPs (fCons (fTup (fCons (fV 2) (fCons (fV 3) (fNil)))) (fNil)))))
def w_l_runs_2  : WS :=
  wRet (wFrz (wP (fV 1)))
def w_l_runs_1  : WS :=
  wSeq (wFor (wI (iL (fCall gSortP (fCons (fV 0) (fNil))))) (tgT [2, 3])
  (w_l_runs_for1_0)) (w_l_runs_2)
def w_l_runs_0  : WS :=
  wSeq (wAsg 1 (wNewL (wPs (fNil)))) (w_l_runs_1)
abbrev w_l_runs  : WS := w_l_runs_0
theorem b_l_runs {P : Program} {w0 : World} {K : PySem.W.Frag} {mg : Str → Option Value} {base : Heap} {ci : Ci} {f : Addr}  (T : Tc mg)  :
    Body P w0 K mg base ci N_l_runs "_law_runs" (defScope (topS 26)) f (0) (defBody (topS 26)) (w_l_runs ) := by
  intro cdv A outer s H E hr
  have ND : N_l_runs.Nodup := sc_l_runs.nd
  unfold w_l_runs w_l_runs_0 w_l_runs_1 w_l_runs_2 w_l_runs_for1_0
  exact rss_cons (rs_asg 1 ND (re_newL (ra_p (rps_nil))))
      (rss_cons (rs_for (passes_of rfl) rfl (rie_p (ri_list (rp_callB c_sortP (gl_of (by kernel_rfl)) T.f_sorted (by decide +kernel) (rps_cons (rp_v 0) (rps_nil))))) (rg_t rfl (rgs_n 2 ND (by rfl) (loc_of (by kernel_rfl)) (rgs_n 3 ND (by rfl) (loc_of (by kernel_rfl)) (rgs_nil))))
      (rss_one (rs_if (rt_b (rb_w (rw_and (rb_cmp (o_neU hr.units) (rp_v 1) (rp_lst (rps_nil)) (nomark _)) (rw_and1 (rb_cmp o_le (rp_v 2) (rp_op o_plus (rp_ix (rp_ix (rp_v 1) (rp_op o_sub (rp_callB c_len (gl_of (by kernel_rfl)) T.f_len (by decide +kernel) (rps_cons (rp_v 1) (rps_nil))) (rp_int))) (rp_int)) (rp_int)) (nomark _))))))
      (rss_cons (rs_asg 4 ND (re_lm0 PySem.F.slot_list_pop PySem.F.type_list_pop l_pop (re_p (rp_v 1))))
      (rss_one (rs_expr (re_lm PySem.F.slot_list_append PySem.F.type_list_append l_append (re_p (rp_v 1)) (ra_p (rps_cons (rp_tup (rps_cons (rp_ix (rp_v 4) (rp_int)) (rps_cons (rp_callB (c_max2 rfl) (gl_of (by kernel_rfl)) T.f_max (by decide +kernel) (rps_cons (rp_callTy c_intA (gl_of (by kernel_rfl)) T.f_int (by decide +kernel) (rps_cons (rp_ix (rp_v 4) (rp_int)) (rps_nil))) (rps_cons (rp_callTy c_intA (gl_of (by kernel_rfl)) T.f_int (by decide +kernel) (rps_cons (rp_v 3) (rps_nil))) (rps_nil)))) (rps_nil)))) (rps_nil)))))))
      (rss_one (rs_expr (re_lm PySem.F.slot_list_append PySem.F.type_list_append l_append (re_p (rp_v 1)) (ra_p (rps_cons (rp_tup (rps_cons (rp_v 2) (rps_cons (rp_v 3) (rps_nil)))) (rps_nil)))))))))
      (rss_one (rs_ret (re_frz (re_p (rp_v 1))))))
def N_l_letter : List Str := ["_law_spans"]
theorem sc_l_letter : FnScope N_l_letter ["_law_spans"] (defScope (topS 27)) := ⟨rfl, rfl, rfl, by decide +kernel, rfl, by decide +kernel, by decide +kernel⟩
def w_l_letter_1  : WS :=
  wRet (wP (fIf (bV (fOp (gEqU false) (fCall gLen (fCons (fV 0) (fNil))) (fC (.int 2)))) (fMake 0 [] G_Letter (fCons (fOp gIx (fV 0) (fC (.int 0))) (fCons (fOp gIx (fV 0) (fC (.int 1))) (fNil)))) (fMake 0 [] G_Letter (fCons (fOp gIx (fV 0) (fC (.int 0))) (fCons (fOp gIx (fV 0) (fC (.int 1))) (fCons (fOp gIx (fV 0) (fC (.int 2))) (fNil)))))))
def w_l_letter_0  : WS :=
  wSeq (wIf (wB (bV (fOp gLt (fCall gLen (fCons (fV 0) (fNil))) (fC (.int 2)))))
  (wRet (wP (fIf (bV (fOp (gEqU false) (fV 0) (fLst (fNil)))) (fMake 0 [] G_Letter fNil) (fMake 0 [] G_Letter (fCons (fOp gIx (fV 0) (fC (.int 0))) (fNil))))))
  (wNext)) (w_l_letter_1)
abbrev w_l_letter  : WS := w_l_letter_0
theorem b_l_letter {P : Program} {w0 : World} {K : PySem.W.Frag} {mg : Str → Option Value} {base : Heap} {ci : Ci} {f : Addr}  (T : Tc mg) (MS_Letter : MakeS P w0 K mg base ci 3 "Letter" 0 G_Letter) :
    Body P w0 K mg base ci N_l_letter "_law_letter" (defScope (topS 27)) f (4) (defBody (topS 27)) (w_l_letter ) := by
  intro cdv A outer s H E hr
  have ND : N_l_letter.Nodup := sc_l_letter.nd
  unfold w_l_letter w_l_letter_0 w_l_letter_1
  exact rss_cons (rs_if (rt_b (rb_cmp o_lt (rp_callB c_len (gl_of (by kernel_rfl)) T.f_len (by decide +kernel) (rps_cons (rp_v 0) (rps_nil))) (rp_int) (nomark _)))
      (rss_one (rs_ret (re_p (rp_ife (rb_cmp (o_eqU hr.units) (rp_v 0) (rp_lst (rps_nil)) (nomark _)) (rp_makeS0 MS_Letter (hr.mono (by omega)) (gl_of (by kernel_rfl))) (rp_makeS MS_Letter (hr.mono (by omega)) (gl_of (by kernel_rfl)) (rps_cons (rp_ix (rp_v 0) (rp_int)) (rps_nil)))))))
      (rss_nil))
      (rss_one (rs_ret (re_p (rp_ife (rb_cmp (o_eqU hr.units) (rp_callB c_len (gl_of (by kernel_rfl)) T.f_len (by decide +kernel) (rps_cons (rp_v 0) (rps_nil))) (rp_int) (nomark _)) (rp_makeS MS_Letter (hr.mono (by omega)) (gl_of (by kernel_rfl)) (rps_cons (rp_ix (rp_v 0) (rp_int)) (rps_cons (rp_ix (rp_v 0) (rp_int)) (rps_nil)))) (rp_makeS MS_Letter (hr.mono (by omega)) (gl_of (by kernel_rfl)) (rps_cons (rp_ix (rp_v 0) (rp_int)) (rps_cons (rp_ix (rp_v 0) (rp_int)) (rps_cons (rp_ix (rp_v 0) (rp_int)) (rps_nil)))))))))
def N_l_span : List Str := ["_law_bag_here", "_law_base", "_law_low"]
theorem sc_l_span : FnScope N_l_span ["_law_bag_here", "_law_base"] (defScope (topS 28)) := ⟨rfl, rfl, rfl, by decide +kernel, rfl, by decide +kernel, by decide +kernel⟩
def w_l_span_1  : WS :=
  wRet (wTup (wCons (wP (fV 2)) (wCons (wOp gPlus (wP (fV 2)) (wFnM [] fc_pick (wCons (wP (fV 0)) (wCons (wLst (wCons (wP (fC (.int 0))) (wCons (wP (fC (.int 0))) (wCons (wP (fC (.int 1))) (wCons (wFnM [] fc_pull (wPs (fCons (fV 0) (fCons (fC (.int 6)) (fNil))))) (wNil)))))) (wNil))))) (wNil))))
def w_l_span_0  : WS :=
  wSeq (wAsg 2 (wOp gPlus (wP (fV 1)) (wFnM [] fc_pull (wPs (fCons (fV 0) (fCons (fC (.int 12)) (fNil))))))) (w_l_span_1)
abbrev w_l_span  : WS := w_l_span_0
theorem b_l_span {P : Program} {w0 : World} {K : PySem.W.Frag} {mg : Str → Option Value} {base : Heap} {ci : Ci} {f : Addr}  (T : Tc mg) (C_l_pull : CallP P w0 K mg base ci (1) "_law_pull" [] (spOf K ci fc_pull)) (C_l_pick : CallP P w0 K mg base ci (2) "_law_pick" [] (spOf K ci fc_pick)) :
    Body P w0 K mg base ci N_l_span "_law_span" (defScope (topS 28)) f (2) (defBody (topS 28)) (w_l_span ) := by
  intro cdv A outer s H E hr
  have ND : N_l_span.Nodup := sc_l_span.nd
  unfold w_l_span w_l_span_0 w_l_span_1
  exact rss_cons (rs_asg 2 ND (re_op o_plus (re_p (rp_v 1)) (re_callM C_l_pull (hr.mono (by omega)) (gl_of (by kernel_rfl)) (ra_p (rps_cons (rp_v 0) (rps_cons (rp_int) (rps_nil)))))))
      (rss_one (rs_ret (re_tup (ra_cons (re_p (rp_v 2)) (ra_cons (re_op o_plus (re_p (rp_v 2)) (re_callM C_l_pick (hr.mono (by omega)) (gl_of (by kernel_rfl)) (ra_cons (re_p (rp_v 0)) (ra_cons (re_lst (ra_cons (re_p (rp_int)) (ra_cons (re_p (rp_int)) (ra_cons (re_p (rp_int)) (ra_cons (re_callM C_l_pull (hr.mono (by omega)) (gl_of (by kernel_rfl)) (ra_p (rps_cons (rp_v 0) (rps_cons (rp_int) (rps_nil))))) (ra_nil)))))) (ra_nil))))) (ra_nil))))))
def N_l_places : List Str := ["_law_number", "_law_rows", "_law_k"]
theorem sc_l_places : FnScope N_l_places ["_law_number", "_law_rows"] (defScope (topS 29)) := ⟨rfl, rfl, rfl, by decide +kernel, rfl, by decide +kernel, by decide +kernel⟩
def w_l_places_0  : WS :=
  wRet (wP (fCall gTuple (fCons (fComp (iR1 (fCall gLen (fCons (fV 1) (fNil)))) (tgN 2) [2] (bV (fFn [] G_in (fCons (fV 0) (fCons (fOp gIx (fV 1) (fV 2)) (fNil))))) (fV 2)) (fNil))))
abbrev w_l_places  : WS := w_l_places_0
theorem b_l_places {P : Program} {w0 : World} {K : PySem.W.Frag} {mg : Str → Option Value} {base : Heap} {ci : Ci} {f : Addr}  (T : Tc mg) (C_l_in : CallP P w0 K mg base ci (1) "_law_in" [] (spP K ci G_in)) :
    Body P w0 K mg base ci N_l_places "_law_places" (defScope (topS 29)) f (1) (defBody (topS 29)) (w_l_places ) := by
  intro cdv A outer s H E hr
  have ND : N_l_places.Nodup := sc_l_places.nd
  unfold w_l_places w_l_places_0
  exact rss_one (rs_ret (re_p (rp_callTy c_tuple (gl_of (by kernel_rfl)) T.f_tuple (by decide +kernel) (rps_cons (rp_lcv [("_law_k", 2)] rfl rfl ND (ri_r1 (gl_of (by kernel_rfl)) T.f_range (rp_callB c_len (gl_of (by kernel_rfl)) T.f_len (by decide +kernel) (rps_cons (rp_v 1) (rps_nil)))) (by kernel_rfl) (fun _ _ _ _ _ => rg_n 2 ND (by rfl) (loc_of (by kernel_rfl))) (fun _ _ _ _ _ => rc_one (rb_v (rp_call C_l_in (hr.mono (by omega)) (gl_of (by kernel_rfl)) (rps_cons (rp_v 0) (rps_cons (rp_ix (rp_v 1) (rp_v 2)) (rps_nil)))))) (fun _ _ _ _ _ => rp_v 2)) (rps_nil)))))
def N_l_cut : List Str := ["_law_rows", "_law_begins", "_law_spans", "_law_found", "_law_low", "_law_told", "_law_high", "_law_last", "_law_number"]
theorem sc_l_cut : FnScope N_l_cut ["_law_rows"] (defScope (topS 30)) := ⟨rfl, rfl, rfl, by decide +kernel, rfl, by decide +kernel, by decide +kernel⟩
def w_l_cut_for2_0  : WS :=
  wAsg 1 (wP (fOp gPlus (fOp gPlus (fV 1) (fLst (fCons (fV 4) (fNil)))) (fComp (iL (fLst (fCons (fOp gPlus (fV 6) (fC (.int 1))) (fNil)))) (tgN 8) [8] (bV (fOp gLt (fV 8) (fOp gPow (fC (.int 10)) (fC (.int 18))))) (fV 8))))
def w_l_cut_for1_0  : WS :=
  wFor (wI (iL (fV 2))) (tgT [4, 6])
  (w_l_cut_for2_0)
def w_l_cut_for3_1  : WS :=
  wIf (wB (bOr (bV (fOp (gEqU false) (fV 3) (fLst (fNil)))) (bV (fOp (gEqU true) (fOp gIx (fOp gIx (fV 3) (fOp gSub (fCall gLen (fCons (fV 3) (fNil))) (fC (.int 1)))) (fC (.int 2))) (fV 5)))))
  (wSeq (wIf (wB (bV (fOp (gEqU true) (fV 3) (fLst (fNil)))))
  (wSeq (wAsg 7 (wLM gPop (wP (fV 3)) wNil))
  (wDrop (wLM gApp (wP (fV 3)) (wPs (fCons (fTup (fCons (fOp gIx (fV 7) (fC (.int 0))) (fCons (fOp gSub (fV 4) (fC (.int 1))) (fCons (fOp gIx (fV 7) (fC (.int 2))) (fNil))))) (fNil))))))
  (wNext))
  (wDrop (wLM gApp (wP (fV 3)) (wPs (fCons (fTup (fCons (fV 4) (fCons (fOp gSub (fOp gPow (fC (.int 10)) (fC (.int 18))) (fC (.int 1))) (fCons (fV 5) (fNil))))) (fNil))))))
  (wNext)
def w_l_cut_for3_0  : WS :=
  wSeq (wAsg 5 (wP (fFn [] G_places (fCons (fV 4) (fCons (fV 0) (fNil)))))) (w_l_cut_for3_1)
def w_l_cut_4  : WS :=
  wRet (wFrz (wP (fV 3)))
def w_l_cut_3  : WS :=
  wSeq (wFor (wI (iL (fSortS (fV 1)))) (tgN 4)
  (w_l_cut_for3_0)) (w_l_cut_4)
def w_l_cut_2  : WS :=
  wSeq (wAsg 3 (wNewL (wPs (fNil)))) (w_l_cut_3)
def w_l_cut_1  : WS :=
  wSeq (wFor (wI (iL (fV 0))) (tgN 2)
  (w_l_cut_for1_0)) (w_l_cut_2)
def w_l_cut_0  : WS :=
  wSeq (wAsg 1 (wP (fLst (fCons (fC (.int 0)) (fNil))))) (w_l_cut_1)
abbrev w_l_cut  : WS := w_l_cut_0
theorem b_l_cut {P : Program} {w0 : World} {K : PySem.W.Frag} {mg : Str → Option Value} {base : Heap} {ci : Ci} {f : Addr}  (T : Tc mg) (C_l_places : CallP P w0 K mg base ci (2) "_law_places" [] (spP K ci G_places)) :
    Body P w0 K mg base ci N_l_cut "_law_cut" (defScope (topS 30)) f (2) (defBody (topS 30)) (w_l_cut ) := by
  intro cdv A outer s H E hr
  have ND : N_l_cut.Nodup := sc_l_cut.nd
  unfold w_l_cut w_l_cut_0 w_l_cut_1 w_l_cut_2 w_l_cut_3 w_l_cut_4 w_l_cut_for3_0 w_l_cut_for3_1 w_l_cut_for1_0 w_l_cut_for2_0
  exact rss_cons (rs_asg 1 ND (re_p (rp_lst (rps_cons (rp_int) (rps_nil)))))
      (rss_cons (rs_for (passes_of rfl) rfl (rie_p (ri_list (rp_v 0))) (rg_n 2 ND (by rfl) (loc_of (by kernel_rfl)))
      (rss_one (rs_for (passes_of rfl) rfl (rie_p (ri_list (rp_v 2))) (rg_t rfl (rgs_n 4 ND (by rfl) (loc_of (by kernel_rfl)) (rgs_n 6 ND (by rfl) (loc_of (by kernel_rfl)) (rgs_nil))))
      (rss_one (rs_asg 1 ND (re_p (rp_op o_plus (rp_op o_plus (rp_v 1) (rp_lst (rps_cons (rp_v 4) (rps_nil)))) (rp_lcv [("_law_number", 8)] rfl rfl ND (ri_list (rp_lst (rps_cons (rp_op o_plus (rp_v 6) (rp_int)) (rps_nil)))) (by kernel_rfl) (fun _ _ _ _ _ => rg_n 8 ND (by rfl) (loc_of (by kernel_rfl))) (fun _ _ _ _ _ => rc_one (rb_cmp o_lt (rp_v 8) (rp_op o_pow (rp_int) (rp_int)) (nomark _))) (fun _ _ _ _ _ => rp_v 8)))))))))
      (rss_cons (rs_asg 3 ND (re_newL (ra_p (rps_nil))))
      (rss_cons (rs_for (passes_of rfl) rfl (rie_p (ri_list (rp_sortSet rfl (gl_of (by kernel_rfl)) T.f_sorted (gl_of (by kernel_rfl)) T.f_set (rp_v 1)))) (rg_n 4 ND (by rfl) (loc_of (by kernel_rfl)))
      (rss_cons (rs_asg 5 ND (re_p (rp_call C_l_places (hr.mono (by omega)) (gl_of (by kernel_rfl)) (rps_cons (rp_v 4) (rps_cons (rp_v 0) (rps_nil))))))
      (rss_one (rs_if (rt_b (rb_w (rw_or (rb_cmp (o_eqU hr.units) (rp_v 3) (rp_lst (rps_nil)) (nomark _)) (rw_or1 (rb_cmp (o_neU hr.units) (rp_ix (rp_ix (rp_v 3) (rp_op o_sub (rp_callB c_len (gl_of (by kernel_rfl)) T.f_len (by decide +kernel) (rps_cons (rp_v 3) (rps_nil))) (rp_int))) (rp_int)) (rp_v 5) (nomark _))))))
      (rss_cons (rs_if (rt_b (rb_cmp (o_neU hr.units) (rp_v 3) (rp_lst (rps_nil)) (nomark _)))
      (rss_cons (rs_asg 7 ND (re_lm0 PySem.F.slot_list_pop PySem.F.type_list_pop l_pop (re_p (rp_v 3))))
      (rss_one (rs_expr (re_lm PySem.F.slot_list_append PySem.F.type_list_append l_append (re_p (rp_v 3)) (ra_p (rps_cons (rp_tup (rps_cons (rp_ix (rp_v 7) (rp_int)) (rps_cons (rp_op o_sub (rp_v 4) (rp_int)) (rps_cons (rp_ix (rp_v 7) (rp_int)) (rps_nil))))) (rps_nil)))))))
      (rss_nil))
      (rss_one (rs_expr (re_lm PySem.F.slot_list_append PySem.F.type_list_append l_append (re_p (rp_v 3)) (ra_p (rps_cons (rp_tup (rps_cons (rp_v 4) (rps_cons (rp_op o_sub (rp_op o_pow (rp_int) (rp_int)) (rp_int)) (rps_cons (rp_v 5) (rps_nil))))) (rps_nil)))))))
      (rss_nil)))))
      (rss_one (rs_ret (re_frz (re_p (rp_v 3))))))))
def N_law : List Str := ["_law_script", "_law_bag_here", "_law_turn", "_law_base", "_law_rows", "_law_made", "_law_told", "_law_k", "_law_spans", "_law_j", "_law_one"]
theorem sc_law : FnScope N_law ["_law_script"] (defScope (topS 31)) := ⟨rfl, rfl, rfl, by decide +kernel, rfl, by decide +kernel, by decide +kernel⟩
def w_law_for1_9  : WS :=
  wIf (wB (bOr (bNot (bV (fFn [] (G_same 3) (fCons (fV 6) (fCons (fFn [] G_lcut (fCons (fV 4) (fNil))) (fNil)))))) (bNot (bV (fFn [] (G_same 3) (fCons (fComp (iL (fV 5)) (tgN 10) [10] (fun _ _ => some true) (fMeth mt_runs (fV 10) fNil)) (fCons (fComp (iL (fV 4)) (tgN 8) [8] (fun _ _ => some true) (fFn [] G_joined (fCons (fV 8) (fNil)))) (fNil))))))))
  (wRet (wP (fC (.bl false))))
  (wNext)
def w_law_for1_8  : WS :=
  wSeq (wAsg 6 (wP (fIf (bV (fOp (gEqU false) (fCall gLen (fCons (fV 5) (fNil))) (fC (.int 3)))) (fFn [] G_cutS (fCons (fOp gIx (fV 5) (fC (.int 0))) (fCons (fOp gIx (fV 5) (fC (.int 1))) (fCons (fOp gIx (fV 5) (fC (.int 2))) (fNil))))) (fV 6)))) (w_law_for1_9)
def w_law_for1_7  : WS :=
  wSeq (wIf (wB (bV (fOp gGt (fCall gLen (fCons (fV 5) (fNil))) (fC (.int 0)))))
  (wAsg 6 (wP (fIf (bV (fOp (gEqU false) (fCall gLen (fCons (fV 5) (fNil))) (fC (.int 1)))) (fFn [] G_cutS (fCons (fOp gIx (fV 5) (fC (.int 0))) (fNil))) (fFn [] G_cutS (fCons (fOp gIx (fV 5) (fC (.int 0))) (fCons (fOp gIx (fV 5) (fC (.int 1))) (fNil)))))))
  (wNext)) (w_law_for1_8)
def w_law_for1_6  : WS :=
  wSeq (wAsg 6 (wP (fFn [] G_cutS fNil))) (w_law_for1_7)
def w_law_for1_5  : WS :=
  wSeq (wAsg 5 (wP (fComp (iL (fV 4)) (tgN 8) [8] (fun _ _ => some true) (fFn [] G_letter (fCons (fV 8) (fNil)))))) (w_law_for1_6)
def w_law_for1_4  : WS :=
  wSeq (wAsg 4 (wP (fSl (fV 4) (oN) (oS (fC (.int 3)))))) (w_law_for1_5)
def w_law_for1_3  : WS :=
  wSeq (wAsg 4 (wIfE (tV (wOp (gEqU false) (wFnM [] fc_pull (wPs (fCons (fV 1) (fCons (fC (.int 4)) (fNil))))) (wP (fC (.int 0))))) (wP (fOp gPlus (fV 4) (fSl (fV 4) (oN) (oS (fC (.int 1)))))) (wP (fV 4)))) (w_law_for1_4)
def w_law_for1_2  : WS :=
  wSeq (wAsg 4 (wLc (wIR1 (wFnM [] fc_pull (wPs (fCons (fV 1) (fCons (fC (.int 4)) (fNil)))))) (tgN 7) [7] (fun _ S _ Q => Q true S) (wLc (wIR1 (wFnM [] fc_pull (wPs (fCons (fV 1) (fCons (fC (.int 4)) (fNil)))))) (tgN 9) [9] (fun _ S _ Q => Q true S) (wFnM [] fc_span (wPs (fCons (fV 1) (fCons (fV 3) (fNil)))))))) (w_law_for1_3)
def w_law_for1_1  : WS :=
  wSeq (wAsg 3 (wIfE (tV (wOp (gEqU false) (wFnM [] fc_pull (wPs (fCons (fV 1) (fCons (fC (.int 2)) (fNil))))) (wP (fC (.int 0))))) (wP (fCall gMin2 (fCons (fV 3) (fCons (fOp gSub (fOp gPow (fC (.int 10)) (fC (.int 18))) (fC (.int 30))) (fNil))))) (wP (fCall gMin2 (fCons (fV 3) (fCons (fOp gSub (fOp gPow (fC (.int 10)) (fC (.int 18))) (fC (.int 20))) (fNil))))))) (w_law_for1_2)
def w_law_for1_0  : WS :=
  wSeq (wAsg 3 (wFnM [] fc_pick (wCons (wP (fV 1)) (wCons (wLst (wCons (wP (fC (.int 0))) (wCons (wP (fC (.int 4))) (wCons (wP (fOp gSub (fOp gPow (fC (.int 10)) (fC (.int 18))) (fC (.int 20)))) (wCons (wFnM [] fc_pull (wPs (fCons (fV 1) (fCons (fOp gPow (fC (.int 10)) (fC (.int 17))) (fNil))))) (wNil)))))) (wNil))))) (w_law_for1_1)
def w_law_2  : WS :=
  wRet (wP (fFn [] (G_same 3) (fCons (fFn [] G_cutS (fCons (fMake 0 [] G_Letter (fCons (fTup (fCons (fC (.int 0)) (fCons (fC (.int 4)) (fNil)))) (fNil))) (fCons (fMake 0 [] G_Letter (fCons (fTup (fCons (fC (.int 3)) (fCons (fOp gSub (fOp gPow (fC (.int 10)) (fC (.int 18))) (fC (.int 1))) (fNil)))) (fNil))) (fNil)))) (fCons (fLst (fCons (fTup (fCons (fC (.int 0)) (fCons (fC (.int 2)) (fCons (fTup (fCons (fC (.int 0)) (fNil))) (fNil))))) (fCons (fTup (fCons (fC (.int 3)) (fCons (fC (.int 4)) (fCons (fTup (fCons (fC (.int 0)) (fCons (fC (.int 1)) (fNil)))) (fNil))))) (fCons (fTup (fCons (fC (.int 5)) (fCons (fOp gSub (fOp gPow (fC (.int 10)) (fC (.int 18))) (fC (.int 1))) (fCons (fTup (fCons (fC (.int 1)) (fNil))) (fNil))))) (fNil))))) (fNil)))))
def w_law_1  : WS :=
  wSeq (wFor (wI (iR1 (fC (.int 5)))) (tgN 2)
  (w_law_for1_0)) (w_law_2)
def w_law_0  : WS :=
  wSeq (wAsg 1 (wFnM [] fc_bag (wPs (fCons (fV 0) (fNil))))) (w_law_1)
abbrev w_law  : WS := w_law_0
theorem b_law {P : Program} {w0 : World} {K : PySem.W.Frag} {mg : Str → Option Value} {base : Heap} {ci : Ci} {f : Addr}  (T : Tc mg) (C_l_bag : CallP P w0 K mg base ci (1) "_law_bag" [] (spOf K ci fc_bag)) (C_l_pick : CallP P w0 K mg base ci (2) "_law_pick" [] (spOf K ci fc_pick)) (C_l_pull : CallP P w0 K mg base ci (1) "_law_pull" [] (spOf K ci fc_pull)) (C_l_span : CallP P w0 K mg base ci (3) "_law_span" [] (spOf K ci fc_span)) (C_l_letter : CallP P w0 K mg base ci (5) "_law_letter" [] (spP K ci G_letter)) (C_l_same : CallP P w0 K mg base ci (4) "_law_same" [] (spP K ci (G_same 3))) (C_l_cut : CallP P w0 K mg base ci (3) "_law_cut" [] (spP K ci G_lcut)) (C_l_runs : CallP P w0 K mg base ci (1) "_law_runs" [] (spP K ci G_joined)) (MS_Letter : MakeS P w0 K mg base ci 3 "Letter" 0 G_Letter) (CS_cut : CallS P w0 K mg base ci 4 "cut" G_cutS) (M_runs : ∀ c dfl G, mt_runs c = some (dfl, G) → MethP P w0 K mg base ci 1 c "runs" dfl (spP K ci G)) :
    Body P w0 K mg base ci N_law "law" (defScope (topS 31)) f (6) (defBody (topS 31)) (w_law ) := by
  intro cdv A outer s H E hr
  have ND : N_law.Nodup := sc_law.nd
  unfold w_law w_law_0 w_law_1 w_law_2 w_law_for1_0 w_law_for1_1 w_law_for1_2 w_law_for1_3 w_law_for1_4 w_law_for1_5 w_law_for1_6 w_law_for1_7 w_law_for1_8 w_law_for1_9
  exact rss_cons (rs_asg 1 ND (re_callM C_l_bag (hr.mono (by omega)) (gl_of (by kernel_rfl)) (ra_p (rps_cons (rp_v 0) (rps_nil)))))
      (rss_cons (rs_for (passes_of rfl) rfl (rie_p (ri_r1 (gl_of (by kernel_rfl)) T.f_range (rp_int))) (rg_n 2 ND (by rfl) (loc_of (by kernel_rfl)))
      (rss_cons (rs_asg 3 ND (re_callM C_l_pick (hr.mono (by omega)) (gl_of (by kernel_rfl)) (ra_cons (re_p (rp_v 1)) (ra_cons (re_lst (ra_cons (re_p (rp_int)) (ra_cons (re_p (rp_int)) (ra_cons (re_p (rp_op o_sub (rp_op o_pow (rp_int) (rp_int)) (rp_int))) (ra_cons (re_callM C_l_pull (hr.mono (by omega)) (gl_of (by kernel_rfl)) (ra_p (rps_cons (rp_v 1) (rps_cons (rp_op o_pow (rp_int) (rp_int)) (rps_nil))))) (ra_nil)))))) (ra_nil)))))
      (rss_cons (rs_asg 3 ND (re_ife (rt_cmp (o_eqU hr.units) (re_callM C_l_pull (hr.mono (by omega)) (gl_of (by kernel_rfl)) (ra_p (rps_cons (rp_v 1) (rps_cons (rp_int) (rps_nil))))) (re_p (rp_int)) (nomark _)) (re_p (rp_callB (c_min2 rfl) (gl_of (by kernel_rfl)) T.f_min (by decide +kernel) (rps_cons (rp_v 3) (rps_cons (rp_op o_sub (rp_op o_pow (rp_int) (rp_int)) (rp_int)) (rps_nil))))) (re_p (rp_callB (c_min2 rfl) (gl_of (by kernel_rfl)) T.f_min (by decide +kernel) (rps_cons (rp_v 3) (rps_cons (rp_op o_sub (rp_op o_pow (rp_int) (rp_int)) (rp_int)) (rps_nil)))))))
      (rss_cons (rs_asgLcv 4 [("_law_k", 7)] rfl rfl ND (rie_r1 (gl_of (by kernel_rfl)) T.f_range (re_callM C_l_pull (hr.mono (by omega)) (gl_of (by kernel_rfl)) (ra_p (rps_cons (rp_v 1) (rps_cons (rp_int) (rps_nil)))))) (by kernel_rfl) (fun _ _ _ _ _ => rg_n 7 ND (by rfl) (loc_of (by kernel_rfl))) (fun _ _ _ _ _ => rce_nil) (fun _ _ _ _ _ => re_lcv [("_law_j", 9)] rfl rfl ND (rie_r1 (gl_of (by kernel_rfl)) T.f_range (re_callM C_l_pull (hr.mono (by omega)) (gl_of (by kernel_rfl)) (ra_p (rps_cons (rp_v 1) (rps_cons (rp_int) (rps_nil)))))) (by kernel_rfl) (fun _ _ _ _ _ => rg_n 9 ND (by rfl) (loc_of (by kernel_rfl))) (fun _ _ _ _ _ => rce_nil) (fun _ _ _ _ _ => re_callM C_l_span (hr.mono (by omega)) (gl_of (by kernel_rfl)) (ra_p (rps_cons (rp_v 1) (rps_cons (rp_v 3) (rps_nil)))))) (L2.sw_true rfl rfl rfl (by decide +kernel)))
      (rss_cons (rs_asg 4 ND (re_ife (rt_cmp (o_eqU hr.units) (re_callM C_l_pull (hr.mono (by omega)) (gl_of (by kernel_rfl)) (ra_p (rps_cons (rp_v 1) (rps_cons (rp_int) (rps_nil))))) (re_p (rp_int)) (nomark _)) (re_p (rp_op o_plus (rp_v 4) (rp_sl (rp_v 4) (ro_n) (ro_s (rp_int))))) (re_p (rp_v 4))))
      (rss_cons (rs_asg 4 ND (re_p (rp_sl (rp_v 4) (ro_n) (ro_s (rp_int)))))
      (rss_cons (rs_asgLcPv 5 [("_law_spans", 8)] rfl rfl ND (ri_list (rp_v 4)) (by kernel_rfl) (fun _ _ _ _ _ => rg_n 8 ND (by rfl) (loc_of (by kernel_rfl))) (fun _ _ _ _ _ => rc_nil) (fun _ _ _ _ _ => rp_call C_l_letter (hr.mono (by omega)) (gl_of (by kernel_rfl)) (rps_cons (rp_v 8) (rps_nil))) (L2.sw_true rfl rfl rfl (by decide +kernel)))
      (rss_cons (rs_asg 6 ND (re_p (rp_callSt0 CS_cut (hr.mono (by omega)) (gl_of (by kernel_rfl)))))
      (rss_cons (rs_if (rt_b (rb_cmp o_gt (rp_callB c_len (gl_of (by kernel_rfl)) T.f_len (by decide +kernel) (rps_cons (rp_v 5) (rps_nil))) (rp_int) (nomark _)))
      (rss_one (rs_asg 6 ND (re_p (rp_ife (rb_cmp (o_eqU hr.units) (rp_callB c_len (gl_of (by kernel_rfl)) T.f_len (by decide +kernel) (rps_cons (rp_v 5) (rps_nil))) (rp_int) (nomark _)) (rp_callSt CS_cut (hr.mono (by omega)) (gl_of (by kernel_rfl)) (rps_cons (rp_ix (rp_v 5) (rp_int)) (rps_nil))) (rp_callSt CS_cut (hr.mono (by omega)) (gl_of (by kernel_rfl)) (rps_cons (rp_ix (rp_v 5) (rp_int)) (rps_cons (rp_ix (rp_v 5) (rp_int)) (rps_nil))))))))
      (rss_nil))
      (rss_cons (rs_asg 6 ND (re_p (rp_ife (rb_cmp (o_eqU hr.units) (rp_callB c_len (gl_of (by kernel_rfl)) T.f_len (by decide +kernel) (rps_cons (rp_v 5) (rps_nil))) (rp_int) (nomark _)) (rp_callSt CS_cut (hr.mono (by omega)) (gl_of (by kernel_rfl)) (rps_cons (rp_ix (rp_v 5) (rp_int)) (rps_cons (rp_ix (rp_v 5) (rp_int)) (rps_cons (rp_ix (rp_v 5) (rp_int)) (rps_nil))))) (rp_v 6))))
      (rss_one (rs_if (rt_b (rb_w (rw_or (rb_not (rb_v (rp_call C_l_same (hr.mono (by omega)) (gl_of (by kernel_rfl)) (rps_cons (rp_v 6) (rps_cons (rp_call C_l_cut (hr.mono (by omega)) (gl_of (by kernel_rfl)) (rps_cons (rp_v 4) (rps_nil))) (rps_nil)))))) (rw_or1 (rb_not (rb_v (rp_call C_l_same (hr.mono (by omega)) (gl_of (by kernel_rfl)) (rps_cons (rp_lcv [("_law_one", 10)] rfl rfl ND (ri_list (rp_v 5)) (by kernel_rfl) (fun _ _ _ _ _ => rg_n 10 ND (by rfl) (loc_of (by kernel_rfl))) (fun _ _ _ _ _ => rc_nil) (fun _ _ _ _ _ => rp_meth0 M_runs (hr.mono (by omega)) (rp_v 10))) (rps_cons (rp_lcv [("_law_spans", 8)] rfl rfl ND (ri_list (rp_v 4)) (by kernel_rfl) (fun _ _ _ _ _ => rg_n 8 ND (by rfl) (loc_of (by kernel_rfl))) (fun _ _ _ _ _ => rc_nil) (fun _ _ _ _ _ => rp_call C_l_runs (hr.mono (by omega)) (gl_of (by kernel_rfl)) (rps_cons (rp_v 8) (rps_nil)))) (rps_nil))))))))))
      (rss_one (rs_ret (re_p (rp_bl))))
      (rss_nil)))))))))))))
      (rss_one (rs_ret (re_p (rp_call C_l_same (hr.mono (by omega)) (gl_of (by kernel_rfl)) (rps_cons (rp_callSt CS_cut (hr.mono (by omega)) (gl_of (by kernel_rfl)) (rps_cons (rp_makeS MS_Letter (hr.mono (by omega)) (gl_of (by kernel_rfl)) (rps_cons (rp_tup (rps_cons (rp_int) (rps_cons (rp_int) (rps_nil)))) (rps_nil))) (rps_cons (rp_makeS MS_Letter (hr.mono (by omega)) (gl_of (by kernel_rfl)) (rps_cons (rp_tup (rps_cons (rp_int) (rps_cons (rp_op o_sub (rp_op o_pow (rp_int) (rp_int)) (rp_int)) (rps_nil)))) (rps_nil))) (rps_nil)))) (rps_cons (rp_lst (rps_cons (rp_tup (rps_cons (rp_int) (rps_cons (rp_int) (rps_cons (rp_tup (rps_cons (rp_int) (rps_nil))) (rps_nil))))) (rps_cons (rp_tup (rps_cons (rp_int) (rps_cons (rp_int) (rps_cons (rp_tup (rps_cons (rp_int) (rps_cons (rp_int) (rps_nil)))) (rps_nil))))) (rps_cons (rp_tup (rps_cons (rp_int) (rps_cons (rp_op o_sub (rp_op o_pow (rp_int) (rp_int)) (rp_int)) (rps_cons (rp_tup (rps_cons (rp_int) (rps_nil))) (rps_nil))))) (rps_nil))))) (rps_nil))))))))
end K

set_option maxHeartbeats 4000000
namespace K
open PySem PySem.Spec PyProof.Rows L2 LP
abbrev dnP (o : Except Er D) : Dn := { nx := fun _ _ => o = .ok .non, rt := fun a _ => ∃ d, a = .d d ∧ o = .ok d, ex := fun er _ => o = .error er }
theorem dBools_map : ∀ l : List Bool, dBools (l.map .bl) = some l
  | [] => rfl
  | b :: l => by rw [List.map_cons, dBools, dBools_map l]; rfl
theorem zip_pair : ∀ l : List D, List.zipWith LP.pairD l l = l.map fun d => LP.pairD d d
  | [] => rfl
  | d :: l => by rw [List.zipWith_cons_cons, zip_pair l]; rfl
theorem comp_sameL (m : Nat) (l : List D) (hl : ∀ d ∈ l, D.sam m d = true) : compL (eltF (tgT [2, 3]) [2, 3] (fun _ _ => some true) (fFn [] (G_same m) (fCons (fV 2) (fCons (fV 3) fNil))) [some (.d (.lst l)), some (.d (.lst l)), none, none] []) (List.zipWith LP.pairD l l) = some ((l.map fun _ => true).map .bl) := by
  rw [zip_pair, compL_map, List.map_map, ← compL_some]
  refine compL_congr fun d hd => ?_
  simp [eltF, tgT, setAll, wipeG, LP.pairD, fFn, fCons, fV, fNil, LP.dataOf, G_same, hl d hd, A.toD]
theorem comp_sameT (m : Nat) (l : List D) (hl : ∀ d ∈ l, D.sam m d = true) : compL (eltF (tgT [2, 3]) [2, 3] (fun _ _ => some true) (fFn [] (G_same m) (fCons (fV 2) (fCons (fV 3) fNil))) [some (.d (.tup l)), some (.d (.tup l)), none, none] []) (List.zipWith LP.pairD l l) = some ((l.map fun _ => true).map .bl) := by
  rw [zip_pair, compL_map, List.map_map, ← compL_some]
  refine compL_congr fun d hd => ?_
  simp [eltF, tgT, setAll, wipeG, LP.pairD, fFn, fCons, fV, fNil, LP.dataOf, G_same, hl d hd, A.toD]
theorem comp_same (m : Nat) (l : List D) (hl : ∀ d ∈ l, D.sam m d = true) : fComp (iZQ (fV 0) (fV 1)) (tgT [2, 3]) [2, 3] (fun _ _ => some true) (fFn [] (G_same m) (fCons (fV 2) (fCons (fV 3) fNil))) [some (.d (.lst l)), some (.d (.lst l)), none, none] [] = some (.d (.lst ((l.map fun _ => true).map .bl))) := by
  simp only [fComp, iZQ, twoT, viewT, fV, List.getElem?_cons_zero, List.getElem?_cons_succ, Option.bind_some, Option.map_some, viewL, comp_sameL m l hl]
theorem comp_same' (m : Nat) (l : List D) (hl : ∀ d ∈ l, D.sam m d = true) : fComp (iZQ (fV 0) (fV 1)) (tgT [2, 3]) [2, 3] (fun _ _ => some true) (fFn [] (G_same m) (fCons (fV 2) (fCons (fV 3) fNil))) [some (.d (.tup l)), some (.d (.tup l)), none, none] [] = some (.d (.lst ((l.map fun _ => true).map .bl))) := by
  simp only [fComp, iZQ, twoT, viewT, fV, List.getElem?_cons_zero, List.getElem?_cons_succ, Option.bind_some, Option.map_some, comp_sameT m l hl]
theorem all_true (S : So) (l : List D) : gBools (fun l => l.all id) S [.d (.lst ((l.map fun _ => true).map .bl))] = some (.bl true) := by
  simp only [gBools, viewL, Option.bind_some, dBools_map, Option.map_some]
  congr 2
  simp
theorem v_same (n : Nat) (ds : List D) (o : Except Er D) (h : G_same n ds = some o) : w_l_same (G_prev n) (stG N_l_same (ds.map A.d)) [] (dnP o) := by
  unfold G_same at h
  split at h
  · rename_i x y
    split at h
    · rename_i hc
      obtain ⟨rfl, hs⟩ := hc
      cases h
      cases x with
      | lst l =>
        cases n with
        | zero => cases hs
        | succ m =>
          have hl : ∀ d ∈ l, D.sam m d = true := by simpa [D.sam] using hs
          have c := comp_same m l hl
          simp only [w_l_same_0, w_l_same_1, w_l_same_2, w_l_same_3, w_l_same_4, N_l_same, G_prev, c, all_true, stG, wSeq, wIf, wAsg, wRet, wRetN, wNext, wDrop, wP, wB, wPs, wCons, wNil, wOp, wFn, wPar, wAsgT, wTup, wLst, wNewL, setIx_eq, setA, wM1, wI, wFor, bV, bNot, bAnd, bOr, fOp, fC, fV, fCons, fNil, fCall, fIsi, fAnd, fOr, fNot, chain_le, fTup, fLst, fIf, fFn, tgN, tgT, setAll, gI, gLen, gLe, gLt, gGe, gGt, LP.gSub, gMod, gFdiv, gPow, gPlus, gTimes, gIntA, gInt, gIsN, gIx, tyA, TN.sub, LP.dataOf, A.toD, viewL, viewQ, viewT, gEq_ii, gEq_ss, gEq_bb, gEq_nn, fSl, slV, oN, oS, iL, iR1, wFnM, gFdivW, tNot', tV, wFrz, fFld, fldV, gEither, gOwnIn, gOwnBin, gOwnEq, fIsiO, gIsiO, fProp, propV, fMeth, fMake, fMakeV, twoT, viewT, iZQ, iET, Option.bind_some, Option.map_some, Option.bind_none, Option.map_none, Option.bind, Option.map, List.getElem?_cons_zero, List.getElem?_cons_succ, List.getElem?_nil, List.set_cons_zero, List.set_cons_succ, List.set_nil, if_true, if_false, ↓reduceIte, Bool.not_true, Bool.not_false, decide_true, decide_false, Bool.false_eq_true, reduceCtorEq, true_and, false_and, and_true, and_false, not_true, not_false_eq_true, List.any_cons, List.any_nil, Bool.or_false, Bool.or_true, Bool.true_or, Bool.false_or, Bool.and_true, Bool.true_and, Bool.and_false, Bool.false_and, exists_eq_left, exists_eq_left', Option.some.injEq, A.d.injEq, D.int.injEq, D.bl.injEq, D.str.injEq, D.lst.injEq, D.tup.injEq, Except.ok.injEq, List.cons_append, List.nil_append, List.map_cons, List.map_nil, List.length_cons, List.length_nil, List.replicate, Nat.reduceSub, Nat.reduceAdd, List.append_nil, eq_self, or_true, true_or, or_false, false_or, Int.reduceNeg, Int.reducePow, Int.reduceLT, Int.reduceLE, List.length_set]
      | tup l =>
        cases n with
        | zero => cases hs
        | succ m =>
          have hl : ∀ d ∈ l, D.sam m d = true := by simpa [D.sam] using hs
          have c := comp_same' m l hl
          simp only [w_l_same_0, w_l_same_1, w_l_same_2, w_l_same_3, w_l_same_4, N_l_same, G_prev, c, all_true, stG, wSeq, wIf, wAsg, wRet, wRetN, wNext, wDrop, wP, wB, wPs, wCons, wNil, wOp, wFn, wPar, wAsgT, wTup, wLst, wNewL, setIx_eq, setA, wM1, wI, wFor, bV, bNot, bAnd, bOr, fOp, fC, fV, fCons, fNil, fCall, fIsi, fAnd, fOr, fNot, chain_le, fTup, fLst, fIf, fFn, tgN, tgT, setAll, gI, gLen, gLe, gLt, gGe, gGt, LP.gSub, gMod, gFdiv, gPow, gPlus, gTimes, gIntA, gInt, gIsN, gIx, tyA, TN.sub, LP.dataOf, A.toD, viewL, viewQ, viewT, gEq_ii, gEq_ss, gEq_bb, gEq_nn, fSl, slV, oN, oS, iL, iR1, wFnM, gFdivW, tNot', tV, wFrz, fFld, fldV, gEither, gOwnIn, gOwnBin, gOwnEq, fIsiO, gIsiO, fProp, propV, fMeth, fMake, fMakeV, twoT, viewT, iZQ, iET, Option.bind_some, Option.map_some, Option.bind_none, Option.map_none, Option.bind, Option.map, List.getElem?_cons_zero, List.getElem?_cons_succ, List.getElem?_nil, List.set_cons_zero, List.set_cons_succ, List.set_nil, if_true, if_false, ↓reduceIte, Bool.not_true, Bool.not_false, decide_true, decide_false, Bool.false_eq_true, reduceCtorEq, true_and, false_and, and_true, and_false, not_true, not_false_eq_true, List.any_cons, List.any_nil, Bool.or_false, Bool.or_true, Bool.true_or, Bool.false_or, Bool.and_true, Bool.true_and, Bool.and_false, Bool.false_and, exists_eq_left, exists_eq_left', Option.some.injEq, A.d.injEq, D.int.injEq, D.bl.injEq, D.str.injEq, D.lst.injEq, D.tup.injEq, Except.ok.injEq, List.cons_append, List.nil_append, List.map_cons, List.map_nil, List.length_cons, List.length_nil, List.replicate, Nat.reduceSub, Nat.reduceAdd, List.append_nil, eq_self, or_true, true_or, or_false, false_or, Int.reduceNeg, Int.reducePow, Int.reduceLT, Int.reduceLE, List.length_set]
      | ins c l => cases n <;> cases hs
      | dic c l => cases n <;> cases hs
      | non => simp only [w_l_same_0, w_l_same_1, w_l_same_2, w_l_same_3, w_l_same_4, N_l_same, stG, wSeq, wIf, wAsg, wRet, wRetN, wNext, wDrop, wP, wB, wPs, wCons, wNil, wOp, wFn, wPar, wAsgT, wTup, wLst, wNewL, setIx_eq, setA, wM1, wI, wFor, bV, bNot, bAnd, bOr, fOp, fC, fV, fCons, fNil, fCall, fIsi, fAnd, fOr, fNot, chain_le, fTup, fLst, fIf, fFn, tgN, tgT, setAll, gI, gLen, gLe, gLt, gGe, gGt, LP.gSub, gMod, gFdiv, gPow, gPlus, gTimes, gIntA, gInt, gIsN, gIx, tyA, TN.sub, LP.dataOf, A.toD, viewL, viewQ, viewT, gEq_ii, gEq_ss, gEq_bb, gEq_nn, fSl, slV, oN, oS, iL, iR1, wFnM, gFdivW, tNot', tV, wFrz, fFld, fldV, gEither, gOwnIn, gOwnBin, gOwnEq, fIsiO, gIsiO, fProp, propV, fMeth, fMake, fMakeV, twoT, viewT, iZQ, iET, Option.bind_some, Option.map_some, Option.bind_none, Option.map_none, Option.bind, Option.map, List.getElem?_cons_zero, List.getElem?_cons_succ, List.getElem?_nil, List.set_cons_zero, List.set_cons_succ, List.set_nil, if_true, if_false, ↓reduceIte, Bool.not_true, Bool.not_false, decide_true, decide_false, Bool.false_eq_true, reduceCtorEq, true_and, false_and, and_true, and_false, not_true, not_false_eq_true, List.any_cons, List.any_nil, Bool.or_false, Bool.or_true, Bool.true_or, Bool.false_or, Bool.and_true, Bool.true_and, Bool.and_false, Bool.false_and, exists_eq_left, exists_eq_left', Option.some.injEq, A.d.injEq, D.int.injEq, D.bl.injEq, D.str.injEq, D.lst.injEq, D.tup.injEq, Except.ok.injEq, List.cons_append, List.nil_append, List.map_cons, List.map_nil, List.length_cons, List.length_nil, List.replicate, Nat.reduceSub, Nat.reduceAdd, List.append_nil, eq_self, or_true, true_or, or_false, false_or, Int.reduceNeg, Int.reducePow, Int.reduceLT, Int.reduceLE, List.length_set]
      | bl b => simp only [w_l_same_0, w_l_same_1, w_l_same_2, w_l_same_3, w_l_same_4, N_l_same, stG, wSeq, wIf, wAsg, wRet, wRetN, wNext, wDrop, wP, wB, wPs, wCons, wNil, wOp, wFn, wPar, wAsgT, wTup, wLst, wNewL, setIx_eq, setA, wM1, wI, wFor, bV, bNot, bAnd, bOr, fOp, fC, fV, fCons, fNil, fCall, fIsi, fAnd, fOr, fNot, chain_le, fTup, fLst, fIf, fFn, tgN, tgT, setAll, gI, gLen, gLe, gLt, gGe, gGt, LP.gSub, gMod, gFdiv, gPow, gPlus, gTimes, gIntA, gInt, gIsN, gIx, tyA, TN.sub, LP.dataOf, A.toD, viewL, viewQ, viewT, gEq_ii, gEq_ss, gEq_bb, gEq_nn, fSl, slV, oN, oS, iL, iR1, wFnM, gFdivW, tNot', tV, wFrz, fFld, fldV, gEither, gOwnIn, gOwnBin, gOwnEq, fIsiO, gIsiO, fProp, propV, fMeth, fMake, fMakeV, twoT, viewT, iZQ, iET, Option.bind_some, Option.map_some, Option.bind_none, Option.map_none, Option.bind, Option.map, List.getElem?_cons_zero, List.getElem?_cons_succ, List.getElem?_nil, List.set_cons_zero, List.set_cons_succ, List.set_nil, if_true, if_false, ↓reduceIte, Bool.not_true, Bool.not_false, decide_true, decide_false, Bool.false_eq_true, reduceCtorEq, true_and, false_and, and_true, and_false, not_true, not_false_eq_true, List.any_cons, List.any_nil, Bool.or_false, Bool.or_true, Bool.true_or, Bool.false_or, Bool.and_true, Bool.true_and, Bool.and_false, Bool.false_and, exists_eq_left, exists_eq_left', Option.some.injEq, A.d.injEq, D.int.injEq, D.bl.injEq, D.str.injEq, D.lst.injEq, D.tup.injEq, Except.ok.injEq, List.cons_append, List.nil_append, List.map_cons, List.map_nil, List.length_cons, List.length_nil, List.replicate, Nat.reduceSub, Nat.reduceAdd, List.append_nil, eq_self, or_true, true_or, or_false, false_or, Int.reduceNeg, Int.reducePow, Int.reduceLT, Int.reduceLE, List.length_set]
      | int b => simp only [w_l_same_0, w_l_same_1, w_l_same_2, w_l_same_3, w_l_same_4, N_l_same, stG, wSeq, wIf, wAsg, wRet, wRetN, wNext, wDrop, wP, wB, wPs, wCons, wNil, wOp, wFn, wPar, wAsgT, wTup, wLst, wNewL, setIx_eq, setA, wM1, wI, wFor, bV, bNot, bAnd, bOr, fOp, fC, fV, fCons, fNil, fCall, fIsi, fAnd, fOr, fNot, chain_le, fTup, fLst, fIf, fFn, tgN, tgT, setAll, gI, gLen, gLe, gLt, gGe, gGt, LP.gSub, gMod, gFdiv, gPow, gPlus, gTimes, gIntA, gInt, gIsN, gIx, tyA, TN.sub, LP.dataOf, A.toD, viewL, viewQ, viewT, gEq_ii, gEq_ss, gEq_bb, gEq_nn, fSl, slV, oN, oS, iL, iR1, wFnM, gFdivW, tNot', tV, wFrz, fFld, fldV, gEither, gOwnIn, gOwnBin, gOwnEq, fIsiO, gIsiO, fProp, propV, fMeth, fMake, fMakeV, twoT, viewT, iZQ, iET, Option.bind_some, Option.map_some, Option.bind_none, Option.map_none, Option.bind, Option.map, List.getElem?_cons_zero, List.getElem?_cons_succ, List.getElem?_nil, List.set_cons_zero, List.set_cons_succ, List.set_nil, if_true, if_false, ↓reduceIte, Bool.not_true, Bool.not_false, decide_true, decide_false, Bool.false_eq_true, reduceCtorEq, true_and, false_and, and_true, and_false, not_true, not_false_eq_true, List.any_cons, List.any_nil, Bool.or_false, Bool.or_true, Bool.true_or, Bool.false_or, Bool.and_true, Bool.true_and, Bool.and_false, Bool.false_and, exists_eq_left, exists_eq_left', Option.some.injEq, A.d.injEq, D.int.injEq, D.bl.injEq, D.str.injEq, D.lst.injEq, D.tup.injEq, Except.ok.injEq, List.cons_append, List.nil_append, List.map_cons, List.map_nil, List.length_cons, List.length_nil, List.replicate, Nat.reduceSub, Nat.reduceAdd, List.append_nil, eq_self, or_true, true_or, or_false, false_or, Int.reduceNeg, Int.reducePow, Int.reduceLT, Int.reduceLE, List.length_set]
      | str b => simp only [w_l_same_0, w_l_same_1, w_l_same_2, w_l_same_3, w_l_same_4, N_l_same, stG, wSeq, wIf, wAsg, wRet, wRetN, wNext, wDrop, wP, wB, wPs, wCons, wNil, wOp, wFn, wPar, wAsgT, wTup, wLst, wNewL, setIx_eq, setA, wM1, wI, wFor, bV, bNot, bAnd, bOr, fOp, fC, fV, fCons, fNil, fCall, fIsi, fAnd, fOr, fNot, chain_le, fTup, fLst, fIf, fFn, tgN, tgT, setAll, gI, gLen, gLe, gLt, gGe, gGt, LP.gSub, gMod, gFdiv, gPow, gPlus, gTimes, gIntA, gInt, gIsN, gIx, tyA, TN.sub, LP.dataOf, A.toD, viewL, viewQ, viewT, gEq_ii, gEq_ss, gEq_bb, gEq_nn, fSl, slV, oN, oS, iL, iR1, wFnM, gFdivW, tNot', tV, wFrz, fFld, fldV, gEither, gOwnIn, gOwnBin, gOwnEq, fIsiO, gIsiO, fProp, propV, fMeth, fMake, fMakeV, twoT, viewT, iZQ, iET, Option.bind_some, Option.map_some, Option.bind_none, Option.map_none, Option.bind, Option.map, List.getElem?_cons_zero, List.getElem?_cons_succ, List.getElem?_nil, List.set_cons_zero, List.set_cons_succ, List.set_nil, if_true, if_false, ↓reduceIte, Bool.not_true, Bool.not_false, decide_true, decide_false, Bool.false_eq_true, reduceCtorEq, true_and, false_and, and_true, and_false, not_true, not_false_eq_true, List.any_cons, List.any_nil, Bool.or_false, Bool.or_true, Bool.true_or, Bool.false_or, Bool.and_true, Bool.true_and, Bool.and_false, Bool.false_and, exists_eq_left, exists_eq_left', Option.some.injEq, A.d.injEq, D.int.injEq, D.bl.injEq, D.str.injEq, D.lst.injEq, D.tup.injEq, Except.ok.injEq, List.cons_append, List.nil_append, List.map_cons, List.map_nil, List.length_cons, List.length_nil, List.replicate, Nat.reduceSub, Nat.reduceAdd, List.append_nil, eq_self, or_true, true_or, or_false, false_or, Int.reduceNeg, Int.reducePow, Int.reduceLT, Int.reduceLE, List.length_set]
    · cases h
  · cases h
theorem at0 {α : Type} (a b c d e : α) : atI [a, b, c, d, e] (0 : Int) = some a := rfl
theorem at1 {α : Type} (a b c d e : α) : atI [a, b, c, d, e] (1 : Int) = some b := rfl
theorem at2 {α : Type} (a b c d e : α) : atI [a, b, c, d, e] (2 : Int) = some c := rfl
theorem at3 {α : Type} (a b c d e : α) : atI [a, b, c, d, e] (3 : Int) = some d := rfl
theorem at4 {α : Type} (a b c d e : α) : atI [a, b, c, d, e] (4 : Int) = some e := rfl
theorem x0 : ixN 5 (0 : Int) = some 0 := rfl
theorem x1 : ixN 5 (1 : Int) = some 1 := rfl
theorem x2 : ixN 5 (2 : Int) = some 2 := rfl
theorem x3 : ixN 5 (3 : Int) = some 3 := rfl
theorem x4 : ixN 5 (4 : Int) = some 4 := rfl
theorem lt_of {S : So} {k : Nat} {m : MO} (h : S[k]? = some m) : k < S.length := by
  obtain ⟨h, _⟩ := List.getElem?_eq_some_iff.mp h
  exact h
theorem natAbs_lt {st : Int} (h0 : 0 ≤ st) (h1 : st < 2147483579) : (st.natAbs < 2 ^ 64) = True := by
  apply eq_true
  have : (2 : Nat) ^ 64 = 18446744073709551616 := by decide
  omega
theorem n10 : (Int.natAbs 10 < 2 ^ 64) = True := eq_true (by decide)
theorem pull_end {k : Nat} {many : Int} {S : So} {E : Dn} {a2 a3 a4 : Option A} {cs : List Int} {at_ : Nat} {pool st n : Int} (hS : S[k]? = some (bagMO cs at_ pool st n)) (h0 : 0 ≤ st) (h1 : st < 2147483579) (h3 : cs.length ≤ 63) (h4 : 0 < many)
    (hQ : ∀ r m', Bag m' → 0 ≤ r → r < many → E.rt (.d (.int r)) (S.set k m')) : w_l_pull_3 [some (.loc k), some (.d (.int many)), a2, a3, a4] S E := by
  have hk := lt_of hS
  have hm : (0 < many) = True := eq_true h4
  have hn := natAbs_lt h0 h1
  unfold bagMO at hS
  simp only [w_l_pull_3, w_l_pull_4, w_l_pull_5, hS, hk, hm, hn, at0, at1, at2, at3, at4, x0, x1, x2, x3, x4, List.getElem?_set_self, stG, wSeq, wIf, wAsg, wRet, wRetN, wNext, wDrop, wP, wB, wPs, wCons, wNil, wOp, wFn, wPar, wAsgT, wTup, wLst, wNewL, setIx_eq, setA, wM1, wI, wFor, bV, bNot, bAnd, bOr, fOp, fC, fV, fCons, fNil, fCall, fIsi, fAnd, fOr, fNot, chain_le, fTup, fLst, fIf, fFn, tgN, tgT, setAll, gI, gLen, gLe, gLt, gGe, gGt, LP.gSub, gMod, gFdiv, gPow, gPlus, gTimes, gIntA, gInt, gIsN, gIx, tyA, TN.sub, LP.dataOf, A.toD, viewL, viewQ, viewT, gEq_ii, gEq_ss, gEq_bb, gEq_nn, fSl, slV, oN, oS, iL, iR1, wFnM, gFdivW, tNot', tV, wFrz, fFld, fldV, gEither, gOwnIn, gOwnBin, gOwnEq, fIsiO, gIsiO, fProp, propV, fMeth, fMake, fMakeV, twoT, viewT, iZQ, iET, Option.bind_some, Option.map_some, Option.bind_none, Option.map_none, Option.bind, Option.map, List.getElem?_cons_zero, List.getElem?_cons_succ, List.getElem?_nil, List.set_cons_zero, List.set_cons_succ, List.set_nil, if_true, if_false, ↓reduceIte, Bool.not_true, Bool.not_false, decide_true, decide_false, Bool.false_eq_true, reduceCtorEq, true_and, false_and, and_true, and_false, not_true, not_false_eq_true, List.any_cons, List.any_nil, Bool.or_false, Bool.or_true, Bool.true_or, Bool.false_or, Bool.and_true, Bool.true_and, Bool.and_false, Bool.false_and, exists_eq_left, exists_eq_left', Option.some.injEq, A.d.injEq, D.int.injEq, D.bl.injEq, D.str.injEq, D.lst.injEq, D.tup.injEq, Except.ok.injEq, List.cons_append, List.nil_append, List.map_cons, List.map_nil, List.length_cons, List.length_nil, List.replicate, Nat.reduceSub, Nat.reduceAdd, List.append_nil, eq_self, or_true, true_or, or_false, false_or, Int.reduceNeg, Int.reducePow, Int.reduceLT, Int.reduceLE, List.length_set]
  exact hQ _ _ ⟨cs, at_, pool, _, n, rfl, Int.emod_nonneg _ (by decide), Int.emod_lt_of_pos _ (by decide), h3⟩ (Int.emod_nonneg _ (by omega)) (Int.emod_lt_of_pos _ h4)
theorem pull_mid {k : Nat} {many : Int} {S : So} {E : Dn} {a2 a3 a4 : Option A} {cs : List Int} {at_ : Nat} {pool st n : Int} (hS : S[k]? = some (bagMO cs at_ pool st n)) (h0 : 0 ≤ st) (h1 : st < 2147483579) (h3 : cs.length ≤ 63) (h4 : 0 < many) (h5 : many < 1152921504606846976)
    (hQ : ∀ r m', Bag m' → 0 ≤ r → r < many → E.rt (.d (.int r)) (S.set k m')) : w_l_pull_2 [some (.loc k), some (.d (.int many)), a2, a3, a4] S E := by
  have hk := lt_of hS
  have hm : (0 < many) = True := eq_true h4
  have hm5 : (many < 18446744073709551616) = True := eq_true (by omega)
  have hS' := hS
  unfold bagMO at hS
  by_cases hp : 0 < pool
  · have hp := eq_true hp
    simp only [w_l_pull_2, hS, hk, hm, hm5, hp, at0, at1, at2, at3, at4, x0, x1, x2, x3, x4, List.getElem?_set_self, stG, wSeq, wIf, wAsg, wRet, wRetN, wNext, wDrop, wP, wB, wPs, wCons, wNil, wOp, wFn, wPar, wAsgT, wTup, wLst, wNewL, setIx_eq, setA, wM1, wI, wFor, bV, bNot, bAnd, bOr, fOp, fC, fV, fCons, fNil, fCall, fIsi, fAnd, fOr, fNot, chain_le, fTup, fLst, fIf, fFn, tgN, tgT, setAll, gI, gLen, gLe, gLt, gGe, gGt, LP.gSub, gMod, gFdiv, gPow, gPlus, gTimes, gIntA, gInt, gIsN, gIx, tyA, TN.sub, LP.dataOf, A.toD, viewL, viewQ, viewT, gEq_ii, gEq_ss, gEq_bb, gEq_nn, fSl, slV, oN, oS, iL, iR1, wFnM, gFdivW, tNot', tV, wFrz, fFld, fldV, gEither, gOwnIn, gOwnBin, gOwnEq, fIsiO, gIsiO, fProp, propV, fMeth, fMake, fMakeV, twoT, viewT, iZQ, iET, Option.bind_some, Option.map_some, Option.bind_none, Option.map_none, Option.bind, Option.map, List.getElem?_cons_zero, List.getElem?_cons_succ, List.getElem?_nil, List.set_cons_zero, List.set_cons_succ, List.set_nil, if_true, if_false, ↓reduceIte, Bool.not_true, Bool.not_false, decide_true, decide_false, Bool.false_eq_true, reduceCtorEq, true_and, false_and, and_true, and_false, not_true, not_false_eq_true, List.any_cons, List.any_nil, Bool.or_false, Bool.or_true, Bool.true_or, Bool.false_or, Bool.and_true, Bool.true_and, Bool.and_false, Bool.false_and, exists_eq_left, exists_eq_left', Option.some.injEq, A.d.injEq, D.int.injEq, D.bl.injEq, D.str.injEq, D.lst.injEq, D.tup.injEq, Except.ok.injEq, List.cons_append, List.nil_append, List.map_cons, List.map_nil, List.length_cons, List.length_nil, List.replicate, Nat.reduceSub, Nat.reduceAdd, List.append_nil, eq_self, or_true, true_or, or_false, false_or, Int.reduceNeg, Int.reducePow, Int.reduceLT, Int.reduceLE, List.length_set]
    exact hQ _ _ ⟨cs, at_, _, st, n, rfl, h0, h1, h3⟩ (Int.emod_nonneg _ (by omega)) (Int.emod_lt_of_pos _ h4)
  · have hp := eq_false hp
    simp only [w_l_pull_2, hS, hk, hm, hm5, hp, at0, at1, at2, at3, at4, x0, x1, x2, x3, x4, List.getElem?_set_self, stG, wSeq, wIf, wAsg, wRet, wRetN, wNext, wDrop, wP, wB, wPs, wCons, wNil, wOp, wFn, wPar, wAsgT, wTup, wLst, wNewL, setIx_eq, setA, wM1, wI, wFor, bV, bNot, bAnd, bOr, fOp, fC, fV, fCons, fNil, fCall, fIsi, fAnd, fOr, fNot, chain_le, fTup, fLst, fIf, fFn, tgN, tgT, setAll, gI, gLen, gLe, gLt, gGe, gGt, LP.gSub, gMod, gFdiv, gPow, gPlus, gTimes, gIntA, gInt, gIsN, gIx, tyA, TN.sub, LP.dataOf, A.toD, viewL, viewQ, viewT, gEq_ii, gEq_ss, gEq_bb, gEq_nn, fSl, slV, oN, oS, iL, iR1, wFnM, gFdivW, tNot', tV, wFrz, fFld, fldV, gEither, gOwnIn, gOwnBin, gOwnEq, fIsiO, gIsiO, fProp, propV, fMeth, fMake, fMakeV, twoT, viewT, iZQ, iET, Option.bind_some, Option.map_some, Option.bind_none, Option.map_none, Option.bind, Option.map, List.getElem?_cons_zero, List.getElem?_cons_succ, List.getElem?_nil, List.set_cons_zero, List.set_cons_succ, List.set_nil, if_true, if_false, ↓reduceIte, Bool.not_true, Bool.not_false, decide_true, decide_false, Bool.false_eq_true, reduceCtorEq, true_and, false_and, and_true, and_false, not_true, not_false_eq_true, List.any_cons, List.any_nil, Bool.or_false, Bool.or_true, Bool.true_or, Bool.false_or, Bool.and_true, Bool.true_and, Bool.and_false, Bool.false_and, exists_eq_left, exists_eq_left', Option.some.injEq, A.d.injEq, D.int.injEq, D.bl.injEq, D.str.injEq, D.lst.injEq, D.tup.injEq, Except.ok.injEq, List.cons_append, List.nil_append, List.map_cons, List.map_nil, List.length_cons, List.length_nil, List.replicate, Nat.reduceSub, Nat.reduceAdd, List.append_nil, eq_self, or_true, true_or, or_false, false_or, Int.reduceNeg, Int.reducePow, Int.reduceLT, Int.reduceLE, List.length_set]
    exact pull_end hS' h0 h1 h3 h4 hQ
theorem at_cells {cs : List Int} {at_ : Nat} {c : Int} (h : cs[at_]? = some c) : atI (cs.map D.int) (at_ : Int) = some (.int c) := by
  obtain ⟨hl, _⟩ := List.getElem?_eq_some_iff.mp h
  have : ixN (cs.map D.int).length (at_ : Int) = some at_ := by
    unfold ixN
    rw [if_pos (by omega), if_pos (by simpa using hl)]
    rfl
  rw [atI, this, Option.bind_some, List.getElem?_map, h]
  rfl
theorem pull_1 {k : Nat} {many : Int} {S : So} {E : Dn} {a2 a3 a4 : Option A} {cs : List Int} {at_ : Nat} {pool st n : Int} (hS : S[k]? = some (bagMO cs at_ pool st n)) (h0 : 0 ≤ st) (h1 : st < 2147483579) (h3 : cs.length ≤ 63) (h4 : 0 < many) (h5 : many < 1152921504606846976)
    (hQ : ∀ r m', Bag m' → 0 ≤ r → r < many → E.rt (.d (.int r)) (S.set k m')) : w_l_pull_1 [some (.loc k), some (.d (.int many)), a2, a3, a4] S E := by
  have hk := lt_of hS
  have hS' := hS
  unfold bagMO at hS
  by_cases hp : pool = 0
  · by_cases ha : at_ < cs.length
    · have hc : cs[at_]? = some cs[at_] := List.getElem?_eq_getElem ha
      have hat := at_cells hc
      have ha2 : ((at_ : Int) < (cs.length : Int)) = True := eq_true (by omega)
      have hpw : (10 : Int) ^ 18 = 1000000000000000000 := by decide
      have hp2 := eq_true hp
      have fin_ : ∀ (p x : Int), w_l_pull_2 [some (.loc k), some (.d (.int many)), a2, some (.d (.int cs[at_])), a4] (S.set k (.lst [.d (.lst (cs.map .int)), .d (.int ((at_ : Int) + 1)), .d (.int p), .d (.int (x % 2147483579)), .d (.int n)])) E := fun p x =>
        pull_mid (cs := cs) (at_ := at_ + 1) (pool := p) (st := x % 2147483579) (n := n) (by rw [List.getElem?_set_self hk]; rfl) (Int.emod_nonneg _ (by decide)) (Int.emod_lt_of_pos _ (by decide)) h3 h4 h5 fun r m' b r0 r1 => by
          rw [List.set_set]; exact hQ r m' b r0 r1
      by_cases hb : (10 : Int) ^ Int.toNat 18 ≤ cs[at_]
      · have hb2 := eq_true hb
        simp only [w_l_pull_1, hS, hk, hp2, ha2, hb2, hat, n10, at0, at1, at2, at3, at4, x0, x1, x2, x3, x4, List.getElem?_set_self, List.length_map, List.set_set, stG, wSeq, wIf, wAsg, wRet, wRetN, wNext, wDrop, wP, wB, wPs, wCons, wNil, wOp, wFn, wPar, wAsgT, wTup, wLst, wNewL, setIx_eq, setA, wM1, wI, wFor, bV, bNot, bAnd, bOr, fOp, fC, fV, fCons, fNil, fCall, fIsi, fAnd, fOr, fNot, chain_le, fTup, fLst, fIf, fFn, tgN, tgT, setAll, gI, gLen, gLe, gLt, gGe, gGt, LP.gSub, gMod, gFdiv, gPow, gPlus, gTimes, gIntA, gInt, gIsN, gIx, tyA, TN.sub, LP.dataOf, A.toD, viewL, viewQ, viewT, gEq_ii, gEq_ss, gEq_bb, gEq_nn, fSl, slV, oN, oS, iL, iR1, wFnM, gFdivW, tNot', tV, wFrz, fFld, fldV, gEither, gOwnIn, gOwnBin, gOwnEq, fIsiO, gIsiO, fProp, propV, fMeth, fMake, fMakeV, twoT, viewT, iZQ, iET, Option.bind_some, Option.map_some, Option.bind_none, Option.map_none, Option.bind, Option.map, List.getElem?_cons_zero, List.getElem?_cons_succ, List.getElem?_nil, List.set_cons_zero, List.set_cons_succ, List.set_nil, if_true, if_false, ↓reduceIte, Bool.not_true, Bool.not_false, decide_true, decide_false, Bool.false_eq_true, reduceCtorEq, true_and, false_and, and_true, and_false, not_true, not_false_eq_true, List.any_cons, List.any_nil, Bool.or_false, Bool.or_true, Bool.true_or, Bool.false_or, Bool.and_true, Bool.true_and, Bool.and_false, Bool.false_and, exists_eq_left, exists_eq_left', Option.some.injEq, A.d.injEq, D.int.injEq, D.bl.injEq, D.str.injEq, D.lst.injEq, D.tup.injEq, Except.ok.injEq, List.cons_append, List.nil_append, List.map_cons, List.map_nil, List.length_cons, List.length_nil, List.replicate, Nat.reduceSub, Nat.reduceAdd, List.append_nil, eq_self, or_true, true_or, or_false, false_or, Int.reduceNeg, Int.reducePow, Int.reduceLT, Int.reduceLE, List.length_set]
        exact fin_ _ _
      · have hb2 := eq_false hb
        simp only [w_l_pull_1, hS, hk, hp2, ha2, hb2, hat, n10, at0, at1, at2, at3, at4, x0, x1, x2, x3, x4, List.getElem?_set_self, List.length_map, List.set_set, stG, wSeq, wIf, wAsg, wRet, wRetN, wNext, wDrop, wP, wB, wPs, wCons, wNil, wOp, wFn, wPar, wAsgT, wTup, wLst, wNewL, setIx_eq, setA, wM1, wI, wFor, bV, bNot, bAnd, bOr, fOp, fC, fV, fCons, fNil, fCall, fIsi, fAnd, fOr, fNot, chain_le, fTup, fLst, fIf, fFn, tgN, tgT, setAll, gI, gLen, gLe, gLt, gGe, gGt, LP.gSub, gMod, gFdiv, gPow, gPlus, gTimes, gIntA, gInt, gIsN, gIx, tyA, TN.sub, LP.dataOf, A.toD, viewL, viewQ, viewT, gEq_ii, gEq_ss, gEq_bb, gEq_nn, fSl, slV, oN, oS, iL, iR1, wFnM, gFdivW, tNot', tV, wFrz, fFld, fldV, gEither, gOwnIn, gOwnBin, gOwnEq, fIsiO, gIsiO, fProp, propV, fMeth, fMake, fMakeV, twoT, viewT, iZQ, iET, Option.bind_some, Option.map_some, Option.bind_none, Option.map_none, Option.bind, Option.map, List.getElem?_cons_zero, List.getElem?_cons_succ, List.getElem?_nil, List.set_cons_zero, List.set_cons_succ, List.set_nil, if_true, if_false, ↓reduceIte, Bool.not_true, Bool.not_false, decide_true, decide_false, Bool.false_eq_true, reduceCtorEq, true_and, false_and, and_true, and_false, not_true, not_false_eq_true, List.any_cons, List.any_nil, Bool.or_false, Bool.or_true, Bool.true_or, Bool.false_or, Bool.and_true, Bool.true_and, Bool.and_false, Bool.false_and, exists_eq_left, exists_eq_left', Option.some.injEq, A.d.injEq, D.int.injEq, D.bl.injEq, D.str.injEq, D.lst.injEq, D.tup.injEq, Except.ok.injEq, List.cons_append, List.nil_append, List.map_cons, List.map_nil, List.length_cons, List.length_nil, List.replicate, Nat.reduceSub, Nat.reduceAdd, List.append_nil, eq_self, or_true, true_or, or_false, false_or, Int.reduceNeg, Int.reducePow, Int.reduceLT, Int.reduceLE, List.length_set]
        exact fin_ _ _
    · have ha2 : ((at_ : Int) < (cs.length : Int)) = False := eq_false (by omega)
      have hp2 := eq_true hp
      simp only [w_l_pull_1, hS, hk, hp2, ha2, at0, at1, at2, at3, at4, x0, x1, x2, x3, x4, List.getElem?_set_self, List.length_map, stG, wSeq, wIf, wAsg, wRet, wRetN, wNext, wDrop, wP, wB, wPs, wCons, wNil, wOp, wFn, wPar, wAsgT, wTup, wLst, wNewL, setIx_eq, setA, wM1, wI, wFor, bV, bNot, bAnd, bOr, fOp, fC, fV, fCons, fNil, fCall, fIsi, fAnd, fOr, fNot, chain_le, fTup, fLst, fIf, fFn, tgN, tgT, setAll, gI, gLen, gLe, gLt, gGe, gGt, LP.gSub, gMod, gFdiv, gPow, gPlus, gTimes, gIntA, gInt, gIsN, gIx, tyA, TN.sub, LP.dataOf, A.toD, viewL, viewQ, viewT, gEq_ii, gEq_ss, gEq_bb, gEq_nn, fSl, slV, oN, oS, iL, iR1, wFnM, gFdivW, tNot', tV, wFrz, fFld, fldV, gEither, gOwnIn, gOwnBin, gOwnEq, fIsiO, gIsiO, fProp, propV, fMeth, fMake, fMakeV, twoT, viewT, iZQ, iET, Option.bind_some, Option.map_some, Option.bind_none, Option.map_none, Option.bind, Option.map, List.getElem?_cons_zero, List.getElem?_cons_succ, List.getElem?_nil, List.set_cons_zero, List.set_cons_succ, List.set_nil, if_true, if_false, ↓reduceIte, Bool.not_true, Bool.not_false, decide_true, decide_false, Bool.false_eq_true, reduceCtorEq, true_and, false_and, and_true, and_false, not_true, not_false_eq_true, List.any_cons, List.any_nil, Bool.or_false, Bool.or_true, Bool.true_or, Bool.false_or, Bool.and_true, Bool.true_and, Bool.and_false, Bool.false_and, exists_eq_left, exists_eq_left', Option.some.injEq, A.d.injEq, D.int.injEq, D.bl.injEq, D.str.injEq, D.lst.injEq, D.tup.injEq, Except.ok.injEq, List.cons_append, List.nil_append, List.map_cons, List.map_nil, List.length_cons, List.length_nil, List.replicate, Nat.reduceSub, Nat.reduceAdd, List.append_nil, eq_self, or_true, true_or, or_false, false_or, Int.reduceNeg, Int.reducePow, Int.reduceLT, Int.reduceLE, List.length_set]
      exact pull_mid hS' h0 h1 h3 h4 h5 hQ
  · have hp2 := eq_false hp
    simp only [w_l_pull_1, hS, hk, hp2, at0, at1, at2, at3, at4, x0, x1, x2, x3, x4, List.getElem?_set_self, List.length_map, stG, wSeq, wIf, wAsg, wRet, wRetN, wNext, wDrop, wP, wB, wPs, wCons, wNil, wOp, wFn, wPar, wAsgT, wTup, wLst, wNewL, setIx_eq, setA, wM1, wI, wFor, bV, bNot, bAnd, bOr, fOp, fC, fV, fCons, fNil, fCall, fIsi, fAnd, fOr, fNot, chain_le, fTup, fLst, fIf, fFn, tgN, tgT, setAll, gI, gLen, gLe, gLt, gGe, gGt, LP.gSub, gMod, gFdiv, gPow, gPlus, gTimes, gIntA, gInt, gIsN, gIx, tyA, TN.sub, LP.dataOf, A.toD, viewL, viewQ, viewT, gEq_ii, gEq_ss, gEq_bb, gEq_nn, fSl, slV, oN, oS, iL, iR1, wFnM, gFdivW, tNot', tV, wFrz, fFld, fldV, gEither, gOwnIn, gOwnBin, gOwnEq, fIsiO, gIsiO, fProp, propV, fMeth, fMake, fMakeV, twoT, viewT, iZQ, iET, Option.bind_some, Option.map_some, Option.bind_none, Option.map_none, Option.bind, Option.map, List.getElem?_cons_zero, List.getElem?_cons_succ, List.getElem?_nil, List.set_cons_zero, List.set_cons_succ, List.set_nil, if_true, if_false, ↓reduceIte, Bool.not_true, Bool.not_false, decide_true, decide_false, Bool.false_eq_true, reduceCtorEq, true_and, false_and, and_true, and_false, not_true, not_false_eq_true, List.any_cons, List.any_nil, Bool.or_false, Bool.or_true, Bool.true_or, Bool.false_or, Bool.and_true, Bool.true_and, Bool.and_false, Bool.false_and, exists_eq_left, exists_eq_left', Option.some.injEq, A.d.injEq, D.int.injEq, D.bl.injEq, D.str.injEq, D.lst.injEq, D.tup.injEq, Except.ok.injEq, List.cons_append, List.nil_append, List.map_cons, List.map_nil, List.length_cons, List.length_nil, List.replicate, Nat.reduceSub, Nat.reduceAdd, List.append_nil, eq_self, or_true, true_or, or_false, false_or, Int.reduceNeg, Int.reducePow, Int.reduceLT, Int.reduceLE, List.length_set]
    exact pull_mid hS' h0 h1 h3 h4 h5 hQ
theorem v_pull (as : List A) (S : So) (ex : EK) (Q : AK) (h : fc_pull as S ex Q) : w_l_pull (stG N_l_pull as) S { nx := fun _ S' => Q (.d .non) S', rt := Q, ex := ex } := by
  obtain ⟨k, m, many, rfl, hS, ⟨cs, at_, pool, st, n, rfl, h0, h1, h3⟩, h4, h5, hQ⟩ := h
  have hk := lt_of hS
  have hS' := hS
  unfold bagMO at hS
  simp only [w_l_pull_0, N_l_pull, hS, hk, at0, at1, at2, at3, at4, x0, x1, x2, x3, x4, List.getElem?_set_self, List.length_map, stG, wSeq, wIf, wAsg, wRet, wRetN, wNext, wDrop, wP, wB, wPs, wCons, wNil, wOp, wFn, wPar, wAsgT, wTup, wLst, wNewL, setIx_eq, setA, wM1, wI, wFor, bV, bNot, bAnd, bOr, fOp, fC, fV, fCons, fNil, fCall, fIsi, fAnd, fOr, fNot, chain_le, fTup, fLst, fIf, fFn, tgN, tgT, setAll, gI, gLen, gLe, gLt, gGe, gGt, LP.gSub, gMod, gFdiv, gPow, gPlus, gTimes, gIntA, gInt, gIsN, gIx, tyA, TN.sub, LP.dataOf, A.toD, viewL, viewQ, viewT, gEq_ii, gEq_ss, gEq_bb, gEq_nn, fSl, slV, oN, oS, iL, iR1, wFnM, gFdivW, tNot', tV, wFrz, fFld, fldV, gEither, gOwnIn, gOwnBin, gOwnEq, fIsiO, gIsiO, fProp, propV, fMeth, fMake, fMakeV, twoT, viewT, iZQ, iET, Option.bind_some, Option.map_some, Option.bind_none, Option.map_none, Option.bind, Option.map, List.getElem?_cons_zero, List.getElem?_cons_succ, List.getElem?_nil, List.set_cons_zero, List.set_cons_succ, List.set_nil, if_true, if_false, ↓reduceIte, Bool.not_true, Bool.not_false, decide_true, decide_false, Bool.false_eq_true, reduceCtorEq, true_and, false_and, and_true, and_false, not_true, not_false_eq_true, List.any_cons, List.any_nil, Bool.or_false, Bool.or_true, Bool.true_or, Bool.false_or, Bool.and_true, Bool.true_and, Bool.and_false, Bool.false_and, exists_eq_left, exists_eq_left', Option.some.injEq, A.d.injEq, D.int.injEq, D.bl.injEq, D.str.injEq, D.lst.injEq, D.tup.injEq, Except.ok.injEq, List.cons_append, List.nil_append, List.map_cons, List.map_nil, List.length_cons, List.length_nil, List.replicate, Nat.reduceSub, Nat.reduceAdd, List.append_nil, eq_self, or_true, true_or, or_false, false_or, Int.reduceNeg, Int.reducePow, Int.reduceLT, Int.reduceLE, List.length_set]
  exact pull_1 (cs := cs) (at_ := at_) (pool := pool) (st := st) (n := n + 1) (by rw [List.getElem?_set_self hk]; rfl) h0 h1 h3 h4 h5 fun r m' b r0 r1 => by
    show Q _ _
    rw [List.set_set]; exact hQ r m' b r0 r1
theorem rows_len {rows : D} {l : List D} (S : So) (h : rowsOf rows = some l) (hl : l.length < 1000) : gLen S [.d rows] = some (.int l.length) := by
  unfold rowsOf at h
  split at h
  · cases h; simp only [gLen, viewQ, viewL, Option.map_some]
  · cases h
    rename_i s
    have e : s.length = s.cps.toList.length := by simp [Str.length]
    rw [List.length_map] at hl
    have : s.length ≤ sizeLine := Nat.le_trans (by omega : s.length ≤ 1000) (by decide)
    simp only [gLen]
    rw [if_pos this, List.length_map, e]
  · cases h
theorem at_nat {α : Type} {l : List α} {r : Int} (h0 : 0 ≤ r) (h1 : r < l.length) : ∃ d, atI l r = some d ∧ d ∈ l := by
  have : ixN l.length r = some r.toNat := by
    unfold ixN
    rw [if_pos h0, if_pos h1]
  have hl : r.toNat < l.length := by omega
  refine ⟨l[r.toNat], ?_, List.getElem_mem hl⟩
  rw [atI, this, Option.bind_some, List.getElem?_eq_getElem hl]
theorem rows_ix {rows : D} {l : List D} {S : So} {r : Int} (h : rowsOf rows = some l) (hl : l.length < 1000) (h0 : 0 ≤ r) (h1 : r < l.length) : ∃ d, gIx S (.d rows) (.d (.int r)) = some d ∧ d ∈ l := by
  unfold rowsOf at h
  split at h
  · cases h
    obtain ⟨d, e, m⟩ := at_nat h0 h1
    exact ⟨d, by simp only [gIx, viewQ, viewL, Option.bind_some, e], m⟩
  · cases h
    rename_i s
    have e : s.length = s.cps.toList.length := by simp [Str.length]
    rw [List.length_map] at hl h1
    have : s.length ≤ sizeLine := Nat.le_trans (by omega : s.length ≤ 1000) (by decide)
    obtain ⟨c, e2, m⟩ := at_nat h0 h1
    exact ⟨_, by simp only [gIx, this, if_true, e2, Option.map_some], List.mem_map.mpr ⟨c, m, rfl⟩⟩
  · cases h
theorem v_pick (as : List A) (S : So) (ex : EK) (Q : AK) (h : fc_pick as S ex Q) : w_l_pick (stG N_l_pick as) S { nx := fun _ S' => Q (.d .non) S', rt := Q, ex := ex } := by
  obtain ⟨k, m, rows, l, rfl, hS, hb, hr, h0, h1, hQ⟩ := h
  simp only [w_l_pick_0, N_l_pick, rows_len S hr h1, wFnM, stG, wSeq, wIf, wAsg, wRet, wRetN, wNext, wDrop, wP, wB, wPs, wCons, wNil, wOp, wFn, wPar, wAsgT, wTup, wLst, wNewL, setIx_eq, setA, wM1, wI, wFor, bV, bNot, bAnd, bOr, fOp, fC, fV, fCons, fNil, fCall, fIsi, fAnd, fOr, fNot, chain_le, fTup, fLst, fIf, fFn, tgN, tgT, setAll, gI, gLe, gLt, gGe, gGt, LP.gSub, gMod, gFdiv, gPow, gPlus, gTimes, gIntA, gInt, gIsN, tyA, TN.sub, LP.dataOf, A.toD, viewL, viewQ, viewT, gEq_ii, gEq_ss, gEq_bb, gEq_nn, fSl, slV, oN, oS, iL, iR1, wFnM, gFdivW, tNot', tV, wFrz, fFld, fldV, gEither, gOwnIn, gOwnBin, gOwnEq, fIsiO, gIsiO, fProp, propV, fMeth, fMake, fMakeV, twoT, viewT, iZQ, iET, Option.bind_some, Option.map_some, Option.bind_none, Option.map_none, Option.bind, Option.map, List.getElem?_cons_zero, List.getElem?_cons_succ, List.getElem?_nil, List.set_cons_zero, List.set_cons_succ, List.set_nil, if_true, if_false, ↓reduceIte, Bool.not_true, Bool.not_false, decide_true, decide_false, Bool.false_eq_true, reduceCtorEq, true_and, false_and, and_true, and_false, not_true, not_false_eq_true, List.any_cons, List.any_nil, Bool.or_false, Bool.or_true, Bool.true_or, Bool.false_or, Bool.and_true, Bool.true_and, Bool.and_false, Bool.false_and, exists_eq_left, exists_eq_left', Option.some.injEq, A.d.injEq, D.int.injEq, D.bl.injEq, D.str.injEq, D.lst.injEq, D.tup.injEq, Except.ok.injEq, List.cons_append, List.nil_append, List.map_cons, List.map_nil, List.length_cons, List.length_nil, List.replicate, Nat.reduceSub, Nat.reduceAdd, List.append_nil, eq_self, or_true, true_or, or_false, false_or, Int.reduceNeg, Int.reducePow, Int.reduceLT, Int.reduceLE, List.length_set]
  refine ⟨k, m, _, rfl, hS, hb, by omega, by omega, fun r m' b r0 r1 => ?_⟩
  obtain ⟨d, e, hm⟩ := rows_ix (S := S.set k m') hr h1 r0 r1
  exact ⟨d, e, hQ d m' b hm⟩
theorem cut63 {l : List D} (h : l.length ≤ 63) : LP.cutD l none (some 63) = l := by
  unfold LP.cutD
  rw [HT.sIx_none, show ((63 : Int)) = ((63 : Nat) : Int) from rfl, HT.sIx_nat, Nat.min_eq_right h]
  simp
theorem comp_ints {Γ : Ga} {S : So} {k : Nat} {cs : List Int} {x : Option A} {y : A} (hS : S[k]? = some (.scr (cs.map .int))) (hl : cs.length ≤ 63) :
    fComp (iL (fSl (fV 0) oN (oS (fC (.int 63))))) (tgN 2) [2] (fun _ _ => some true) (fCall gIntA (fCons (fV 2) fNil)) [some (.loc k), some y, x] S = some (.d (.lst (cs.map .int))) := by
  have hc := cut63 (l := cs.map D.int) (by simpa using hl)
  have c : compL (eltF (tgN 2) [2] (fun _ _ => some true) (fCall gIntA (fCons (fV 2) fNil)) [some (.loc k), some y, x] S) (cs.map .int) = some (cs.map .int) := by
    rw [compL_map, ← compL_some]
    refine compL_congr fun d hd => ?_
    simp [eltF, tgN, wipeG, fCall, fCons, fV, fNil, gIntA, gInt, A.toD]
  simp only [fComp, hS, hc, c, stG, wSeq, wIf, wAsg, wRet, wRetN, wNext, wDrop, wP, wB, wPs, wCons, wNil, wOp, wFn, wPar, wAsgT, wTup, wLst, wNewL, setIx_eq, setA, wM1, wI, wFor, bV, bNot, bAnd, bOr, fOp, fC, fV, fCons, fNil, fCall, fIsi, fAnd, fOr, fNot, chain_le, fTup, fLst, fIf, fFn, tgN, tgT, setAll, gI, gLen, gLe, gLt, gGe, gGt, LP.gSub, gMod, gFdiv, gPow, gPlus, gTimes, gIntA, gInt, gIsN, gIx, tyA, TN.sub, LP.dataOf, A.toD, viewL, viewQ, viewT, gEq_ii, gEq_ss, gEq_bb, gEq_nn, fSl, slV, oN, oS, iL, iR1, wFnM, gFdivW, tNot', tV, wFrz, fFld, fldV, gEither, gOwnIn, gOwnBin, gOwnEq, fIsiO, gIsiO, fProp, propV, fMeth, fMake, fMakeV, twoT, viewT, iZQ, iET, Option.bind_some, Option.map_some, Option.bind_none, Option.map_none, Option.bind, Option.map, List.getElem?_cons_zero, List.getElem?_cons_succ, List.getElem?_nil, List.set_cons_zero, List.set_cons_succ, List.set_nil, if_true, if_false, ↓reduceIte, Bool.not_true, Bool.not_false, decide_true, decide_false, Bool.false_eq_true, reduceCtorEq, true_and, false_and, and_true, and_false, not_true, not_false_eq_true, List.any_cons, List.any_nil, Bool.or_false, Bool.or_true, Bool.true_or, Bool.false_or, Bool.and_true, Bool.true_and, Bool.and_false, Bool.false_and, exists_eq_left, exists_eq_left', Option.some.injEq, A.d.injEq, D.int.injEq, D.bl.injEq, D.str.injEq, D.lst.injEq, D.tup.injEq, Except.ok.injEq, List.cons_append, List.nil_append, List.map_cons, List.map_nil, List.length_cons, List.length_nil, List.replicate, Nat.reduceSub, Nat.reduceAdd, List.append_nil, eq_self, or_true, true_or, or_false, false_or, Int.reduceNeg, Int.reducePow, Int.reduceLT, Int.reduceLE, List.length_set]
theorem v_bag (as : List A) (S : So) (ex : EK) (Q : AK) (h : fc_bag as S ex Q) : w_l_bag (stG N_l_bag as) S { nx := fun _ S' => Q (.d .non) S', rt := Q, ex := ex } := by
  obtain ⟨k, cs, rfl, hS, hl, hQ⟩ := h
  have hc := cut63 (l := cs.map D.int) (by simpa using hl)
  simp only [w_l_bag_0, w_l_bag_1, N_l_bag, hS, hc, stG, wSeq, wIf, wAsg, wRet, wRetN, wNext, wDrop, wP, wB, wPs, wCons, wNil, wOp, wFn, wPar, wAsgT, wTup, wLst, wNewL, setIx_eq, setA, wM1, wI, wFor, bV, bNot, bAnd, bOr, fOp, fC, fV, fCons, fNil, fCall, fIsi, fAnd, fOr, fNot, chain_le, fTup, fLst, fIf, fFn, tgN, tgT, setAll, gI, gLen, gLe, gLt, gGe, gGt, LP.gSub, gMod, gFdiv, gPow, gPlus, gTimes, gIntA, gInt, gIsN, gIx, tyA, TN.sub, LP.dataOf, A.toD, viewL, viewQ, viewT, gEq_ii, gEq_ss, gEq_bb, gEq_nn, fSl, slV, oN, oS, iL, iR1, wFnM, gFdivW, tNot', tV, wFrz, fFld, fldV, gEither, gOwnIn, gOwnBin, gOwnEq, fIsiO, gIsiO, fProp, propV, fMeth, fMake, fMakeV, twoT, viewT, iZQ, iET, Option.bind_some, Option.map_some, Option.bind_none, Option.map_none, Option.bind, Option.map, List.getElem?_cons_zero, List.getElem?_cons_succ, List.getElem?_nil, List.set_cons_zero, List.set_cons_succ, List.set_nil, if_true, if_false, ↓reduceIte, Bool.not_true, Bool.not_false, decide_true, decide_false, Bool.false_eq_true, reduceCtorEq, true_and, false_and, and_true, and_false, not_true, not_false_eq_true, List.any_cons, List.any_nil, Bool.or_false, Bool.or_true, Bool.true_or, Bool.false_or, Bool.and_true, Bool.true_and, Bool.and_false, Bool.false_and, exists_eq_left, exists_eq_left', Option.some.injEq, A.d.injEq, D.int.injEq, D.bl.injEq, D.str.injEq, D.lst.injEq, D.tup.injEq, Except.ok.injEq, List.cons_append, List.nil_append, List.map_cons, List.map_nil, List.length_cons, List.length_nil, List.replicate, Nat.reduceSub, Nat.reduceAdd, List.append_nil, eq_self, or_true, true_or, or_false, false_or, Int.reduceNeg, Int.reducePow, Int.reduceLT, Int.reduceLE, List.length_set]
  refine ⟨_, _, rfl, rfl, ?_⟩
  refine loop_inv (fun r Γ S' => ∃ (rc : List Int) (st : Int) (x : Option A), r = rc.map D.int ∧ Γ = [some (.loc k), some (.d (.int st)), x] ∧ S' = S ∧ 0 ≤ st ∧ st < 2147483579) ?_ ?_ _ _ _ ⟨cs, 10021, none, rfl, rfl, rfl, by decide, by decide⟩
  · rintro d r Γ S' nx ⟨rc, st, x, hr, rfl, rfl, h0, h1⟩ hnx
    cases rc with
    | nil => cases hr
    | cons c rc =>
      cases hr
      refine ⟨_, rfl, ?_⟩
      simp only [w_l_bag_for1_0, stG, wSeq, wIf, wAsg, wRet, wRetN, wNext, wDrop, wP, wB, wPs, wCons, wNil, wOp, wFn, wPar, wAsgT, wTup, wLst, wNewL, setIx_eq, setA, wM1, wI, wFor, bV, bNot, bAnd, bOr, fOp, fC, fV, fCons, fNil, fCall, fIsi, fAnd, fOr, fNot, chain_le, fTup, fLst, fIf, fFn, tgN, tgT, setAll, gI, gLen, gLe, gLt, gGe, gGt, LP.gSub, gMod, gFdiv, gPow, gPlus, gTimes, gIntA, gInt, gIsN, gIx, tyA, TN.sub, LP.dataOf, A.toD, viewL, viewQ, viewT, gEq_ii, gEq_ss, gEq_bb, gEq_nn, fSl, slV, oN, oS, iL, iR1, wFnM, gFdivW, tNot', tV, wFrz, fFld, fldV, gEither, gOwnIn, gOwnBin, gOwnEq, fIsiO, gIsiO, fProp, propV, fMeth, fMake, fMakeV, twoT, viewT, iZQ, iET, Option.bind_some, Option.map_some, Option.bind_none, Option.map_none, Option.bind, Option.map, List.getElem?_cons_zero, List.getElem?_cons_succ, List.getElem?_nil, List.set_cons_zero, List.set_cons_succ, List.set_nil, if_true, if_false, ↓reduceIte, Bool.not_true, Bool.not_false, decide_true, decide_false, Bool.false_eq_true, reduceCtorEq, true_and, false_and, and_true, and_false, not_true, not_false_eq_true, List.any_cons, List.any_nil, Bool.or_false, Bool.or_true, Bool.true_or, Bool.false_or, Bool.and_true, Bool.true_and, Bool.and_false, Bool.false_and, exists_eq_left, exists_eq_left', Option.some.injEq, A.d.injEq, D.int.injEq, D.bl.injEq, D.str.injEq, D.lst.injEq, D.tup.injEq, Except.ok.injEq, List.cons_append, List.nil_append, List.map_cons, List.map_nil, List.length_cons, List.length_nil, List.replicate, Nat.reduceSub, Nat.reduceAdd, List.append_nil, eq_self, or_true, true_or, or_false, false_or, Int.reduceNeg, Int.reducePow, Int.reduceLT, Int.reduceLE, List.length_set]
      exact hnx _ _ rfl ⟨rc, _, _, rfl, rfl, rfl, Int.emod_nonneg _ (by decide), Int.emod_lt_of_pos _ (by decide)⟩
  · rintro Γ S' ⟨rc, st, x, hr, rfl, rfl, h0, h1⟩
    have c := comp_ints (Γ := []) (x := x) (y := .d (.int st)) hS hl
    simp only [w_l_bag_2, c, stG, wSeq, wIf, wAsg, wRet, wRetN, wNext, wDrop, wP, wB, wPs, wCons, wNil, wOp, wFn, wPar, wAsgT, wTup, wLst, wNewL, setIx_eq, setA, wM1, wI, wFor, bV, bNot, bAnd, bOr, fOp, fC, fV, fCons, fNil, fCall, fIsi, fAnd, fOr, fNot, chain_le, fTup, fLst, fIf, fFn, tgN, tgT, setAll, gI, gLen, gLe, gLt, gGe, gGt, LP.gSub, gMod, gFdiv, gPow, gPlus, gTimes, gIntA, gInt, gIsN, gIx, tyA, TN.sub, LP.dataOf, A.toD, viewL, viewQ, viewT, gEq_ii, gEq_ss, gEq_bb, gEq_nn, fSl, slV, oN, oS, iL, iR1, wFnM, gFdivW, tNot', tV, wFrz, fFld, fldV, gEither, gOwnIn, gOwnBin, gOwnEq, fIsiO, gIsiO, fProp, propV, fMeth, fMake, fMakeV, twoT, viewT, iZQ, iET, Option.bind_some, Option.map_some, Option.bind_none, Option.map_none, Option.bind, Option.map, List.getElem?_cons_zero, List.getElem?_cons_succ, List.getElem?_nil, List.set_cons_zero, List.set_cons_succ, List.set_nil, if_true, if_false, ↓reduceIte, Bool.not_true, Bool.not_false, decide_true, decide_false, Bool.false_eq_true, reduceCtorEq, true_and, false_and, and_true, and_false, not_true, not_false_eq_true, List.any_cons, List.any_nil, Bool.or_false, Bool.or_true, Bool.true_or, Bool.false_or, Bool.and_true, Bool.true_and, Bool.and_false, Bool.false_and, exists_eq_left, exists_eq_left', Option.some.injEq, A.d.injEq, D.int.injEq, D.bl.injEq, D.str.injEq, D.lst.injEq, D.tup.injEq, Except.ok.injEq, List.cons_append, List.nil_append, List.map_cons, List.map_nil, List.length_cons, List.length_nil, List.replicate, Nat.reduceSub, Nat.reduceAdd, List.append_nil, eq_self, or_true, true_or, or_false, false_or, Int.reduceNeg, Int.reducePow, Int.reduceLT, Int.reduceLE, List.length_set]
    exact hQ _ ⟨cs, 0, 0, st, 0, rfl, h0, h1, hl⟩
end K

set_option maxHeartbeats 4000000
namespace K
open PySem PySem.Spec PyProof.Rows L2 LP
theorem oks_iff {n : Nat} {l : List PZ} : oks n l = true ↔ (∀ p ∈ l, okP p = true) ∧ l.length ≤ n := by
  unfold oks
  rw [Bool.and_eq_true, List.all_eq_true, decide_eq_true_eq]
theorem runsOf_some {d : D} {rs : List PZ} (h : runsOf d = some rs) : d = ltr rs ∧ oks 60 rs = true := by
  unfold runsOf at h
  split at h
  · rename_i l
    cases e : pairsOf l with
    | none => rw [e] at h; cases h
    | some q =>
      rw [e, Option.bind_some] at h
      split at h
      · rename_i hk
        cases h
        exact ⟨by rw [ltr, pairsOf_some e], hk⟩
      · cases h
  · cases h
theorem runsOf_ltr {rs : List PZ} (h : oks 60 rs = true) : runsOf (ltr rs) = some rs := by
  simp only [runsOf, ltr, pairsOf_map, Option.bind_some, h, if_true]
theorem spansOf_some {d : D} {ps : List PZ} (h : spansOf d = some ps) : (d = .lst (ps.map pzD) ∨ d = .tup (ps.map pzD)) ∧ oks 60 ps = true := by
  unfold spansOf at h
  split at h
  · rename_i l
    cases e : pairsOf l with
    | none => rw [e] at h; cases h
    | some q =>
      rw [e, Option.bind_some] at h
      split at h
      · rename_i hk
        cases h
        exact ⟨.inl (by rw [pairsOf_some e]), hk⟩
      · cases h
  · rename_i l
    cases e : pairsOf l with
    | none => rw [e] at h; cases h
    | some q =>
      rw [e, Option.bind_some] at h
      split at h
      · rename_i hk
        cases h
        exact ⟨.inr (by rw [pairsOf_some e]), hk⟩
      · cases h
  · cases h
theorem spansOf_lst {ps : List PZ} (h : oks 60 ps = true) : spansOf (.lst (ps.map pzD)) = some ps := by
  simp only [spansOf, pairsOf_map, Option.bind_some, h, if_true]
theorem spansOf_tup {ps : List PZ} (h : oks 60 ps = true) : spansOf (.tup (ps.map pzD)) = some ps := by
  simp only [spansOf, pairsOf_map, Option.bind_some, h, if_true]
theorem okP_b {p : PZ} (h : okP p = true) : 0 ≤ p.1 ∧ p.1 ≤ p.2 ∧ p.2 ≤ GR := of_decide_eq_true h
theorem v_is_number (ds : List D) (o : Except Er D) (h : G_is_number ds = some o) : w_is_number (stG N_is_number (ds.map A.d)) [] (dnP o) := by
  unfold G_is_number at h
  split at h
  · rename_i i a b
    cases h
    simp only [w_is_number_0, N_is_number, stG, wSeq, wIf, wAsg, wRet, wRetN, wNext, wDrop, wP, wB, wPs, wCons, wNil, wOp, wFn, wPar, wAsgT, wTup, wLst, wNewL, setIx_eq, setA, wM1, wI, wFor, bV, bNot, bAnd, bOr, fOp, fC, fV, fCons, fNil, fCall, fIsi, fAnd, fOr, fNot, chain_le, fTup, fLst, fIf, fFn, tgN, tgT, setAll, gI, gLen, gLe, gLt, gGe, gGt, LP.gSub, gMod, gFdiv, gPow, gPlus, gTimes, gIntA, gInt, gIsN, gIx, tyA, TN.sub, LP.dataOf, A.toD, viewL, viewQ, viewT, gEq_ii, gEq_ss, gEq_bb, gEq_nn, fSl, slV, oN, oS, iL, iR1, wFnM, gFdivW, tNot', tV, wFrz, fFld, fldV, gEither, gOwnIn, gOwnBin, gOwnEq, fIsiO, gIsiO, fProp, propV, fMeth, fMake, fMakeV, twoT, viewT, iZQ, iET, Option.bind_some, Option.map_some, Option.bind_none, Option.map_none, Option.bind, Option.map, List.getElem?_cons_zero, List.getElem?_cons_succ, List.getElem?_nil, List.set_cons_zero, List.set_cons_succ, List.set_nil, if_true, if_false, ↓reduceIte, Bool.not_true, Bool.not_false, decide_true, decide_false, Bool.false_eq_true, reduceCtorEq, true_and, false_and, and_true, and_false, not_true, not_false_eq_true, List.any_cons, List.any_nil, Bool.or_false, Bool.or_true, Bool.true_or, Bool.false_or, Bool.and_true, Bool.true_and, Bool.and_false, Bool.false_and, exists_eq_left, exists_eq_left', Option.some.injEq, A.d.injEq, D.int.injEq, D.bl.injEq, D.str.injEq, D.lst.injEq, D.tup.injEq, Except.ok.injEq, List.cons_append, List.nil_append, List.map_cons, List.map_nil, List.length_cons, List.length_nil, List.replicate, Nat.reduceSub, Nat.reduceAdd, List.append_nil, eq_self, or_true, true_or, or_false, false_or, Int.reduceNeg, Int.reducePow, Int.reduceLT, Int.reduceLE, List.length_set]
    by_cases h1 : a ≤ i <;> by_cases h2 : i ≤ b <;> simp [h1, h2]
  · cases h
theorem num_ok {x : Int} : G_is_number [.int x, .int 0, .int 999999999999999999] = some (.ok (.bl (decide (0 ≤ x ∧ x ≤ GR)))) := rfl
theorem v_is_span (ds : List D) (o : Except Er D) (h : G_is_span ds = some o) : w_is_span (stG N_is_span (ds.map A.d)) [] (dnP o) := by
  unfold G_is_span at h
  split at h
  · rename_i a b
    split at h
    · rename_i hk
      cases h
      obtain ⟨h1, h2, h3⟩ := okP_b hk
      have z0 : decide (0 ≤ a ∧ a ≤ GR) = true := decide_eq_true ⟨h1, by simp only at h2 h3; omega⟩
      have z1 : decide (0 ≤ b ∧ b ≤ GR) = true := decide_eq_true ⟨by simp only at h1 h2; omega, h3⟩
      have z2 : (a ≤ b) = True := eq_true h2
      have i0 : atI [D.int a, D.int b] (0 : Int) = some (.int a) := rfl
      have i1 : atI [D.int a, D.int b] (1 : Int) = some (.int b) := rfl
      simp only [w_is_span_0, w_is_span_1, N_is_span, i0, i1, num_ok, z0, z1, z2, stG, wSeq, wIf, wAsg, wRet, wRetN, wNext, wDrop, wP, wB, wPs, wCons, wNil, wOp, wFn, wPar, wAsgT, wTup, wLst, wNewL, setIx_eq, setA, wM1, wI, wFor, bV, bNot, bAnd, bOr, fOp, fC, fV, fCons, fNil, fCall, fIsi, fAnd, fOr, fNot, chain_le, fTup, fLst, fIf, fFn, tgN, tgT, setAll, gI, gLen, gLe, gLt, gGe, gGt, LP.gSub, gMod, gFdiv, gPow, gPlus, gTimes, gIntA, gInt, gIsN, gIx, tyA, TN.sub, LP.dataOf, A.toD, viewL, viewQ, viewT, gEq_ii, gEq_ss, gEq_bb, gEq_nn, fSl, slV, oN, oS, iL, iR1, wFnM, gFdivW, tNot', tV, wFrz, fFld, fldV, gEither, gOwnIn, gOwnBin, gOwnEq, fIsiO, gIsiO, fProp, propV, fMeth, fMake, fMakeV, twoT, viewT, iZQ, iET, Option.bind_some, Option.map_some, Option.bind_none, Option.map_none, Option.bind, Option.map, List.getElem?_cons_zero, List.getElem?_cons_succ, List.getElem?_nil, List.set_cons_zero, List.set_cons_succ, List.set_nil, if_true, if_false, ↓reduceIte, Bool.not_true, Bool.not_false, decide_true, decide_false, Bool.false_eq_true, reduceCtorEq, true_and, false_and, and_true, and_false, not_true, not_false_eq_true, List.any_cons, List.any_nil, Bool.or_false, Bool.or_true, Bool.true_or, Bool.false_or, Bool.and_true, Bool.true_and, Bool.and_false, Bool.false_and, exists_eq_left, exists_eq_left', Option.some.injEq, A.d.injEq, D.int.injEq, D.bl.injEq, D.str.injEq, D.lst.injEq, D.tup.injEq, Except.ok.injEq, List.cons_append, List.nil_append, List.map_cons, List.map_nil, List.length_cons, List.length_nil, List.replicate, Nat.reduceSub, Nat.reduceAdd, List.append_nil, eq_self, or_true, true_or, or_false, false_or, Int.reduceNeg, Int.reducePow, Int.reduceLT, Int.reduceLE, List.length_set]
      exact ⟨false, rfl, trivial⟩
    · cases h
  · cases h

/-! joining -/
theorem atlast {α : Type} (l : List α) (q : α) : atI (l ++ [q]) (-1 : Int) = some q := by
  have e : ixN (l ++ [q]).length (-1 : Int) = some l.length := by
    unfold ixN
    rw [if_neg (by decide), List.length_append, List.length_singleton, if_pos (by omega)]
    congr 1
    omega
  rw [atI, e, Option.bind_some, List.getElem?_append_right (Nat.le_refl _), Nat.sub_self]
  rfl
theorem atlen {α : Type} (l : List α) (q : α) : atI (l ++ [q]) (((l ++ [q]).length : Int) - 1) = some q := by
  have e : ixN (l ++ [q]).length (((l ++ [q]).length : Int) - 1) = some l.length := by
    unfold ixN
    rw [List.length_append, List.length_singleton, if_pos (by omega), if_pos (by omega)]
    congr 1
    omega
  rw [atI, e, Option.bind_some, List.getElem?_append_right (Nat.le_refl _), Nat.sub_self]
  rfl
theorem map_split {l : List PZ} {q : PZ} (h : l.getLast? = some q) : l.map pzD = l.dropLast.map pzD ++ [pzD q] := by
  have e := last_split h
  have : l.map pzD = (l.dropLast ++ [q]).map pzD := by rw [← e]
  rw [this, List.map_append]
  rfl
def accO (acc : List PZ) : MO := .lst ((acc.map pzD).map .d)
theorem eq_loc {S : So} {k : Nat} {acc : List PZ} (neg : Bool) (h : S[k]? = some (accO acc)) : gEqU neg S (.loc k) (.d (.lst [])) = some (.bl (if neg then !decide (acc = []) else decide (acc = []))) := by
  have e := deq_pairs acc []
  simp only [gEqU, gEq, valD, viewL, h, accO, dataOf_map, Option.map_some, Option.bind_some]
  rw [show (D.lst ([] : List D)) = .lst (([] : List PZ).map pzD) from rfl, e]
  rfl
theorem at_pair0 (p : PZ) : atI [D.int p.1, D.int p.2] (0 : Int) = some (.int p.1) := rfl
theorem at_pair1 (p : PZ) : atI [D.int p.1, D.int p.2] (1 : Int) = some (.int p.2) := rfl
theorem big60 {n : Nat} (h : n ≤ 60) : (n < sizeLine) = True := eq_true (Nat.lt_of_le_of_lt h (by decide))
theorem lm_app {f : QF} {fa : QFs} {Γ : Ga} {S : So} {ex : EK} {Q : AK} {k : Nat} {l : List A} {a : A} (h1 : f Γ S = some (.loc k)) (h2 : S[k]? = some (.lst l)) (h3 : fa Γ S = some [a]) (hl : l.length < sizeLine) (q : Q (.d .non) (S.set k (.lst (l ++ [a])))) : wLM gApp (wP f) (wPs fa) Γ S ex Q := by
  refine ⟨_, h1, k, l, rfl, h2, _, h3, l, l ++ [a], .d .non, h2, ?_, q⟩
  simp only [gApp, if_pos hl]
theorem lenA (l : List PZ) : ((l.map pzD).map A.d).length = l.length := by rw [List.length_map, List.length_map]
theorem join_turn {x0 x2 x3 : Option A} {acc : List PZ} {p : PZ} {E : Dn} (hl : acc.length ≤ 60) (hE : ∀ Γ S', S' = [accO (jstep acc p)] → Γ = [x0, some (.loc 0), some (.d (.int p.1)), some (.d (.int p.2))] → E.nx Γ S') :
    w_joined_for1_0 [x0, some (.loc 0), some (.d (.int p.1)), some (.d (.int p.2))] [accO acc] E := by
  have e0 := eq_loc (S := [accO acc]) (k := 0) true rfl
  have hz : ((acc.map pzD).map A.d).length < sizeLine := by rw [lenA]; exact of_eq_true (big60 hl)
  cases hg : acc.getLast? with
  | none =>
    have hn : acc = [] := by
      cases acc with
      | nil => rfl
      | cons a b => simp at hg
    subst hn
    have hd : decide (([] : List PZ) = []) = true := rfl
    have e0' : gEqU true [accO []] (.loc 0) (.d (.lst [])) = some (.bl false) := by rw [e0, hd]; rfl
    simp only [w_joined_for1_0, e0', stG, wSeq, wIf, wAsg, wRet, wRetN, wNext, wB, wCons, wNil, wOp, wFn, wPar, wAsgT, wTup, wLst, wNewL, setIx_eq, setA, wM1, wI, wFor, bV, bNot, bAnd, bOr, fOp, fC, fV, fCons, fNil, fCall, fIsi, fAnd, fOr, fNot, chain_le, fTup, fLst, fIf, fFn, tgN, tgT, setAll, gI, gLen, gLe, gLt, gGe, gGt, LP.gSub, gMod, gFdiv, gPow, gPlus, gTimes, gIntA, gInt, gIsN, gIx, tyA, TN.sub, LP.dataOf, A.toD, viewL, viewQ, viewT, gEq_ii, gEq_ss, gEq_bb, gEq_nn, fSl, slV, oN, oS, iL, iR1, wFnM, gFdivW, tNot', tV, wFrz, fFld, fldV, gEither, gOwnIn, gOwnBin, gOwnEq, fIsiO, gIsiO, fProp, propV, fMeth, fMake, fMakeV, twoT, viewT, iZQ, iET, Option.bind_some, Option.map_some, Option.bind_none, Option.map_none, Option.bind, Option.map, List.getElem?_cons_zero, List.getElem?_cons_succ, List.getElem?_nil, List.set_cons_zero, List.set_cons_succ, List.set_nil, if_true, if_false, ↓reduceIte, Bool.not_true, Bool.not_false, decide_true, decide_false, Bool.false_eq_true, reduceCtorEq, true_and, false_and, and_true, and_false, not_true, not_false_eq_true, List.any_cons, List.any_nil, Bool.or_false, Bool.or_true, Bool.true_or, Bool.false_or, Bool.and_true, Bool.true_and, Bool.and_false, Bool.false_and, exists_eq_left, exists_eq_left', Option.some.injEq, A.d.injEq, D.int.injEq, D.bl.injEq, D.str.injEq, D.lst.injEq, D.tup.injEq, Except.ok.injEq, List.cons_append, List.nil_append, List.map_cons, List.map_nil, List.length_cons, List.length_nil, List.replicate, Nat.reduceSub, Nat.reduceAdd, List.append_nil, eq_self, or_true, true_or, or_false, false_or, Int.reduceNeg, Int.reducePow, Int.reduceLT, Int.reduceLE, List.length_set]
    exact lm_app (l := []) rfl rfl rfl (by decide) (hE _ _ rfl rfl)
  | some q =>
    have hne : decide (acc = []) = false := decide_eq_false (by rintro rfl; cases hg)
    have hms := map_split hg
    have e0' : gEqU true [accO acc] (.loc 0) (.d (.lst [])) = some (.bl true) := by rw [e0, hne]; rfl
    have e1 : viewL [accO acc] (.loc 0) = some (acc.map pzD) := by simp only [viewL, accO, List.getElem?_cons_zero, dataOf_map]
    have e2 : gIx [accO acc] (.loc 0) (.d (.int (-1))) = some (.tup [.int q.1, .int q.2]) := by
      simp only [gIx, viewQ, e1, Option.bind_some]
      rw [hms, atlast]
      rfl
    have z0 : gIx [accO acc] (.d (.tup [.int q.1, .int q.2])) (.d (.int 0)) = some (.int q.1) := rfl
    have z1 : gIx [accO acc] (.d (.tup [.int q.1, .int q.2])) (.d (.int 1)) = some (.int q.2) := rfl
    by_cases hc : p.1 ≤ q.2 + 1
    · have hc' := eq_true hc
      simp only [w_joined_for1_0, e0', e2, z0, z1, hc', setIx_eq, gMax2, g2, fNeg, stG, wSeq, wIf, wAsg, wRet, wRetN, wNext, wDrop, wP, wB, wPs, wCons, wNil, wOp, wFn, wPar, wAsgT, wTup, wLst, wNewL, setIx_eq, wM1, wI, wFor, bV, bNot, bAnd, bOr, fOp, fC, fV, fCons, fNil, fCall, fIsi, fAnd, fOr, fNot, chain_le, fTup, fLst, fIf, fFn, tgN, tgT, setAll, gI, gLen, gLe, gLt, gGe, gGt, LP.gSub, gMod, gFdiv, gPow, gPlus, gTimes, gIntA, gInt, gIsN, tyA, TN.sub, LP.dataOf, A.toD, viewT, gEq_ii, gEq_ss, gEq_bb, gEq_nn, fSl, slV, oN, oS, iL, iR1, wFnM, gFdivW, tNot', tV, wFrz, fFld, fldV, gEither, gOwnIn, gOwnBin, gOwnEq, fIsiO, gIsiO, fProp, propV, fMeth, fMake, fMakeV, twoT, viewT, iZQ, iET, Option.bind_some, Option.map_some, Option.bind_none, Option.map_none, Option.bind, Option.map, List.getElem?_cons_zero, List.getElem?_cons_succ, List.getElem?_nil, List.set_cons_zero, List.set_cons_succ, List.set_nil, if_true, if_false, ↓reduceIte, Bool.not_true, Bool.not_false, decide_true, decide_false, Bool.false_eq_true, reduceCtorEq, true_and, false_and, and_true, and_false, not_true, not_false_eq_true, List.any_cons, List.any_nil, Bool.or_false, Bool.or_true, Bool.true_or, Bool.false_or, Bool.and_true, Bool.true_and, Bool.and_false, Bool.false_and, exists_eq_left, exists_eq_left', Option.some.injEq, A.d.injEq, D.int.injEq, D.bl.injEq, D.str.injEq, D.lst.injEq, D.tup.injEq, Except.ok.injEq, List.cons_append, List.nil_append, List.map_cons, List.map_nil, List.length_cons, List.length_nil, List.replicate, Nat.reduceSub, Nat.reduceAdd, List.append_nil, eq_self, or_true, true_or, or_false, false_or, Int.reduceNeg, Int.reducePow, Int.reduceLT, Int.reduceLE, List.length_set]
      refine ⟨[accO (jstep acc p)], ?_, hE _ _ rfl rfl⟩
      have hi : ixN ((acc.map pzD).map A.d).length (-1 : Int) = some (acc.length - 1) := by
        rw [lenA]
        have : 0 < acc.length := by
          cases acc with
          | nil => cases hg
          | cons => simp
        unfold ixN
        rw [if_neg (by decide), if_pos (by omega)]
        congr 1
        omega
      simp only [setA, List.getElem?_cons_zero, accO, hi, Option.map_some]
      have e3 : jstep acc p = acc.dropLast ++ [(q.1, max q.2 p.2)] := by simp only [jstep, hg, if_pos hc]
      have hmx : (if p.2 > q.2 then p.2 else q.2) = max q.2 p.2 := by split <;> omega
      have hsp := last_split hg
      rw [e3, hmx]
      congr 1
      rw [List.set_cons_zero]
      congr 2
      generalize acc.dropLast = a at hsp
      subst hsp
      simp [pzD, List.set_append]
    · have hc' := eq_false hc
      simp only [w_joined_for1_0, e0', e2, z0, z1, hc', fNeg, stG, wSeq, wIf, wAsg, wRet, wRetN, wNext, wB, wCons, wNil, wOp, wFn, wPar, wAsgT, wTup, wLst, wNewL, setIx_eq, setA, wM1, wI, wFor, bV, bNot, bAnd, bOr, fOp, fC, fV, fCons, fNil, fCall, fIsi, fAnd, fOr, fNot, chain_le, fTup, fLst, fIf, fFn, tgN, tgT, setAll, gI, gLen, gLe, gLt, gGe, gGt, LP.gSub, gMod, gFdiv, gPow, gPlus, gTimes, gIntA, gInt, gIsN, tyA, TN.sub, LP.dataOf, A.toD, viewT, gEq_ii, gEq_ss, gEq_bb, gEq_nn, fSl, slV, oN, oS, iL, iR1, wFnM, gFdivW, tNot', tV, wFrz, fFld, fldV, gEither, gOwnIn, gOwnBin, gOwnEq, fIsiO, gIsiO, fProp, propV, fMeth, fMake, fMakeV, twoT, viewT, iZQ, iET, Option.bind_some, Option.map_some, Option.bind_none, Option.map_none, Option.bind, Option.map, List.getElem?_cons_zero, List.getElem?_cons_succ, List.getElem?_nil, List.set_cons_zero, List.set_cons_succ, List.set_nil, if_true, if_false, ↓reduceIte, Bool.not_true, Bool.not_false, decide_true, decide_false, Bool.false_eq_true, reduceCtorEq, true_and, false_and, and_true, and_false, not_true, not_false_eq_true, List.any_cons, List.any_nil, Bool.or_false, Bool.or_true, Bool.true_or, Bool.false_or, Bool.and_true, Bool.true_and, Bool.and_false, Bool.false_and, exists_eq_left, exists_eq_left', Option.some.injEq, A.d.injEq, D.int.injEq, D.bl.injEq, D.str.injEq, D.lst.injEq, D.tup.injEq, Except.ok.injEq, List.cons_append, List.nil_append, List.map_cons, List.map_nil, List.length_cons, List.length_nil, List.replicate, Nat.reduceSub, Nat.reduceAdd, List.append_nil, eq_self, or_true, true_or, or_false, false_or, Int.reduceNeg, Int.reducePow, Int.reduceLT, Int.reduceLE, List.length_set]
      have e3 : jstep acc p = acc ++ [p] := by simp only [jstep, hg, if_neg hc]
      refine lm_app (l := (acc.map pzD).map A.d) rfl rfl rfl hz (hE _ _ ?_ rfl)
      rw [e3]
      simp [accO, pzD]
end K

set_option maxHeartbeats 4000000
namespace K
open PySem PySem.Spec PyProof.Rows L2 LP
theorem ok_inB {p : PZ} (h : okP p = true) : inB p = true := by
  obtain ⟨h1, h2, h3⟩ := okP_b h
  simp only [inB, Bool.and_eq_true, decide_eq_true_eq, BIG]
  unfold GR at h3
  omega
theorem span_view {S : So} {d : D} {ps : List PZ} (h : spansOf d = some ps) : viewQ S (.d d) = some (ps.map pzD) := by
  obtain ⟨h1, h2⟩ := spansOf_some h
  rcases h1 with rfl | rfl <;> rfl
theorem sort_view {S : So} {d : D} {ps : List PZ} (h : spansOf d = some ps) : gSortP S [.d d] = some (.lst ((sortP ps).map pzD)) := by
  obtain ⟨ho, hl⟩ := oks_iff.mp (spansOf_some h).2
  simp only [gSortP, span_view h, Option.bind_some, pairsOf_map]
  rw [if_pos ⟨by omega, List.all_eq_true.mpr fun p hp => ok_inB (ho p hp)⟩]
theorem frz_acc (acc : List PZ) : frz [accO acc] (.loc 0) = some (.lst (acc.map pzD), [.frz (.lst (acc.map pzD))]) := by
  simp only [frz, accO, List.getElem?_cons_zero, dataOf_map, Option.map_some, List.set_cons_zero]
theorem v_joined (ds : List D) (o : Except Er D) (h : G_joined ds = some o) : w_joined (stG N_joined (ds.map A.d)) [] (dnP o) := by
  unfold G_joined at h
  split at h
  · rename_i d
    cases e : spansOf d with
    | none => rw [e] at h; cases h
    | some ps =>
      rw [e] at h; cases h
      have hs := sort_view (S := [MO.lst []]) e
      obtain ⟨ho, hl⟩ := oks_iff.mp (spansOf_some e).2
      simp only [w_joined_0, w_joined_1, N_joined, hs, stG, wSeq, wIf, wAsg, wRet, wRetN, wNext, wDrop, wP, wB, wPs, wCons, wNil, wOp, wFn, wPar, wAsgT, wTup, wLst, wNewL, setIx_eq, setA, wM1, wI, wFor, bV, bNot, bAnd, bOr, fOp, fC, fV, fCons, fNil, fCall, fIsi, fAnd, fOr, fNot, chain_le, fTup, fLst, fIf, fFn, tgN, tgT, setAll, gI, gLen, gLe, gLt, gGe, gGt, LP.gSub, gMod, gFdiv, gPow, gPlus, gTimes, gIntA, gInt, gIsN, gIx, tyA, TN.sub, LP.dataOf, A.toD, viewL, viewQ, viewT, gEq_ii, gEq_ss, gEq_bb, gEq_nn, fSl, slV, oN, oS, iL, iR1, wFnM, gFdivW, tNot', tV, wFrz, fFld, fldV, gEither, gOwnIn, gOwnBin, gOwnEq, fIsiO, gIsiO, fProp, propV, fMeth, fMake, fMakeV, twoT, viewT, iZQ, iET, Option.bind_some, Option.map_some, Option.bind_none, Option.map_none, Option.bind, Option.map, List.getElem?_cons_zero, List.getElem?_cons_succ, List.getElem?_nil, List.set_cons_zero, List.set_cons_succ, List.set_nil, if_true, if_false, ↓reduceIte, Bool.not_true, Bool.not_false, decide_true, decide_false, Bool.false_eq_true, reduceCtorEq, true_and, false_and, and_true, and_false, not_true, not_false_eq_true, List.any_cons, List.any_nil, Bool.or_false, Bool.or_true, Bool.true_or, Bool.false_or, Bool.and_true, Bool.true_and, Bool.and_false, Bool.false_and, exists_eq_left, exists_eq_left', Option.some.injEq, A.d.injEq, D.int.injEq, D.bl.injEq, D.str.injEq, D.lst.injEq, D.tup.injEq, Except.ok.injEq, List.cons_append, List.nil_append, List.map_cons, List.map_nil, List.length_cons, List.length_nil, List.replicate, Nat.reduceSub, Nat.reduceAdd, List.append_nil, eq_self, or_true, true_or, or_false, false_or, Int.reduceNeg, Int.reducePow, Int.reduceLT, Int.reduceLE, List.length_set]
      refine ⟨_, _, rfl, rfl, ?_⟩
      refine loop_inv (fun r Γ S' => ∃ (rp acc : List PZ) (x2 x3 : Option A), r = rp.map pzD ∧ Γ = [some (.d d), some (.loc 0), x2, x3] ∧ S' = [accO acc] ∧ acc.length + rp.length ≤ 60 ∧ rp.foldl jstep acc = joinL ps) ?_ ?_ _ _ _ ⟨sortP ps, [], none, none, rfl, rfl, rfl, ?_, rfl⟩
      · rintro d' r Γ S' nx ⟨rp, acc, x2, x3, hr, rfl, rfl, hn, hj⟩ hnx
        cases rp with
        | nil => cases hr
        | cons p rp =>
          cases hr
          rw [List.length_cons] at hn
          refine ⟨_, rfl, join_turn (x2 := x2) (x3 := x3) (by omega) fun Γ S' hS hΓ => hnx _ _ rfl ⟨rp, jstep acc p, _, _, rfl, hΓ, hS, ?_, hj⟩⟩
          have := jstep_len acc p
          omega
      · rintro Γ S' ⟨rp, acc, x2, x3, hr, rfl, rfl, hn, hj⟩
        cases rp with
        | cons => cases hr
        | nil =>
          have hj' : acc = joinL ps := hj
          simp only [w_joined_2, frz_acc, stG, wSeq, wIf, wAsg, wRet, wRetN, wNext, wDrop, wP, wB, wPs, wCons, wNil, wOp, wFn, wPar, wAsgT, wTup, wLst, wNewL, setIx_eq, setA, wM1, wI, wFor, bV, bNot, bAnd, bOr, fOp, fC, fV, fCons, fNil, fCall, fIsi, fAnd, fOr, fNot, chain_le, fTup, fLst, fIf, fFn, tgN, tgT, setAll, gI, gLen, gLe, gLt, gGe, gGt, LP.gSub, gMod, gFdiv, gPow, gPlus, gTimes, gIntA, gInt, gIsN, gIx, tyA, TN.sub, LP.dataOf, A.toD, viewL, viewQ, viewT, gEq_ii, gEq_ss, gEq_bb, gEq_nn, fSl, slV, oN, oS, iL, iR1, wFnM, gFdivW, tNot', tV, wFrz, fFld, fldV, gEither, gOwnIn, gOwnBin, gOwnEq, fIsiO, gIsiO, fProp, propV, fMeth, fMake, fMakeV, twoT, viewT, iZQ, iET, Option.bind_some, Option.map_some, Option.bind_none, Option.map_none, Option.bind, Option.map, List.getElem?_cons_zero, List.getElem?_cons_succ, List.getElem?_nil, List.set_cons_zero, List.set_cons_succ, List.set_nil, if_true, if_false, ↓reduceIte, Bool.not_true, Bool.not_false, decide_true, decide_false, Bool.false_eq_true, reduceCtorEq, true_and, false_and, and_true, and_false, not_true, not_false_eq_true, List.any_cons, List.any_nil, Bool.or_false, Bool.or_true, Bool.true_or, Bool.false_or, Bool.and_true, Bool.true_and, Bool.and_false, Bool.false_and, exists_eq_left, exists_eq_left', Option.some.injEq, A.d.injEq, D.int.injEq, D.bl.injEq, D.str.injEq, D.lst.injEq, D.tup.injEq, Except.ok.injEq, List.cons_append, List.nil_append, List.map_cons, List.map_nil, List.length_cons, List.length_nil, List.replicate, Nat.reduceSub, Nat.reduceAdd, List.append_nil, eq_self, or_true, true_or, or_false, false_or, Int.reduceNeg, Int.reducePow, Int.reduceLT, Int.reduceLE, List.length_set]
          rw [hj']
          exact ⟨_, _, rfl, rfl⟩
      · rw [(sortP_perm ps).length_eq]; simpa using hl
  · cases h
theorem lm_pop {f : QF} {Γ : Ga} {S : So} {ex : EK} {Q : AK} {k : Nat} {l : List A} {a : A} (h1 : f Γ S = some (.loc k)) (h2 : S[k]? = some (.lst (l ++ [a]))) (q : Q a (S.set k (.lst l))) : wLM gPop (wP f) wNil Γ S ex Q := by
  refine ⟨_, h1, k, l ++ [a], rfl, h2, l ++ [a], l, a, h2, ?_, q⟩
  simp [gPop]
theorem runs_turn {x0 x2 x3 x4 : Option A} {acc : List PZ} {p : PZ} {E : Dn} (hl : acc.length ≤ 60) (hE : ∀ Γ S' z4, S' = [accO (jstep acc p)] → Γ = [x0, some (.loc 0), some (.d (.int p.1)), some (.d (.int p.2)), z4] → E.nx Γ S') :
    w_l_runs_for1_0 [x0, some (.loc 0), some (.d (.int p.1)), some (.d (.int p.2)), x4] [accO acc] E := by
  have e0 := eq_loc (S := [accO acc]) (k := 0) true rfl
  have hz : ((acc.map pzD).map A.d).length < sizeLine := by rw [lenA]; exact of_eq_true (big60 hl)
  cases hg : acc.getLast? with
  | none =>
    have hn : acc = [] := by
      cases acc with
      | nil => rfl
      | cons a b => simp at hg
    subst hn
    have hd : decide (([] : List PZ) = []) = true := rfl
    have e0' : gEqU true [accO []] (.loc 0) (.d (.lst [])) = some (.bl false) := by rw [e0, hd]; rfl
    simp only [w_l_runs_for1_0, e0', stG, wSeq, wIf, wAsg, wRet, wRetN, wNext, wB, wCons, wNil, wOp, wFn, wPar, wAsgT, wTup, wLst, wNewL, setIx_eq, setA, wM1, wI, wFor, bV, bNot, bAnd, bOr, fOp, fC, fV, fCons, fNil, fCall, fIsi, fAnd, fOr, fNot, chain_le, fTup, fLst, fIf, fFn, tgN, tgT, setAll, gI, gLen, gLe, gLt, gGe, gGt, LP.gSub, gMod, gFdiv, gPow, gPlus, gTimes, gIntA, gInt, gIsN, gIx, tyA, TN.sub, LP.dataOf, A.toD, viewL, viewQ, viewT, gEq_ii, gEq_ss, gEq_bb, gEq_nn, fSl, slV, oN, oS, iL, iR1, wFnM, gFdivW, tNot', tV, wFrz, fFld, fldV, gEither, gOwnIn, gOwnBin, gOwnEq, fIsiO, gIsiO, fProp, propV, fMeth, fMake, fMakeV, twoT, viewT, iZQ, iET, Option.bind_some, Option.map_some, Option.bind_none, Option.map_none, Option.bind, Option.map, List.getElem?_cons_zero, List.getElem?_cons_succ, List.getElem?_nil, List.set_cons_zero, List.set_cons_succ, List.set_nil, if_true, if_false, ↓reduceIte, Bool.not_true, Bool.not_false, decide_true, decide_false, Bool.false_eq_true, reduceCtorEq, true_and, false_and, and_true, and_false, not_true, not_false_eq_true, List.any_cons, List.any_nil, Bool.or_false, Bool.or_true, Bool.true_or, Bool.false_or, Bool.and_true, Bool.true_and, Bool.and_false, Bool.false_and, exists_eq_left, exists_eq_left', Option.some.injEq, A.d.injEq, D.int.injEq, D.bl.injEq, D.str.injEq, D.lst.injEq, D.tup.injEq, Except.ok.injEq, List.cons_append, List.nil_append, List.map_cons, List.map_nil, List.length_cons, List.length_nil, List.replicate, Nat.reduceSub, Nat.reduceAdd, List.append_nil, eq_self, or_true, true_or, or_false, false_or, Int.reduceNeg, Int.reducePow, Int.reduceLT, Int.reduceLE, List.length_set]
    exact lm_app (l := []) rfl rfl rfl (by decide) (hE _ _ _ rfl rfl)
  | some q =>
    have hne : decide (acc = []) = false := decide_eq_false (by rintro rfl; cases hg)
    have hms := map_split hg
    have e0' : gEqU true [accO acc] (.loc 0) (.d (.lst [])) = some (.bl true) := by rw [e0, hne]; rfl
    have e1 : viewL [accO acc] (.loc 0) = some (acc.map pzD) := by simp only [viewL, accO, List.getElem?_cons_zero, dataOf_map]
    have e2 : gIx [accO acc] (.loc 0) (.d (.int ((acc.length : Int) - 1))) = some (.tup [.int q.1, .int q.2]) := by
      have el : (acc.length : Int) = ((acc.map pzD).length : Int) := by rw [List.length_map]
      simp only [gIx, viewQ, e1, Option.bind_some]
      rw [el, hms, atlen]
      rfl
    have e4 : gLen [accO acc] [.loc 0] = some (.int acc.length) := by
      simp only [gLen, viewQ, e1, Option.map_some, List.length_map]
    have z1 : gIx [accO acc] (.d (.tup [.int q.1, .int q.2])) (.d (.int 1)) = some (.int q.2) := rfl
    by_cases hc : p.1 ≤ q.2 + 1
    · have hc' := eq_true hc
      have hsp := last_split hg
      have e3 : jstep acc p = acc.dropLast ++ [(q.1, max q.2 p.2)] := by simp only [jstep, hg, if_pos hc]
      have hmx : (if p.2 > q.2 then p.2 else q.2) = max q.2 p.2 := by split <;> omega
      rw [hmx.symm] at e3
      simp only [w_l_runs_for1_0, e0', e4, e2, z1, hc', fNeg, stG, wSeq, wIf, wAsg, wRet, wRetN, wNext, wB, wCons, wNil, wOp, wFn, wPar, wAsgT, wTup, wLst, wNewL, setIx_eq, setA, wM1, wI, wFor, bV, bNot, bAnd, bOr, fOp, fC, fV, fCons, fNil, fCall, fIsi, fAnd, fOr, fNot, chain_le, fTup, fLst, fIf, fFn, tgN, tgT, setAll, gI, gLe, gLt, gGe, gGt, LP.gSub, gMod, gFdiv, gPow, gPlus, gTimes, gIntA, gInt, gIsN, tyA, TN.sub, LP.dataOf, A.toD, viewT, gEq_ii, gEq_ss, gEq_bb, gEq_nn, fSl, slV, oN, oS, iL, iR1, wFnM, gFdivW, tNot', tV, wFrz, fFld, fldV, gEither, gOwnIn, gOwnBin, gOwnEq, fIsiO, gIsiO, fProp, propV, fMeth, fMake, fMakeV, twoT, viewT, iZQ, iET, Option.bind_some, Option.map_some, Option.bind_none, Option.map_none, Option.bind, Option.map, List.getElem?_cons_zero, List.getElem?_cons_succ, List.getElem?_nil, List.set_cons_zero, List.set_cons_succ, List.set_nil, if_true, if_false, ↓reduceIte, Bool.not_true, Bool.not_false, decide_true, decide_false, Bool.false_eq_true, reduceCtorEq, true_and, false_and, and_true, and_false, not_true, not_false_eq_true, List.any_cons, List.any_nil, Bool.or_false, Bool.or_true, Bool.true_or, Bool.false_or, Bool.and_true, Bool.true_and, Bool.and_false, Bool.false_and, exists_eq_left, exists_eq_left', Option.some.injEq, A.d.injEq, D.int.injEq, D.bl.injEq, D.str.injEq, D.lst.injEq, D.tup.injEq, Except.ok.injEq, List.cons_append, List.nil_append, List.map_cons, List.map_nil, List.length_cons, List.length_nil, List.replicate, Nat.reduceSub, Nat.reduceAdd, List.append_nil, eq_self, or_true, true_or, or_false, false_or, Int.reduceNeg, Int.reducePow, Int.reduceLT, Int.reduceLE, List.length_set]
      refine lm_pop (a := .d (.tup [.int q.1, .int q.2])) (l := (acc.dropLast.map pzD).map A.d) rfl ?_ ?_
      · show some (accO acc) = _
        have : acc.map pzD = acc.dropLast.map pzD ++ [pzD q] := hms
        rw [accO, this, List.map_append]
        rfl
      · refine lm_app (a := .d (.tup [.int q.1, .int (if p.2 > q.2 then p.2 else q.2)])) (l := (acc.dropLast.map pzD).map A.d) rfl rfl ?_ (by rw [lenA, List.length_dropLast]; exact of_eq_true (big60 (by omega))) (hE _ _ _ ?_ rfl)
        · rfl
        · rw [e3]
          simp [accO, pzD]
    · have hc' := eq_false hc
      simp only [w_l_runs_for1_0, e0', e4, e2, z1, hc', fNeg, stG, wSeq, wIf, wAsg, wRet, wRetN, wNext, wB, wCons, wNil, wOp, wFn, wPar, wAsgT, wTup, wLst, wNewL, setIx_eq, setA, wM1, wI, wFor, bV, bNot, bAnd, bOr, fOp, fC, fV, fCons, fNil, fCall, fIsi, fAnd, fOr, fNot, chain_le, fTup, fLst, fIf, fFn, tgN, tgT, setAll, gI, gLe, gLt, gGe, gGt, LP.gSub, gMod, gFdiv, gPow, gPlus, gTimes, gIntA, gInt, gIsN, tyA, TN.sub, LP.dataOf, A.toD, viewT, gEq_ii, gEq_ss, gEq_bb, gEq_nn, fSl, slV, oN, oS, iL, iR1, wFnM, gFdivW, tNot', tV, wFrz, fFld, fldV, gEither, gOwnIn, gOwnBin, gOwnEq, fIsiO, gIsiO, fProp, propV, fMeth, fMake, fMakeV, twoT, viewT, iZQ, iET, Option.bind_some, Option.map_some, Option.bind_none, Option.map_none, Option.bind, Option.map, List.getElem?_cons_zero, List.getElem?_cons_succ, List.getElem?_nil, List.set_cons_zero, List.set_cons_succ, List.set_nil, if_true, if_false, ↓reduceIte, Bool.not_true, Bool.not_false, decide_true, decide_false, Bool.false_eq_true, reduceCtorEq, true_and, false_and, and_true, and_false, not_true, not_false_eq_true, List.any_cons, List.any_nil, Bool.or_false, Bool.or_true, Bool.true_or, Bool.false_or, Bool.and_true, Bool.true_and, Bool.and_false, Bool.false_and, exists_eq_left, exists_eq_left', Option.some.injEq, A.d.injEq, D.int.injEq, D.bl.injEq, D.str.injEq, D.lst.injEq, D.tup.injEq, Except.ok.injEq, List.cons_append, List.nil_append, List.map_cons, List.map_nil, List.length_cons, List.length_nil, List.replicate, Nat.reduceSub, Nat.reduceAdd, List.append_nil, eq_self, or_true, true_or, or_false, false_or, Int.reduceNeg, Int.reducePow, Int.reduceLT, Int.reduceLE, List.length_set]
      have e3 : jstep acc p = acc ++ [p] := by simp only [jstep, hg, if_neg hc]
      refine lm_app (l := (acc.map pzD).map A.d) rfl rfl rfl hz (hE _ _ _ ?_ rfl)
      rw [e3]
      simp [accO, pzD]
theorem v_l_runs (ds : List D) (o : Except Er D) (h : G_joined ds = some o) : w_l_runs (stG N_l_runs (ds.map A.d)) [] (dnP o) := by
  unfold G_joined at h
  split at h
  · rename_i d
    cases e : spansOf d with
    | none => rw [e] at h; cases h
    | some ps =>
      rw [e] at h; cases h
      have hs := sort_view (S := [MO.lst []]) e
      obtain ⟨ho, hl⟩ := oks_iff.mp (spansOf_some e).2
      simp only [w_l_runs_0, w_l_runs_1, N_l_runs, hs, stG, wSeq, wIf, wAsg, wRet, wRetN, wNext, wDrop, wP, wB, wPs, wCons, wNil, wOp, wFn, wPar, wAsgT, wTup, wLst, wNewL, setIx_eq, setA, wM1, wI, wFor, bV, bNot, bAnd, bOr, fOp, fC, fV, fCons, fNil, fCall, fIsi, fAnd, fOr, fNot, chain_le, fTup, fLst, fIf, fFn, tgN, tgT, setAll, gI, gLen, gLe, gLt, gGe, gGt, LP.gSub, gMod, gFdiv, gPow, gPlus, gTimes, gIntA, gInt, gIsN, gIx, tyA, TN.sub, LP.dataOf, A.toD, viewL, viewQ, viewT, gEq_ii, gEq_ss, gEq_bb, gEq_nn, fSl, slV, oN, oS, iL, iR1, wFnM, gFdivW, tNot', tV, wFrz, fFld, fldV, gEither, gOwnIn, gOwnBin, gOwnEq, fIsiO, gIsiO, fProp, propV, fMeth, fMake, fMakeV, twoT, viewT, iZQ, iET, Option.bind_some, Option.map_some, Option.bind_none, Option.map_none, Option.bind, Option.map, List.getElem?_cons_zero, List.getElem?_cons_succ, List.getElem?_nil, List.set_cons_zero, List.set_cons_succ, List.set_nil, if_true, if_false, ↓reduceIte, Bool.not_true, Bool.not_false, decide_true, decide_false, Bool.false_eq_true, reduceCtorEq, true_and, false_and, and_true, and_false, not_true, not_false_eq_true, List.any_cons, List.any_nil, Bool.or_false, Bool.or_true, Bool.true_or, Bool.false_or, Bool.and_true, Bool.true_and, Bool.and_false, Bool.false_and, exists_eq_left, exists_eq_left', Option.some.injEq, A.d.injEq, D.int.injEq, D.bl.injEq, D.str.injEq, D.lst.injEq, D.tup.injEq, Except.ok.injEq, List.cons_append, List.nil_append, List.map_cons, List.map_nil, List.length_cons, List.length_nil, List.replicate, Nat.reduceSub, Nat.reduceAdd, List.append_nil, eq_self, or_true, true_or, or_false, false_or, Int.reduceNeg, Int.reducePow, Int.reduceLT, Int.reduceLE, List.length_set]
      refine ⟨_, _, rfl, rfl, ?_⟩
      refine loop_inv (fun r Γ S' => ∃ (rp acc : List PZ) (x2 x3 x4 : Option A), r = rp.map pzD ∧ Γ = [some (.d d), some (.loc 0), x2, x3, x4] ∧ S' = [accO acc] ∧ acc.length + rp.length ≤ 60 ∧ rp.foldl jstep acc = joinL ps) ?_ ?_ _ _ _ ⟨sortP ps, [], none, none, none, rfl, rfl, rfl, ?_, rfl⟩
      · rintro d' r Γ S' nx ⟨rp, acc, x2, x3, x4, hr, rfl, rfl, hn, hj⟩ hnx
        cases rp with
        | nil => cases hr
        | cons p rp =>
          cases hr
          rw [List.length_cons] at hn
          refine ⟨_, rfl, runs_turn (x2 := x2) (x3 := x3) (by omega) fun Γ S' z4 hS hΓ => hnx _ _ rfl ⟨rp, jstep acc p, _, _, z4, rfl, hΓ, hS, ?_, hj⟩⟩
          have := jstep_len acc p
          omega
      · rintro Γ S' ⟨rp, acc, x2, x3, x4, hr, rfl, rfl, hn, hj⟩
        cases rp with
        | cons => cases hr
        | nil =>
          have hj' : acc = joinL ps := hj
          simp only [w_l_runs_2, frz_acc, stG, wSeq, wIf, wAsg, wRet, wRetN, wNext, wDrop, wP, wB, wPs, wCons, wNil, wOp, wFn, wPar, wAsgT, wTup, wLst, wNewL, setIx_eq, setA, wM1, wI, wFor, bV, bNot, bAnd, bOr, fOp, fC, fV, fCons, fNil, fCall, fIsi, fAnd, fOr, fNot, chain_le, fTup, fLst, fIf, fFn, tgN, tgT, setAll, gI, gLen, gLe, gLt, gGe, gGt, LP.gSub, gMod, gFdiv, gPow, gPlus, gTimes, gIntA, gInt, gIsN, gIx, tyA, TN.sub, LP.dataOf, A.toD, viewL, viewQ, viewT, gEq_ii, gEq_ss, gEq_bb, gEq_nn, fSl, slV, oN, oS, iL, iR1, wFnM, gFdivW, tNot', tV, wFrz, fFld, fldV, gEither, gOwnIn, gOwnBin, gOwnEq, fIsiO, gIsiO, fProp, propV, fMeth, fMake, fMakeV, twoT, viewT, iZQ, iET, Option.bind_some, Option.map_some, Option.bind_none, Option.map_none, Option.bind, Option.map, List.getElem?_cons_zero, List.getElem?_cons_succ, List.getElem?_nil, List.set_cons_zero, List.set_cons_succ, List.set_nil, if_true, if_false, ↓reduceIte, Bool.not_true, Bool.not_false, decide_true, decide_false, Bool.false_eq_true, reduceCtorEq, true_and, false_and, and_true, and_false, not_true, not_false_eq_true, List.any_cons, List.any_nil, Bool.or_false, Bool.or_true, Bool.true_or, Bool.false_or, Bool.and_true, Bool.true_and, Bool.and_false, Bool.false_and, exists_eq_left, exists_eq_left', Option.some.injEq, A.d.injEq, D.int.injEq, D.bl.injEq, D.str.injEq, D.lst.injEq, D.tup.injEq, Except.ok.injEq, List.cons_append, List.nil_append, List.map_cons, List.map_nil, List.length_cons, List.length_nil, List.replicate, Nat.reduceSub, Nat.reduceAdd, List.append_nil, eq_self, or_true, true_or, or_false, false_or, Int.reduceNeg, Int.reducePow, Int.reduceLT, Int.reduceLE, List.length_set]
          rw [hj']
          exact ⟨_, _, rfl, rfl⟩
      · rw [(sortP_perm ps).length_eq]; simpa using hl
  · cases h
theorem span_ok {p : PZ} (h : okP p = true) : G_is_span [pzD p] = some (.ok (.bl true)) := by
  simp only [G_is_span, pzD]
  rw [if_pos h]
theorem mem_zipW {α β γ : Type} {f : α → β → γ} {d : γ} : ∀ {a : List α} {b : List β}, d ∈ List.zipWith f a b → ∃ x y, x ∈ a ∧ y ∈ b ∧ d = f x y
  | [], b, h => by cases b <;> cases h
  | x :: a, [], h => by cases h
  | x :: a, y :: b, h => by
    rw [List.zipWith_cons_cons] at h
    rcases List.mem_cons.mp h with rfl | h
    · exact ⟨x, y, List.mem_cons_self, List.mem_cons_self, rfl⟩
    · obtain ⟨x', y', h1, h2, h3⟩ := mem_zipW h
      exact ⟨x', y', List.mem_cons_of_mem _ h1, List.mem_cons_of_mem _ h2, h3⟩
theorem v_init (ds : List D) (o : Except Er (List D)) (h : G_init ds = some o) : w_Letter_init (stG N_Letter_init (.loc 0 :: ds.map A.d)) [.ins 0 []] { nx := fun _ S' => ∃ fs, o = .ok fs ∧ S'[0]? = some (.ins 0 (fs.map A.d)), rt := fun a S' => a = .d .non ∧ ∃ fs, o = .ok fs ∧ S'[0]? = some (.ins 0 (fs.map A.d)), ex := fun er _ => o = .error er } := by
  unfold G_init at h
  split at h
  · rename_i l
    cases e : spansOf (.tup l) with
    | none => rw [e] at h; cases h
    | some ps =>
      rw [e] at h; cases h
      obtain ⟨h1, h2⟩ := spansOf_some e
      obtain ⟨ho, hl⟩ := oks_iff.mp h2
      have h1' : l = ps.map pzD := by rcases h1 with h1 | h1 <;> cases h1; rfl
      subst h1'
      simp only [w_Letter_init_0, N_Letter_init, stG, wSeq, wIf, wAsg, wRet, wRetN, wNext, wDrop, wP, wB, wPs, wCons, wNil, wOp, wFn, wPar, wAsgT, wTup, wLst, wNewL, setIx_eq, setA, wM1, wI, wFor, bV, bNot, bAnd, bOr, fOp, fC, fV, fCons, fNil, fCall, fIsi, fAnd, fOr, fNot, chain_le, fTup, fLst, fIf, fFn, tgN, tgT, setAll, gI, gLen, gLe, gLt, gGe, gGt, LP.gSub, gMod, gFdiv, gPow, gPlus, gTimes, gIntA, gInt, gIsN, gIx, tyA, TN.sub, LP.dataOf, A.toD, viewL, viewQ, viewT, gEq_ii, gEq_ss, gEq_bb, gEq_nn, fSl, slV, oN, oS, iL, iR1, wFnM, gFdivW, tNot', tV, wFrz, fFld, fldV, gEither, gOwnIn, gOwnBin, gOwnEq, fIsiO, gIsiO, fProp, propV, fMeth, fMake, fMakeV, twoT, viewT, iZQ, iET, Option.bind_some, Option.map_some, Option.bind_none, Option.map_none, Option.bind, Option.map, List.getElem?_cons_zero, List.getElem?_cons_succ, List.getElem?_nil, List.set_cons_zero, List.set_cons_succ, List.set_nil, if_true, if_false, ↓reduceIte, Bool.not_true, Bool.not_false, decide_true, decide_false, Bool.false_eq_true, reduceCtorEq, true_and, false_and, and_true, and_false, not_true, not_false_eq_true, List.any_cons, List.any_nil, Bool.or_false, Bool.or_true, Bool.true_or, Bool.false_or, Bool.and_true, Bool.true_and, Bool.and_false, Bool.false_and, exists_eq_left, exists_eq_left', Option.some.injEq, A.d.injEq, D.int.injEq, D.bl.injEq, D.str.injEq, D.lst.injEq, D.tup.injEq, Except.ok.injEq, List.cons_append, List.nil_append, List.map_cons, List.map_nil, List.length_cons, List.length_nil, List.replicate, Nat.reduceSub, Nat.reduceAdd, List.append_nil, eq_self, or_true, true_or, or_false, false_or, Int.reduceNeg, Int.reducePow, Int.reduceLT, Int.reduceLE, List.length_set]
      refine ⟨_, _, rfl, rfl, ?_⟩
      refine loop_inv (fun r Γ S' => ∃ (x2 x3 : Option A), (∀ d ∈ r, ∃ i p, d = LP.pairD (.int i) (pzD p) ∧ okP p = true) ∧ Γ = [some (.loc 0), some (.d (.tup (ps.map pzD))), x2, x3] ∧ S' = [.ins 0 []]) ?_ ?_ _ _ _ ⟨none, none, ?_, rfl, rfl⟩
      · rintro d' r Γ S' nx ⟨x2, x3, hr, rfl, rfl⟩ hnx
        obtain ⟨i, p, rfl, hp⟩ := hr _ List.mem_cons_self
        refine ⟨_, rfl, ?_⟩
        have hsp := span_ok hp
        simp only [w_Letter_init_for1_0, hsp, stG, wSeq, wIf, wAsg, wRet, wRetN, wNext, wDrop, wP, wB, wPs, wCons, wNil, wOp, wFn, wPar, wAsgT, wTup, wLst, wNewL, setIx_eq, setA, wM1, wI, wFor, bV, bNot, bAnd, bOr, fOp, fC, fV, fCons, fNil, fCall, fIsi, fAnd, fOr, fNot, chain_le, fTup, fLst, fIf, fFn, tgN, tgT, setAll, gI, gLen, gLe, gLt, gGe, gGt, LP.gSub, gMod, gFdiv, gPow, gPlus, gTimes, gIntA, gInt, gIsN, gIx, tyA, TN.sub, LP.dataOf, A.toD, viewL, viewQ, viewT, gEq_ii, gEq_ss, gEq_bb, gEq_nn, fSl, slV, oN, oS, iL, iR1, wFnM, gFdivW, tNot', tV, wFrz, fFld, fldV, gEither, gOwnIn, gOwnBin, gOwnEq, fIsiO, gIsiO, fProp, propV, fMeth, fMake, fMakeV, twoT, viewT, iZQ, iET, Option.bind_some, Option.map_some, Option.bind_none, Option.map_none, Option.bind, Option.map, List.getElem?_cons_zero, List.getElem?_cons_succ, List.getElem?_nil, List.set_cons_zero, List.set_cons_succ, List.set_nil, if_true, if_false, ↓reduceIte, Bool.not_true, Bool.not_false, decide_true, decide_false, Bool.false_eq_true, reduceCtorEq, true_and, false_and, and_true, and_false, not_true, not_false_eq_true, List.any_cons, List.any_nil, Bool.or_false, Bool.or_true, Bool.true_or, Bool.false_or, Bool.and_true, Bool.true_and, Bool.and_false, Bool.false_and, exists_eq_left, exists_eq_left', Option.some.injEq, A.d.injEq, D.int.injEq, D.bl.injEq, D.str.injEq, D.lst.injEq, D.tup.injEq, Except.ok.injEq, List.cons_append, List.nil_append, List.map_cons, List.map_nil, List.length_cons, List.length_nil, List.replicate, Nat.reduceSub, Nat.reduceAdd, List.append_nil, eq_self, or_true, true_or, or_false, false_or, Int.reduceNeg, Int.reducePow, Int.reduceLT, Int.reduceLE, List.length_set]
        exact hnx _ _ rfl ⟨_, _, fun d hd => hr d (List.mem_cons_of_mem _ hd), rfl, rfl⟩
      · rintro Γ S' ⟨x2, x3, _, rfl, rfl⟩
        have hg : G_joined [.tup (ps.map pzD)] = some (.ok (.lst ((joinL ps).map pzD))) := by
          simp only [G_joined, spansOf_tup h2, Option.map_some]
        simp only [w_Letter_init_1, hg, wSetF, stG, wSeq, wIf, wAsg, wRet, wRetN, wNext, wDrop, wP, wB, wPs, wCons, wNil, wOp, wFn, wPar, wAsgT, wTup, wLst, wNewL, setIx_eq, setA, wM1, wI, wFor, bV, bNot, bAnd, bOr, fOp, fC, fV, fCons, fNil, fCall, fIsi, fAnd, fOr, fNot, chain_le, fTup, fLst, fIf, fFn, tgN, tgT, setAll, gI, gLen, gLe, gLt, gGe, gGt, LP.gSub, gMod, gFdiv, gPow, gPlus, gTimes, gIntA, gInt, gIsN, gIx, tyA, TN.sub, LP.dataOf, A.toD, viewL, viewQ, viewT, gEq_ii, gEq_ss, gEq_bb, gEq_nn, fSl, slV, oN, oS, iL, iR1, wFnM, gFdivW, tNot', tV, wFrz, fFld, fldV, gEither, gOwnIn, gOwnBin, gOwnEq, fIsiO, gIsiO, fProp, propV, fMeth, fMake, fMakeV, twoT, viewT, iZQ, iET, Option.bind_some, Option.map_some, Option.bind_none, Option.map_none, Option.bind, Option.map, List.getElem?_cons_zero, List.getElem?_cons_succ, List.getElem?_nil, List.set_cons_zero, List.set_cons_succ, List.set_nil, if_true, if_false, ↓reduceIte, Bool.not_true, Bool.not_false, decide_true, decide_false, Bool.false_eq_true, reduceCtorEq, true_and, false_and, and_true, and_false, not_true, not_false_eq_true, List.any_cons, List.any_nil, Bool.or_false, Bool.or_true, Bool.true_or, Bool.false_or, Bool.and_true, Bool.true_and, Bool.and_false, Bool.false_and, exists_eq_left, exists_eq_left', Option.some.injEq, A.d.injEq, D.int.injEq, D.bl.injEq, D.str.injEq, D.lst.injEq, D.tup.injEq, Except.ok.injEq, List.cons_append, List.nil_append, List.map_cons, List.map_nil, List.length_cons, List.length_nil, List.replicate, Nat.reduceSub, Nat.reduceAdd, List.append_nil, eq_self, or_true, true_or, or_false, false_or, Int.reduceNeg, Int.reducePow, Int.reduceLT, Int.reduceLE, List.length_set]
        refine ⟨0, 0, [], rfl, rfl, by decide, ?_⟩
        exact ⟨by decide, rfl⟩
      · intro d hd
        obtain ⟨x, y, hx, hy, rfl⟩ := mem_zipW hd
        obtain ⟨i, _, rfl⟩ := List.mem_map.mp hx
        obtain ⟨p, hp, rfl⟩ := List.mem_map.mp hy
        exact ⟨_, p, rfl, ho p hp⟩
  · cases h
end K

set_option maxHeartbeats 4000000
namespace K
open PySem PySem.Spec PyProof.Rows L2 LP
theorem comp_map {α : Type} {fi : QI} {t : TgF} {vs : List Nat} {b : QB} {f : QF} {Γ : Ga} {S : So} {it : So → Option (List D)} {g h : α → D} {l : List α} (h1 : fi Γ S = some it) (h2 : it S = some (l.map g)) (h3 : ∀ x ∈ l, eltF t vs b f Γ S (g x) = some (some (h x))) : fComp fi t vs b f Γ S = some (.d (.lst (l.map h))) := by
  have c : compL (eltF t vs b f Γ S) (l.map g) = some (l.map h) := by
    rw [compL_map, ← compL_some]
    exact compL_congr h3
  simp only [fComp, h1, h2, c, Option.bind_some, Option.map_some]
theorem comp_filter {α : Type} {fi : QI} {t : TgF} {vs : List Nat} {b : QB} {f : QF} {Γ : Ga} {S : So} {it : So → Option (List D)} {g : α → D} {p : α → Bool} {l : List α} (h1 : fi Γ S = some it) (h2 : it S = some (l.map g)) (h3 : ∀ x ∈ l, eltF t vs b f Γ S (g x) = if p x = true then some (some (g x)) else some none) : fComp fi t vs b f Γ S = some (.d (.lst ((l.filter p).map g))) := by
  have c : compL (eltF t vs b f Γ S) (l.map g) = some ((l.filter p).map g) := by
    rw [compL_map, ← compL_if]
    exact compL_congr h3
  simp only [fComp, h1, h2, c, Option.bind_some, Option.map_some]
theorem catL_flat {α β γ : Type} {h : β → Option (List γ)} {g : α → β} {k : α → List γ} : ∀ {l : List α}, (∀ x ∈ l, h (g x) = some (k x)) → catL h (l.map g) = some (l.flatMap k)
  | [], _ => rfl
  | x :: l, e => by rw [List.map_cons, catL, e x List.mem_cons_self, Option.bind_some, catL_flat fun y hy => e y (List.mem_cons_of_mem _ hy)]; rfl
theorem ints_fun {α : Type} (f : α → Int) (l : List α) : dInts (l.map fun p => D.int (f p)) = some (l.map f) := by
  rw [← LP.ints_map, List.map_map]; rfl
theorem bools_fun {α : Type} (f : α → Bool) (l : List α) : dBools (l.map fun p => D.bl (f p)) = some (l.map f) := by
  rw [← dBools_map, List.map_map]; rfl
theorem letter_ok {ps : List PZ} (h : oks 60 ps = true) : G_Letter (ps.map pzD) = some (.ok [.lst ((joinL ps).map pzD)]) := by
  have hl := (oks_iff.mp h).2
  have : (ps.map pzD).length ≤ 1000 := by rw [List.length_map]; omega
  simp only [G_Letter, packI, this, if_true, G_init, spansOf_tup h, Option.map_some]
theorem v_runs (ds : List D) (o : Except Er D) (h : G_runs ds = some o) : w_Letter_runs (stG N_Letter_runs (ds.map A.d)) [] (dnP o) := by
  unfold G_runs at h
  split at h
  · rename_i d
    cases e : runsOf d with
    | none => rw [e] at h; cases h
    | some rs =>
      rw [e] at h; cases h
      obtain ⟨rfl, hk⟩ := runsOf_some e
      have c0 : [0].contains 0 = true := rfl
      simp only [w_Letter_runs_0, N_Letter_runs, ltr, gList, c0, stG, wSeq, wIf, wAsg, wRet, wRetN, wNext, wDrop, wP, wB, wPs, wCons, wNil, wOp, wFn, wPar, wAsgT, wTup, wLst, wNewL, setIx_eq, setA, wM1, wI, wFor, bV, bNot, bAnd, bOr, fOp, fC, fV, fCons, fNil, fCall, fIsi, fAnd, fOr, fNot, chain_le, fTup, fLst, fIf, fFn, tgN, tgT, setAll, gI, gLen, gLe, gLt, gGe, gGt, LP.gSub, gMod, gFdiv, gPow, gPlus, gTimes, gIntA, gInt, gIsN, gIx, tyA, TN.sub, LP.dataOf, A.toD, viewL, viewQ, viewT, gEq_ii, gEq_ss, gEq_bb, gEq_nn, fSl, slV, oN, oS, iL, iR1, wFnM, gFdivW, tNot', tV, wFrz, fFld, fldV, gEither, gOwnIn, gOwnBin, gOwnEq, fIsiO, gIsiO, fProp, propV, fMeth, fMake, fMakeV, twoT, viewT, iZQ, iET, Option.bind_some, Option.map_some, Option.bind_none, Option.map_none, Option.bind, Option.map, List.getElem?_cons_zero, List.getElem?_cons_succ, List.getElem?_nil, List.set_cons_zero, List.set_cons_succ, List.set_nil, if_true, if_false, ↓reduceIte, Bool.not_true, Bool.not_false, decide_true, decide_false, Bool.false_eq_true, reduceCtorEq, true_and, false_and, and_true, and_false, not_true, not_false_eq_true, List.any_cons, List.any_nil, Bool.or_false, Bool.or_true, Bool.true_or, Bool.false_or, Bool.and_true, Bool.true_and, Bool.and_false, Bool.false_and, exists_eq_left, exists_eq_left', Option.some.injEq, A.d.injEq, D.int.injEq, D.bl.injEq, D.str.injEq, D.lst.injEq, D.tup.injEq, Except.ok.injEq, List.cons_append, List.nil_append, List.map_cons, List.map_nil, List.length_cons, List.length_nil, List.replicate, Nat.reduceSub, Nat.reduceAdd, List.append_nil, eq_self, or_true, true_or, or_false, false_or, Int.reduceNeg, Int.reducePow, Int.reduceLT, Int.reduceLE, List.length_set]
  · cases h
theorem v_contains (ds : List D) (o : Except Er D) (h : G_contains ds = some o) : w_Letter_contains (stG N_Letter_contains (ds.map A.d)) [] (dnP o) := by
  unfold G_contains at h
  split at h
  · rename_i d x
    cases e : runsOf d with
    | none => rw [e] at h; cases h
    | some rs =>
      rw [e] at h; cases h
      obtain ⟨rfl, hk⟩ := runsOf_some e
      have c : fComp (iL (fFld [0] 0 (fV 0))) (tgT [2, 3]) [2, 3] (fun _ _ => some true) (fChain gLe gLe (fV 2) (fV 1) (fV 3)) [some (.d (ltr rs)), some (.d (.int x)), none, none] [] = some (.d (.lst (rs.map fun p => .bl (decide (p.1 ≤ x ∧ x ≤ p.2))))) := by
        refine comp_map rfl rfl fun p hp => ?_
        by_cases h1 : p.1 ≤ x <;> by_cases h2 : x ≤ p.2 <;> simp [eltF, wipeG, pzD, h1, h2, stG, wSeq, wIf, wAsg, wRet, wRetN, wNext, wDrop, wP, wB, wPs, wCons, wNil, wOp, wFn, wPar, wAsgT, wTup, wLst, wNewL, setIx_eq, setA, wM1, wI, wFor, bV, bNot, bAnd, bOr, fOp, fC, fV, fCons, fNil, fCall, fIsi, fAnd, fOr, fNot, chain_le, fTup, fLst, fIf, fFn, tgN, tgT, setAll, gI, gLen, gLe, gLt, gGe, gGt, LP.gSub, gMod, gFdiv, gPow, gPlus, gTimes, gIntA, gInt, gIsN, gIx, tyA, TN.sub, LP.dataOf, A.toD, viewL, viewQ, viewT, gEq_ii, gEq_ss, gEq_bb, gEq_nn, fSl, slV, oN, oS, iL, iR1, wFnM, gFdivW, tNot', tV, wFrz, fFld, fldV, gEither, gOwnIn, gOwnBin, gOwnEq, fIsiO, gIsiO, fProp, propV, fMeth, fMake, fMakeV, twoT, viewT, iZQ, iET, Option.bind_some, Option.map_some, Option.bind_none, Option.map_none, Option.bind, Option.map, List.getElem?_cons_zero, List.getElem?_cons_succ, List.getElem?_nil, List.set_cons_zero, List.set_cons_succ, List.set_nil, if_true, if_false, ↓reduceIte, Bool.not_true, Bool.not_false, decide_true, decide_false, Bool.false_eq_true, reduceCtorEq, true_and, false_and, and_true, and_false, not_true, not_false_eq_true, List.any_cons, List.any_nil, Bool.or_false, Bool.or_true, Bool.true_or, Bool.false_or, Bool.and_true, Bool.true_and, Bool.and_false, Bool.false_and, exists_eq_left, exists_eq_left', Option.some.injEq, A.d.injEq, D.int.injEq, D.bl.injEq, D.str.injEq, D.lst.injEq, D.tup.injEq, Except.ok.injEq, List.cons_append, List.nil_append, List.map_cons, List.map_nil, List.length_cons, List.length_nil, List.replicate, Nat.reduceSub, Nat.reduceAdd, List.append_nil, eq_self, or_true, true_or, or_false, false_or, Int.reduceNeg, Int.reducePow, Int.reduceLT, Int.reduceLE, List.length_set]
      have hs := bools_fun (fun p : PZ => decide (p.1 ≤ x ∧ x ≤ p.2)) rs
      have hn := num_ok (x := x)
      by_cases hx : 0 ≤ x ∧ x ≤ GR
      · have hx' : decide (0 ≤ x ∧ x ≤ GR) = true := decide_eq_true hx
        rw [hx'] at hn
        simp only [w_Letter_contains_0, N_Letter_contains, c, hn, hx', gBools, hs, stG, wSeq, wIf, wAsg, wRet, wRetN, wNext, wDrop, wP, wB, wPs, wCons, wNil, wOp, wFn, wPar, wAsgT, wTup, wLst, wNewL, setIx_eq, setA, wM1, wI, wFor, bV, bNot, bAnd, bOr, fOp, fC, fV, fCons, fNil, fCall, fIsi, fAnd, fOr, fNot, chain_le, fTup, fLst, fIf, fFn, tgN, tgT, setAll, gI, gLen, gLe, gLt, gGe, gGt, LP.gSub, gMod, gFdiv, gPow, gPlus, gTimes, gIntA, gInt, gIsN, gIx, tyA, TN.sub, LP.dataOf, A.toD, viewL, viewQ, viewT, gEq_ii, gEq_ss, gEq_bb, gEq_nn, fSl, slV, oN, oS, iL, iR1, wFnM, gFdivW, tNot', tV, wFrz, fFld, fldV, gEither, gOwnIn, gOwnBin, gOwnEq, fIsiO, gIsiO, fProp, propV, fMeth, fMake, fMakeV, twoT, viewT, iZQ, iET, Option.bind_some, Option.map_some, Option.bind_none, Option.map_none, Option.bind, Option.map, List.getElem?_cons_zero, List.getElem?_cons_succ, List.getElem?_nil, List.set_cons_zero, List.set_cons_succ, List.set_nil, if_true, if_false, ↓reduceIte, Bool.not_true, Bool.not_false, decide_true, decide_false, Bool.false_eq_true, reduceCtorEq, true_and, false_and, and_true, and_false, not_true, not_false_eq_true, List.any_cons, List.any_nil, Bool.or_false, Bool.or_true, Bool.true_or, Bool.false_or, Bool.and_true, Bool.true_and, Bool.and_false, Bool.false_and, exists_eq_left, exists_eq_left', Option.some.injEq, A.d.injEq, D.int.injEq, D.bl.injEq, D.str.injEq, D.lst.injEq, D.tup.injEq, Except.ok.injEq, List.cons_append, List.nil_append, List.map_cons, List.map_nil, List.length_cons, List.length_nil, List.replicate, Nat.reduceSub, Nat.reduceAdd, List.append_nil, eq_self, or_true, true_or, or_false, false_or, Int.reduceNeg, Int.reducePow, Int.reduceLT, Int.reduceLE, List.length_set]
        simp [inL, List.any_map, Function.comp_def]
      · have hx' : decide (0 ≤ x ∧ x ≤ GR) = false := decide_eq_false hx
        rw [hx'] at hn
        simp only [w_Letter_contains_0, N_Letter_contains, hn, hx', stG, wSeq, wIf, wAsg, wRet, wRetN, wNext, wDrop, wP, wB, wPs, wCons, wNil, wOp, wFn, wPar, wAsgT, wTup, wLst, wNewL, setIx_eq, setA, wM1, wI, wFor, bV, bNot, bAnd, bOr, fOp, fC, fV, fCons, fNil, fCall, fIsi, fAnd, fOr, fNot, chain_le, fTup, fLst, fIf, fFn, tgN, tgT, setAll, gI, gLen, gLe, gLt, gGe, gGt, LP.gSub, gMod, gFdiv, gPow, gPlus, gTimes, gIntA, gInt, gIsN, gIx, tyA, TN.sub, LP.dataOf, A.toD, viewL, viewQ, viewT, gEq_ii, gEq_ss, gEq_bb, gEq_nn, fSl, slV, oN, oS, iL, iR1, wFnM, gFdivW, tNot', tV, wFrz, fFld, fldV, gEither, gOwnIn, gOwnBin, gOwnEq, fIsiO, gIsiO, fProp, propV, fMeth, fMake, fMakeV, twoT, viewT, iZQ, iET, Option.bind_some, Option.map_some, Option.bind_none, Option.map_none, Option.bind, Option.map, List.getElem?_cons_zero, List.getElem?_cons_succ, List.getElem?_nil, List.set_cons_zero, List.set_cons_succ, List.set_nil, if_true, if_false, ↓reduceIte, Bool.not_true, Bool.not_false, decide_true, decide_false, Bool.false_eq_true, reduceCtorEq, true_and, false_and, and_true, and_false, not_true, not_false_eq_true, List.any_cons, List.any_nil, Bool.or_false, Bool.or_true, Bool.true_or, Bool.false_or, Bool.and_true, Bool.true_and, Bool.and_false, Bool.false_and, exists_eq_left, exists_eq_left', Option.some.injEq, A.d.injEq, D.int.injEq, D.bl.injEq, D.str.injEq, D.lst.injEq, D.tup.injEq, Except.ok.injEq, List.cons_append, List.nil_append, List.map_cons, List.map_nil, List.length_cons, List.length_nil, List.replicate, Nat.reduceSub, Nat.reduceAdd, List.append_nil, eq_self, or_true, true_or, or_false, false_or, Int.reduceNeg, Int.reducePow, Int.reduceLT, Int.reduceLE, List.length_set]
  · cases h
theorem cat_ok {S : So} {a b : List D} (h : a.length + b.length ≤ 1000) : gCat S (.d (.lst a)) (.d (.lst b)) = some (.lst (a ++ b)) := by
  have : a.length + b.length ≤ sizeLine := Nat.le_trans h (by decide)
  simp only [gCat, gCat.viewLs, Option.bind_some, this, if_true]
theorem c00 : [0].contains 0 = true := rfl
theorem runs_ok {rs : List PZ} (h : oks 60 rs = true) : G_runs [.ins 0 [.lst (rs.map pzD)]] = some (.ok (.lst (rs.map pzD))) := by
  show (runsOf (ltr rs)).map _ = _
  rw [runsOf_ltr h]; rfl
theorem jn_oks {n : Nat} {l : List PZ} (h : oks n l = true) : oks n (joinL l) = true := by
  obtain ⟨h1, h2⟩ := oks_iff.mp h
  exact oks_iff.mpr ⟨join_ok h1, Nat.le_trans (join_len l) h2⟩
theorem v_in (ds : List D) (o : Except Er D) (h : G_in ds = some o) : w_l_in (stG N_l_in (ds.map A.d)) [] (dnP o) := by
  unfold G_in at h
  split at h
  · rename_i x l
    cases e : spansOf (.lst l) with
    | none => rw [e] at h; cases h
    | some ps =>
      rw [e] at h; cases h
      obtain ⟨h1, h2⟩ := spansOf_some e
      have h1' : l = ps.map pzD := by rcases h1 with h1 | h1 <;> cases h1; rfl
      subst h1'
      have c : fComp (iL (fV 1)) (tgT [2, 3]) [2, 3] (fun _ _ => some true) (fChain gLe gLe (fV 2) (fV 0) (fV 3)) [some (.d (.int x)), some (.d (.lst (ps.map pzD))), none, none] [] = some (.d (.lst (ps.map fun p => .bl (decide (p.1 ≤ x ∧ x ≤ p.2))))) := by
        refine comp_map rfl rfl fun p hp => ?_
        by_cases h1 : p.1 ≤ x <;> by_cases h2 : x ≤ p.2 <;> simp [eltF, wipeG, pzD, h1, h2, stG, wSeq, wIf, wAsg, wRet, wRetN, wNext, wDrop, wP, wB, wPs, wCons, wNil, wOp, wFn, wPar, wAsgT, wTup, wLst, wNewL, setIx_eq, setA, wM1, wI, wFor, bV, bNot, bAnd, bOr, fOp, fC, fV, fCons, fNil, fCall, fIsi, fAnd, fOr, fNot, chain_le, fTup, fLst, fIf, fFn, tgN, tgT, setAll, gI, gLen, gLe, gLt, gGe, gGt, LP.gSub, gMod, gFdiv, gPow, gPlus, gTimes, gIntA, gInt, gIsN, gIx, tyA, TN.sub, LP.dataOf, A.toD, viewL, viewQ, viewT, gEq_ii, gEq_ss, gEq_bb, gEq_nn, fSl, slV, oN, oS, iL, iR1, wFnM, gFdivW, tNot', tV, wFrz, fFld, fldV, gEither, gOwnIn, gOwnBin, gOwnEq, fIsiO, gIsiO, fProp, propV, fMeth, fMake, fMakeV, twoT, viewT, iZQ, iET, Option.bind_some, Option.map_some, Option.bind_none, Option.map_none, Option.bind, Option.map, List.getElem?_cons_zero, List.getElem?_cons_succ, List.getElem?_nil, List.set_cons_zero, List.set_cons_succ, List.set_nil, if_true, if_false, ↓reduceIte, Bool.not_true, Bool.not_false, decide_true, decide_false, Bool.false_eq_true, reduceCtorEq, true_and, false_and, and_true, and_false, not_true, not_false_eq_true, List.any_cons, List.any_nil, Bool.or_false, Bool.or_true, Bool.true_or, Bool.false_or, Bool.and_true, Bool.true_and, Bool.and_false, Bool.false_and, exists_eq_left, exists_eq_left', Option.some.injEq, A.d.injEq, D.int.injEq, D.bl.injEq, D.str.injEq, D.lst.injEq, D.tup.injEq, Except.ok.injEq, List.cons_append, List.nil_append, List.map_cons, List.map_nil, List.length_cons, List.length_nil, List.replicate, Nat.reduceSub, Nat.reduceAdd, List.append_nil, eq_self, or_true, true_or, or_false, false_or, Int.reduceNeg, Int.reducePow, Int.reduceLT, Int.reduceLE, List.length_set]
      have hs := bools_fun (fun p : PZ => decide (p.1 ≤ x ∧ x ≤ p.2)) ps
      simp only [w_l_in_0, N_l_in, c, gBools, hs, stG, wSeq, wIf, wAsg, wRet, wRetN, wNext, wDrop, wP, wB, wPs, wCons, wNil, wOp, wFn, wPar, wAsgT, wTup, wLst, wNewL, setIx_eq, setA, wM1, wI, wFor, bV, bNot, bAnd, bOr, fOp, fC, fV, fCons, fNil, fCall, fIsi, fAnd, fOr, fNot, chain_le, fTup, fLst, fIf, fFn, tgN, tgT, setAll, gI, gLen, gLe, gLt, gGe, gGt, LP.gSub, gMod, gFdiv, gPow, gPlus, gTimes, gIntA, gInt, gIsN, gIx, tyA, TN.sub, LP.dataOf, A.toD, viewL, viewQ, viewT, gEq_ii, gEq_ss, gEq_bb, gEq_nn, fSl, slV, oN, oS, iL, iR1, wFnM, gFdivW, tNot', tV, wFrz, fFld, fldV, gEither, gOwnIn, gOwnBin, gOwnEq, fIsiO, gIsiO, fProp, propV, fMeth, fMake, fMakeV, twoT, viewT, iZQ, iET, Option.bind_some, Option.map_some, Option.bind_none, Option.map_none, Option.bind, Option.map, List.getElem?_cons_zero, List.getElem?_cons_succ, List.getElem?_nil, List.set_cons_zero, List.set_cons_succ, List.set_nil, if_true, if_false, ↓reduceIte, Bool.not_true, Bool.not_false, decide_true, decide_false, Bool.false_eq_true, reduceCtorEq, true_and, false_and, and_true, and_false, not_true, not_false_eq_true, List.any_cons, List.any_nil, Bool.or_false, Bool.or_true, Bool.true_or, Bool.false_or, Bool.and_true, Bool.true_and, Bool.and_false, Bool.false_and, exists_eq_left, exists_eq_left', Option.some.injEq, A.d.injEq, D.int.injEq, D.bl.injEq, D.str.injEq, D.lst.injEq, D.tup.injEq, Except.ok.injEq, List.cons_append, List.nil_append, List.map_cons, List.map_nil, List.length_cons, List.length_nil, List.replicate, Nat.reduceSub, Nat.reduceAdd, List.append_nil, eq_self, or_true, true_or, or_false, false_or, Int.reduceNeg, Int.reducePow, Int.reduceLT, Int.reduceLE, List.length_set]
      simp [inL, List.any_map, Function.comp_def]
  · cases h
theorem v_letter (ds : List D) (o : Except Er D) (h : G_letter ds = some o) : w_l_letter (stG N_l_letter (ds.map A.d)) [] (dnP o) := by
  unfold G_letter at h
  split at h
  · rename_i l
    cases e : spansOf (.lst l) with
    | none => rw [e] at h; cases h
    | some ps =>
      rw [e, Option.bind_some] at h
      split at h
      · rename_i hl
        cases h
        obtain ⟨h1, h2⟩ := spansOf_some e
        have h1' : l = ps.map pzD := by rcases h1 with h1 | h1 <;> cases h1; rfl
        subst h1'
        have hm := letter_ok h2
        match ps, hl with
        | [], _ =>
          have he := eq_pairs false [] [] []
          have n0 : gLen [] [.d (.lst [])] = some (.int 0) := rfl
          simp only [List.map_nil] at he hm
          simp only [w_l_letter_0, w_l_letter_1, N_l_letter, he, hm, n0, ltr, Int.reduceEq, stG, wSeq, wIf, wAsg, wRet, wRetN, wNext, wDrop, wP, wB, wPs, wCons, wNil, wOp, wFn, wPar, wAsgT, wTup, wLst, wNewL, setIx_eq, setA, wM1, wI, wFor, bV, bNot, bAnd, bOr, fOp, fC, fV, fCons, fNil, fCall, fIsi, fAnd, fOr, fNot, chain_le, fTup, fLst, fIf, fFn, tgN, tgT, setAll, gI, gLe, gLt, gGe, gGt, LP.gSub, gMod, gFdiv, gPow, gPlus, gTimes, gIntA, gInt, gIsN, tyA, TN.sub, LP.dataOf, A.toD, viewL, viewQ, viewT, gEq_ii, gEq_ss, gEq_bb, gEq_nn, fSl, slV, oN, oS, iL, iR1, wFnM, gFdivW, tNot', tV, wFrz, fFld, fldV, gEither, gOwnIn, gOwnBin, gOwnEq, fIsiO, gIsiO, fProp, propV, fMeth, fMake, fMakeV, twoT, viewT, iZQ, iET, Option.bind_some, Option.map_some, Option.bind_none, Option.map_none, Option.bind, Option.map, List.getElem?_cons_zero, List.getElem?_cons_succ, List.getElem?_nil, List.set_cons_zero, List.set_cons_succ, List.set_nil, if_true, if_false, ↓reduceIte, Bool.not_true, Bool.not_false, decide_true, decide_false, Bool.false_eq_true, reduceCtorEq, true_and, false_and, and_true, and_false, not_true, not_false_eq_true, List.any_cons, List.any_nil, Bool.or_false, Bool.or_true, Bool.true_or, Bool.false_or, Bool.and_true, Bool.true_and, Bool.and_false, Bool.false_and, exists_eq_left, exists_eq_left', Option.some.injEq, A.d.injEq, D.int.injEq, D.bl.injEq, D.str.injEq, D.lst.injEq, D.tup.injEq, Except.ok.injEq, List.cons_append, List.nil_append, List.map_cons, List.map_nil, List.length_cons, List.length_nil, List.replicate, Nat.reduceSub, Nat.reduceAdd, List.append_nil, eq_self, or_true, true_or, or_false, false_or, Int.reduceNeg, Int.reducePow, Int.reduceLT, Int.reduceLE, List.length_set]
        | [p], _ =>
          have he := eq_pairs false [] [p] []
          have n0 : gLen [] [.d (.lst [pzD p])] = some (.int 1) := rfl
          have hd : decide ([p] = []) = false := rfl
          simp only [List.map_nil, List.map_cons, hd] at he hm
          have i0 : gIx [] (.d (.lst [pzD p])) (.d (.int 0)) = some (pzD p) := rfl
          simp only [w_l_letter_0, w_l_letter_1, N_l_letter, he, hm, i0, n0, ltr, Int.reduceEq, stG, wSeq, wIf, wAsg, wRet, wRetN, wNext, wDrop, wP, wB, wPs, wCons, wNil, wOp, wFn, wPar, wAsgT, wTup, wLst, wNewL, setIx_eq, setA, wM1, wI, wFor, bV, bNot, bAnd, bOr, fOp, fC, fV, fCons, fNil, fCall, fIsi, fAnd, fOr, fNot, chain_le, fTup, fLst, fIf, fFn, tgN, tgT, setAll, gI, gLe, gLt, gGe, gGt, LP.gSub, gMod, gFdiv, gPow, gPlus, gTimes, gIntA, gInt, gIsN, tyA, TN.sub, LP.dataOf, A.toD, viewL, viewQ, viewT, gEq_ii, gEq_ss, gEq_bb, gEq_nn, fSl, slV, oN, oS, iL, iR1, wFnM, gFdivW, tNot', tV, wFrz, fFld, fldV, gEither, gOwnIn, gOwnBin, gOwnEq, fIsiO, gIsiO, fProp, propV, fMeth, fMake, fMakeV, twoT, viewT, iZQ, iET, Option.bind_some, Option.map_some, Option.bind_none, Option.map_none, Option.bind, Option.map, List.getElem?_cons_zero, List.getElem?_cons_succ, List.getElem?_nil, List.set_cons_zero, List.set_cons_succ, List.set_nil, if_true, if_false, ↓reduceIte, Bool.not_true, Bool.not_false, decide_true, decide_false, Bool.false_eq_true, reduceCtorEq, true_and, false_and, and_true, and_false, not_true, not_false_eq_true, List.any_cons, List.any_nil, Bool.or_false, Bool.or_true, Bool.true_or, Bool.false_or, Bool.and_true, Bool.true_and, Bool.and_false, Bool.false_and, exists_eq_left, exists_eq_left', Option.some.injEq, A.d.injEq, D.int.injEq, D.bl.injEq, D.str.injEq, D.lst.injEq, D.tup.injEq, Except.ok.injEq, List.cons_append, List.nil_append, List.map_cons, List.map_nil, List.length_cons, List.length_nil, List.replicate, Nat.reduceSub, Nat.reduceAdd, List.append_nil, eq_self, or_true, true_or, or_false, false_or, Int.reduceNeg, Int.reducePow, Int.reduceLT, Int.reduceLE, List.length_set]
        | [p, q], _ =>
          simp only [List.map_nil, List.map_cons] at hm
          have n0 : gLen [] [.d (.lst [pzD p, pzD q])] = some (.int 2) := rfl
          have i0 : gIx [] (.d (.lst [pzD p, pzD q])) (.d (.int 0)) = some (pzD p) := rfl
          have i1 : gIx [] (.d (.lst [pzD p, pzD q])) (.d (.int 1)) = some (pzD q) := rfl
          simp only [w_l_letter_0, w_l_letter_1, N_l_letter, hm, i0, i1, n0, ltr, Int.reduceEq, stG, wSeq, wIf, wAsg, wRet, wRetN, wNext, wDrop, wP, wB, wPs, wCons, wNil, wOp, wFn, wPar, wAsgT, wTup, wLst, wNewL, setIx_eq, setA, wM1, wI, wFor, bV, bNot, bAnd, bOr, fOp, fC, fV, fCons, fNil, fCall, fIsi, fAnd, fOr, fNot, chain_le, fTup, fLst, fIf, fFn, tgN, tgT, setAll, gI, gLe, gLt, gGe, gGt, LP.gSub, gMod, gFdiv, gPow, gPlus, gTimes, gIntA, gInt, gIsN, tyA, TN.sub, LP.dataOf, A.toD, viewL, viewQ, viewT, gEq_ii, gEq_ss, gEq_bb, gEq_nn, fSl, slV, oN, oS, iL, iR1, wFnM, gFdivW, tNot', tV, wFrz, fFld, fldV, gEither, gOwnIn, gOwnBin, gOwnEq, fIsiO, gIsiO, fProp, propV, fMeth, fMake, fMakeV, twoT, viewT, iZQ, iET, Option.bind_some, Option.map_some, Option.bind_none, Option.map_none, Option.bind, Option.map, List.getElem?_cons_zero, List.getElem?_cons_succ, List.getElem?_nil, List.set_cons_zero, List.set_cons_succ, List.set_nil, if_true, if_false, ↓reduceIte, Bool.not_true, Bool.not_false, decide_true, decide_false, Bool.false_eq_true, reduceCtorEq, true_and, false_and, and_true, and_false, not_true, not_false_eq_true, List.any_cons, List.any_nil, Bool.or_false, Bool.or_true, Bool.true_or, Bool.false_or, Bool.and_true, Bool.true_and, Bool.and_false, Bool.false_and, exists_eq_left, exists_eq_left', Option.some.injEq, A.d.injEq, D.int.injEq, D.bl.injEq, D.str.injEq, D.lst.injEq, D.tup.injEq, Except.ok.injEq, List.cons_append, List.nil_append, List.map_cons, List.map_nil, List.length_cons, List.length_nil, List.replicate, Nat.reduceSub, Nat.reduceAdd, List.append_nil, eq_self, or_true, true_or, or_false, false_or, Int.reduceNeg, Int.reducePow, Int.reduceLT, Int.reduceLE, List.length_set]
        | [p, q, r], _ =>
          simp only [List.map_nil, List.map_cons] at hm
          have n0 : gLen [] [.d (.lst [pzD p, pzD q, pzD r])] = some (.int 3) := rfl
          have i0 : gIx [] (.d (.lst [pzD p, pzD q, pzD r])) (.d (.int 0)) = some (pzD p) := rfl
          have i1 : gIx [] (.d (.lst [pzD p, pzD q, pzD r])) (.d (.int 1)) = some (pzD q) := rfl
          have i2 : gIx [] (.d (.lst [pzD p, pzD q, pzD r])) (.d (.int 2)) = some (pzD r) := rfl
          simp only [w_l_letter_0, w_l_letter_1, N_l_letter, hm, i0, i1, i2, n0, ltr, Int.reduceEq, stG, wSeq, wIf, wAsg, wRet, wRetN, wNext, wDrop, wP, wB, wPs, wCons, wNil, wOp, wFn, wPar, wAsgT, wTup, wLst, wNewL, setIx_eq, setA, wM1, wI, wFor, bV, bNot, bAnd, bOr, fOp, fC, fV, fCons, fNil, fCall, fIsi, fAnd, fOr, fNot, chain_le, fTup, fLst, fIf, fFn, tgN, tgT, setAll, gI, gLe, gLt, gGe, gGt, LP.gSub, gMod, gFdiv, gPow, gPlus, gTimes, gIntA, gInt, gIsN, tyA, TN.sub, LP.dataOf, A.toD, viewL, viewQ, viewT, gEq_ii, gEq_ss, gEq_bb, gEq_nn, fSl, slV, oN, oS, iL, iR1, wFnM, gFdivW, tNot', tV, wFrz, fFld, fldV, gEither, gOwnIn, gOwnBin, gOwnEq, fIsiO, gIsiO, fProp, propV, fMeth, fMake, fMakeV, twoT, viewT, iZQ, iET, Option.bind_some, Option.map_some, Option.bind_none, Option.map_none, Option.bind, Option.map, List.getElem?_cons_zero, List.getElem?_cons_succ, List.getElem?_nil, List.set_cons_zero, List.set_cons_succ, List.set_nil, if_true, if_false, ↓reduceIte, Bool.not_true, Bool.not_false, decide_true, decide_false, Bool.false_eq_true, reduceCtorEq, true_and, false_and, and_true, and_false, not_true, not_false_eq_true, List.any_cons, List.any_nil, Bool.or_false, Bool.or_true, Bool.true_or, Bool.false_or, Bool.and_true, Bool.true_and, Bool.and_false, Bool.false_and, exists_eq_left, exists_eq_left', Option.some.injEq, A.d.injEq, D.int.injEq, D.bl.injEq, D.str.injEq, D.lst.injEq, D.tup.injEq, Except.ok.injEq, List.cons_append, List.nil_append, List.map_cons, List.map_nil, List.length_cons, List.length_nil, List.replicate, Nat.reduceSub, Nat.reduceAdd, List.append_nil, eq_self, or_true, true_or, or_false, false_or, Int.reduceNeg, Int.reducePow, Int.reduceLT, Int.reduceLE, List.length_set]
      · cases h
  · cases h
theorem v_span (as : List A) (S : So) (ex : EK) (Q : AK) (h : fc_span as S ex Q) : w_l_span (stG N_l_span as) S { nx := fun _ S' => Q (.d .non) S', rt := Q, ex := ex } := by
  obtain ⟨k, m, base, rfl, hS, hb, hQ⟩ := h
  simp only [w_l_span_0, N_l_span, stG, wSeq, wIf, wAsg, wRet, wRetN, wNext, wDrop, wP, wB, wPs, wCons, wNil, wOp, wFn, wPar, wAsgT, wTup, wLst, wNewL, setIx_eq, setA, wM1, wI, wFor, bV, bNot, bAnd, bOr, fOp, fC, fV, fCons, fNil, fCall, fIsi, fAnd, fOr, fNot, chain_le, fTup, fLst, fIf, fFn, tgN, tgT, setAll, gI, gLen, gLe, gLt, gGe, gGt, LP.gSub, gMod, gFdiv, gPow, gPlus, gTimes, gIntA, gInt, gIsN, gIx, tyA, TN.sub, LP.dataOf, A.toD, viewL, viewQ, viewT, gEq_ii, gEq_ss, gEq_bb, gEq_nn, fSl, slV, oN, oS, iL, iR1, wFnM, gFdivW, tNot', tV, wFrz, fFld, fldV, gEither, gOwnIn, gOwnBin, gOwnEq, fIsiO, gIsiO, fProp, propV, fMeth, fMake, fMakeV, twoT, viewT, iZQ, iET, Option.bind_some, Option.map_some, Option.bind_none, Option.map_none, Option.bind, Option.map, List.getElem?_cons_zero, List.getElem?_cons_succ, List.getElem?_nil, List.set_cons_zero, List.set_cons_succ, List.set_nil, if_true, if_false, ↓reduceIte, Bool.not_true, Bool.not_false, decide_true, decide_false, Bool.false_eq_true, reduceCtorEq, true_and, false_and, and_true, and_false, not_true, not_false_eq_true, List.any_cons, List.any_nil, Bool.or_false, Bool.or_true, Bool.true_or, Bool.false_or, Bool.and_true, Bool.true_and, Bool.and_false, Bool.false_and, exists_eq_left, exists_eq_left', Option.some.injEq, A.d.injEq, D.int.injEq, D.bl.injEq, D.str.injEq, D.lst.injEq, D.tup.injEq, Except.ok.injEq, List.cons_append, List.nil_append, List.map_cons, List.map_nil, List.length_cons, List.length_nil, List.replicate, Nat.reduceSub, Nat.reduceAdd, List.append_nil, eq_self, or_true, true_or, or_false, false_or, Int.reduceNeg, Int.reducePow, Int.reduceLT, Int.reduceLE, List.length_set]
  refine ⟨k, m, 12, rfl, hS, hb, by decide, by decide, fun r m' b r0 r1 => ?_⟩
  have hk := lt_of hS
  simp only [w_l_span_1, stG, wSeq, wIf, wAsg, wRet, wRetN, wNext, wDrop, wP, wB, wPs, wCons, wNil, wOp, wFn, wPar, wAsgT, wTup, wLst, wNewL, setIx_eq, setA, wM1, wI, wFor, bV, bNot, bAnd, bOr, fOp, fC, fV, fCons, fNil, fCall, fIsi, fAnd, fOr, fNot, chain_le, fTup, fLst, fIf, fFn, tgN, tgT, setAll, gI, gLen, gLe, gLt, gGe, gGt, LP.gSub, gMod, gFdiv, gPow, gPlus, gTimes, gIntA, gInt, gIsN, gIx, tyA, TN.sub, LP.dataOf, A.toD, viewL, viewQ, viewT, gEq_ii, gEq_ss, gEq_bb, gEq_nn, fSl, slV, oN, oS, iL, iR1, wFnM, gFdivW, tNot', tV, wFrz, fFld, fldV, gEither, gOwnIn, gOwnBin, gOwnEq, fIsiO, gIsiO, fProp, propV, fMeth, fMake, fMakeV, twoT, viewT, iZQ, iET, Option.bind_some, Option.map_some, Option.bind_none, Option.map_none, Option.bind, Option.map, List.getElem?_cons_zero, List.getElem?_cons_succ, List.getElem?_nil, List.set_cons_zero, List.set_cons_succ, List.set_nil, if_true, if_false, ↓reduceIte, Bool.not_true, Bool.not_false, decide_true, decide_false, Bool.false_eq_true, reduceCtorEq, true_and, false_and, and_true, and_false, not_true, not_false_eq_true, List.any_cons, List.any_nil, Bool.or_false, Bool.or_true, Bool.true_or, Bool.false_or, Bool.and_true, Bool.true_and, Bool.and_false, Bool.false_and, exists_eq_left, exists_eq_left', Option.some.injEq, A.d.injEq, D.int.injEq, D.bl.injEq, D.str.injEq, D.lst.injEq, D.tup.injEq, Except.ok.injEq, List.cons_append, List.nil_append, List.map_cons, List.map_nil, List.length_cons, List.length_nil, List.replicate, Nat.reduceSub, Nat.reduceAdd, List.append_nil, eq_self, or_true, true_or, or_false, false_or, Int.reduceNeg, Int.reducePow, Int.reduceLT, Int.reduceLE, List.length_set]
  refine ⟨k, m', 6, rfl, List.getElem?_set_self hk, b, by decide, by decide, fun r2 m2 b2 r20 r21 => ?_⟩
  refine ⟨_, rfl, k, m2, _, _, rfl, by rw [List.set_set]; exact List.getElem?_set_self hk, b2, rfl, by simp, by simp, fun d m3 b3 hd => ?_⟩
  have hcase : ∃ i : Int, d = .int i ∧ 0 ≤ i ∧ i ≤ 5 := by
    rcases List.mem_cons.mp hd with rfl | hd
    · exact ⟨0, rfl, by omega, by omega⟩
    rcases List.mem_cons.mp hd with rfl | hd
    · exact ⟨0, rfl, by omega, by omega⟩
    rcases List.mem_cons.mp hd with rfl | hd
    · exact ⟨1, rfl, by omega, by omega⟩
    rcases List.mem_cons.mp hd with rfl | hd
    · exact ⟨r2, rfl, by omega, by omega⟩
    cases hd
  obtain ⟨i, rfl, i0, i1⟩ := hcase
  refine ⟨_, rfl, ?_⟩
  rw [List.set_set, List.set_set]
  exact hQ (base + r, base + r + i) m3 b3 ⟨by simp only; omega, by simp only; omega, by simp only; omega⟩
end K

set_option maxHeartbeats 4000000
namespace K
open PySem PySem.Spec PyProof.Rows L2 LP
theorem zip_pz : ∀ xs ys : List Int, List.zipWith LP.pairD (xs.map .int) (ys.map .int) = (List.zip xs ys).map pzD
  | [], ys => by cases ys <;> rfl
  | x :: xs, [] => rfl
  | x :: xs, y :: ys => by
    rw [List.map_cons, List.map_cons, List.zipWith_cons_cons, zip_pz xs ys, List.zip_cons_cons, List.map_cons]
    rfl
theorem comp_filter2 {α : Type} {fi : QI} {t : TgF} {vs : List Nat} {b : QB} {f : QF} {Γ : Ga} {S : So} {it : So → Option (List D)} {g h : α → D} {p : α → Bool} {l : List α} (h1 : fi Γ S = some it) (h2 : it S = some (l.map g)) (h3 : ∀ x ∈ l, eltF t vs b f Γ S (g x) = if p x = true then some (some (h x)) else some none) : fComp fi t vs b f Γ S = some (.d (.lst ((l.filter p).map h))) := by
  have c : compL (eltF t vs b f Γ S) (l.map g) = some ((l.filter p).map h) := by
    rw [compL_map, ← compL_if]
    exact compL_congr h3
  simp only [fComp, h1, h2, c, Option.bind_some, Option.map_some]
theorem okL_iff {L : List (List PZ)} : okL L = true ↔ L.length ≤ 3 ∧ ∀ l ∈ L, oks 3 l = true := by
  unfold okL
  rw [Bool.and_eq_true, decide_eq_true_eq, List.all_eq_true]
theorem oks_up {n m : Nat} {l : List PZ} (h : oks n l = true) (hn : n ≤ m) : oks m l = true := by
  obtain ⟨h1, h2⟩ := oks_iff.mp h
  exact oks_iff.mpr ⟨h1, by omega⟩
theorem flat_le : ∀ {L : List (List PZ)}, (∀ l ∈ L, oks 3 l = true) → L.flatten.length ≤ 3 * L.length
  | [], _ => by simp
  | l :: L, h => by
    have h1 := (oks_iff.mp (h l List.mem_cons_self)).2
    have h2 := flat_le (L := L) fun l' hl => h l' (List.mem_cons_of_mem _ hl)
    rw [List.flatten_cons, List.length_append, List.length_cons]
    omega
theorem flat_ok {L : List (List PZ)} (h : ∀ l ∈ L, oks 3 l = true) : ∀ p ∈ L.flatten, okP p = true := fun p hp => by
  obtain ⟨l, hl, hp⟩ := List.mem_flatten.mp hp
  exact (oks_iff.mp (h l hl)).1 p hp
theorem letters_some : ∀ {ls : List D} {L : List (List PZ)}, lettersOf ls = some L → ls = L.map ltr
  | [], L, h => by cases h; rfl
  | d :: ls, L, h => by
    rw [lettersOf] at h
    cases e : runsOf d with
    | none => rw [e] at h; cases h
    | some rs =>
      cases e2 : lettersOf ls with
      | none => rw [e, e2] at h; cases h
      | some L' =>
        rw [e, e2] at h; cases h
        rw [List.map_cons, (runsOf_some e).1, letters_some e2]
theorem letters_ok : ∀ {L : List (List PZ)}, (∀ l ∈ L, oks 60 l = true) → lettersOf (L.map ltr) = some L
  | [], _ => rfl
  | l :: L, h => by
    rw [List.map_cons, lettersOf, runsOf_ltr (h l List.mem_cons_self), letters_ok fun l' hl => h l' (List.mem_cons_of_mem _ hl)]
    rfl
theorem rows_some : ∀ {ls : List D} {L : List (List PZ)}, rowsL ls = some L → ls = L.map fun l => .lst (l.map pzD)
  | [], L, h => by cases h; rfl
  | d :: ls, L, h => by
    cases d with
    | lst l =>
      rw [rowsL] at h
      cases e : spansOf (.lst l) with
      | none => rw [e] at h; cases h
      | some rs =>
        cases e2 : rowsL ls with
        | none => rw [e, e2] at h; cases h
        | some L' =>
          rw [e, e2] at h; cases h
          have h1 := (spansOf_some e).1
          have h1' : l = rs.map pzD := by rcases h1 with h1 | h1 <;> cases h1; rfl
          rw [List.map_cons, h1', rows_some e2]
    | _ => simp [rowsL] at h
theorem rows_ok : ∀ {L : List (List PZ)}, (∀ l ∈ L, oks 60 l = true) → rowsL (L.map fun l => .lst (l.map pzD)) = some L
  | [], _ => rfl
  | l :: L, h => by
    rw [List.map_cons, rowsL, spansOf_lst (h l List.mem_cons_self), rows_ok fun l' hl => h l' (List.mem_cons_of_mem _ hl)]
    rfl
theorem contains_ok {rs : List PZ} {x : Int} (h : oks 60 rs = true) : G_contains [.ins 0 [.lst (rs.map pzD)], .int x] = some (.ok (.bl (decide (0 ≤ x ∧ x ≤ GR) && inL x rs))) := by
  show (runsOf (ltr rs)).map _ = _
  rw [runsOf_ltr h]; rfl
theorem ints_tail {b : List Int} : LP.cutD (b.map .int) (some 1) none = b.tail.map .int := by
  unfold LP.cutD
  rw [HT.sIx_none, show (1 : Int) = ((1 : Nat) : Int) from rfl, HT.sIx_nat, List.length_map]
  cases b with
  | nil => simp
  | cons x b =>
    rw [List.length_cons, Nat.min_eq_left (by omega)]
    simp [List.take_of_length_le]
theorem sortS_ok {S : So} {ns : List Int} (h : ns.length < 64) : gSortS S (.d (.lst (ns.map .int))) = some (.lst ((srtS ns).map .int)) := by
  simp only [gSortS, viewL, Option.bind_some, LP.ints_map, h, if_true]
/-! the growing list of pieces -/
def accT (acc : List T3) : MO := .lst ((acc.map t3D).map .d)
theorem eq_loc3 {S : So} {k : Nat} {acc : List T3} (neg : Bool) (h : S[k]? = some (accT acc)) : gEqU neg S (.loc k) (.d (.lst [])) = some (.bl (if neg then !decide (acc = []) else decide (acc = []))) := by
  have e := deq_t3 acc
  simp only [gEqU, gEq, valD, viewL, h, accT, dataOf_map, Option.map_some, Option.bind_some, e]
theorem map_split3 {l : List T3} {q : T3} (h : l.getLast? = some q) : l = l.dropLast ++ [q] := by
  have hne : l ≠ [] := by rintro rfl; cases h
  rw [List.getLast?_eq_some_getLast hne] at h
  cases h
  exact (List.dropLast_concat_getLast hne).symm
theorem len3 (l : List T3) : ((l.map t3D).map A.d).length = l.length := by rw [List.length_map, List.length_map]
theorem big60' {n : Nat} (h : n ≤ 60) : (n < sizeLine) = True := eq_true (Nat.lt_of_le_of_lt h (by decide))
theorem frz_acc3 (acc : List T3) : frz [accT acc] (.loc 0) = some (.lst (acc.map t3D), [.frz (.lst (acc.map t3D))]) := by
  simp only [frz, accT, List.getElem?_cons_zero, dataOf_map, Option.map_some, List.set_cons_zero]
theorem enum_ltr (L : List (List PZ)) : List.zipWith LP.pairD ((List.range (L.map ltr).length).map fun (i : Nat) => D.int (i : Int)) (L.map ltr) = (List.range L.length).map fun (i : Nat) => LP.pairD (.int (i : Int)) (ltr (L.getD i [])) := by
  apply List.ext_getElem?
  intro i
  rw [List.getElem?_zipWith, List.getElem?_map, List.getElem?_map, List.getElem?_map, List.length_map]
  by_cases h : i < L.length
  · rw [List.getElem?_range h, List.getElem?_eq_getElem h]
    simp [List.getD_eq_getElem?_getD, List.getElem?_eq_getElem h]
  · rw [List.getElem?_eq_none (l := L) (by omega), List.getElem?_eq_none (l := List.range L.length) (by simpa using h)]
    rfl
section
variable {L : List (List PZ)} {x1 x2 x3 x6 x7 x8 x9 x10 x11 x12 : Option A} {S : So} {x : Int} {a : Option A}
theorem places_cut (hk : okL L = true) (h0 : 0 ≤ x) (h1 : x ≤ GR) : fComp (iET (fV 0)) (tgT [12, 8]) [12, 8] (bV (fOp (gEither (gOwnIn false 0 G_contains) (gInU false)) (fV 5) (fV 8))) (fV 12) [some (.d (.tup (L.map ltr))), x1, x2, x3, a, some (.d (.int x)), x6, x7, x8, x9, x10, x11, x12] S = some (.d (.lst ((plL x L).map .int))) := by
  obtain ⟨hl, ho⟩ := okL_iff.mp hk
  have := comp_filter2 (fi := iET (fV 0)) (t := tgT [12, 8]) (vs := [12, 8]) (b := bV (fOp (gEither (gOwnIn false 0 G_contains) (gInU false)) (fV 5) (fV 8))) (f := fV 12) (Γ := [some (.d (.tup (L.map ltr))), x1, x2, x3, a, some (.d (.int x)), x6, x7, x8, x9, x10, x11, x12]) (S := S) (it := fun _ => some ((List.range L.length).map fun (i : Nat) => LP.pairD (.int (i : Int)) (ltr (L.getD i [])))) (g := fun (i : Nat) => LP.pairD (.int (i : Int)) (ltr (L.getD i []))) (h := fun (i : Nat) => D.int (i : Int)) (p := fun i => inL x (L.getD i [])) (l := List.range L.length) (by simp only [iET, fV, List.getElem?_cons_zero, Option.map_some, viewT, enum_ltr]) rfl fun i hi => ?_
  · rw [this]
    unfold plL
    rw [List.map_map]
    rfl
  · rw [List.mem_range] at hi
    have hm : L.getD i [] ∈ L := by
      rw [List.getD_eq_getElem?_getD, List.getElem?_eq_getElem hi, Option.getD_some]
      exact List.getElem_mem hi
    have hx' : decide (0 ≤ x ∧ x ≤ GR) = true := decide_eq_true ⟨h0, h1⟩
    have hc := contains_ok (x := x) (oks_up (ho _ hm) (by decide : 3 ≤ 60))
    rw [hx', Bool.true_and] at hc
    simp only [eltF, wipeG, LP.pairD, ltr, hc, stG, wSeq, wIf, wAsg, wRet, wRetN, wNext, wDrop, wP, wB, wPs, wCons, wNil, wOp, wFn, wPar, wAsgT, wTup, wLst, wNewL, setIx_eq, setA, wM1, wI, wFor, bV, bNot, bAnd, bOr, fOp, fC, fV, fCons, fNil, fCall, fIsi, fAnd, fOr, fNot, chain_le, fTup, fLst, fIf, fFn, tgN, tgT, setAll, gI, gLen, gLe, gLt, gGe, gGt, LP.gSub, gMod, gFdiv, gPow, gPlus, gTimes, gIntA, gInt, gIsN, gIx, tyA, TN.sub, LP.dataOf, A.toD, viewL, viewQ, viewT, gEq_ii, gEq_ss, gEq_bb, gEq_nn, fSl, slV, oN, oS, iL, iR1, wFnM, gFdivW, tNot', tV, wFrz, fFld, fldV, gEither, gOwnIn, gOwnBin, gOwnEq, fIsiO, gIsiO, fProp, propV, fMeth, fMake, fMakeV, twoT, viewT, iZQ, iET, Option.bind_some, Option.map_some, Option.bind_none, Option.map_none, Option.bind, Option.map, List.getElem?_cons_zero, List.getElem?_cons_succ, List.getElem?_nil, List.set_cons_zero, List.set_cons_succ, List.set_nil, if_true, if_false, ↓reduceIte, Bool.not_true, Bool.not_false, decide_true, decide_false, Bool.false_eq_true, reduceCtorEq, true_and, false_and, and_true, and_false, not_true, not_false_eq_true, List.any_cons, List.any_nil, Bool.or_false, Bool.or_true, Bool.true_or, Bool.false_or, Bool.and_true, Bool.true_and, Bool.and_false, Bool.false_and, exists_eq_left, exists_eq_left', Option.some.injEq, A.d.injEq, D.int.injEq, D.bl.injEq, D.str.injEq, D.lst.injEq, D.tup.injEq, Except.ok.injEq, List.cons_append, List.nil_append, List.map_cons, List.map_nil, List.length_cons, List.length_nil, List.replicate, Nat.reduceSub, Nat.reduceAdd, List.append_nil, eq_self, or_true, true_or, or_false, false_or, Int.reduceNeg, Int.reducePow, Int.reduceLT, Int.reduceLE, List.length_set]
end
section
variable {L : List (List PZ)} {x1 x2 x3 x7 x8 x9 x10 x11 x12 : Option A}
theorem cut_turn {acc : List T3} {p : PZ} {E : Dn} (hk : okL L = true) (h0 : 0 ≤ p.1) (h1 : p.1 ≤ GR) (hl : acc.length ≤ 60)
    (hE : ∀ Γ S' z7, S' = [accT (cstep (fun x => plL x L) acc p)] → Γ = [some (.d (.tup (L.map ltr))), x1, x2, x3, some (.loc 0), some (.d (.int p.1)), some (.d (.int p.2)), z7, x8, x9, x10, x11, x12] → E.nx Γ S') :
    w_cut_for1_0 [some (.d (.tup (L.map ltr))), x1, x2, x3, some (.loc 0), some (.d (.int p.1)), some (.d (.int p.2)), x7, x8, x9, x10, x11, x12] [accT acc] E := by
  have f1 := places_cut (x1 := x1) (x2 := x2) (x3 := x3) (a := some (.loc 0)) (x6 := some (.d (.int p.2))) (x7 := x7) (x8 := x8) (x9 := x9) (x10 := x10) (x11 := x11) (x12 := x12) (S := [accT acc]) hk h0 h1
  have e0 := eq_loc3 (S := [accT acc]) (k := 0) true rfl
  have hz : ((acc.map t3D).map A.d).length < sizeLine := by rw [len3]; exact of_eq_true (big60' hl)
  have f2 : ∀ l, gTuple [accT acc] [.d (.lst l)] = some (.tup l) := fun l => rfl
  simp only [w_cut_for1_0, f1, f2, stG, wSeq, wIf, wAsg, wRet, wRetN, wNext, wDrop, wP, wB, wPs, wCons, wNil, wOp, wFn, wPar, wAsgT, wTup, wLst, wNewL, setIx_eq, setA, wM1, wI, wFor, bV, bNot, bAnd, bOr, fOp, fC, fV, fCons, fNil, fCall, fIsi, fAnd, fOr, fNot, chain_le, fTup, fLst, fIf, fFn, tgN, tgT, setAll, gI, gLen, gLe, gLt, gGe, gGt, LP.gSub, gMod, gFdiv, gPow, gPlus, gTimes, gIntA, gInt, gIsN, gIx, tyA, TN.sub, LP.dataOf, A.toD, viewL, viewQ, viewT, gEq_ii, gEq_ss, gEq_bb, gEq_nn, fSl, slV, oN, oS, iL, iR1, wFnM, gFdivW, tNot', tV, wFrz, fFld, fldV, gEither, gOwnIn, gOwnBin, gOwnEq, fIsiO, gIsiO, fProp, propV, fMeth, fMake, fMakeV, twoT, viewT, iZQ, iET, Option.bind_some, Option.map_some, Option.bind_none, Option.map_none, Option.bind, Option.map, List.getElem?_cons_zero, List.getElem?_cons_succ, List.getElem?_nil, List.set_cons_zero, List.set_cons_succ, List.set_nil, if_true, if_false, ↓reduceIte, Bool.not_true, Bool.not_false, decide_true, decide_false, Bool.false_eq_true, reduceCtorEq, true_and, false_and, and_true, and_false, not_true, not_false_eq_true, List.any_cons, List.any_nil, Bool.or_false, Bool.or_true, Bool.true_or, Bool.false_or, Bool.and_true, Bool.true_and, Bool.and_false, Bool.false_and, exists_eq_left, exists_eq_left', Option.some.injEq, A.d.injEq, D.int.injEq, D.bl.injEq, D.str.injEq, D.lst.injEq, D.tup.injEq, Except.ok.injEq, List.cons_append, List.nil_append, List.map_cons, List.map_nil, List.length_cons, List.length_nil, List.replicate, Nat.reduceSub, Nat.reduceAdd, List.append_nil, eq_self, or_true, true_or, or_false, false_or, Int.reduceNeg, Int.reducePow, Int.reduceLT, Int.reduceLE, List.length_set]
  cases hg : acc.getLast? with
  | none =>
    have hn : acc = [] := by
      cases acc with
      | nil => rfl
      | cons a b => simp at hg
    subst hn
    have e0' : gEqU true [accT []] (.loc 0) (.d (.lst [])) = some (.bl false) := by rw [e0]; rfl
    simp only [w_cut_for1_1, e0', stG, wSeq, wIf, wAsg, wRet, wRetN, wNext, wB, wCons, wNil, wOp, wFn, wPar, wAsgT, wTup, wLst, wNewL, setIx_eq, setA, wM1, wI, wFor, bV, bNot, bAnd, bOr, fOp, fC, fV, fCons, fNil, fCall, fIsi, fAnd, fOr, fNot, chain_le, fTup, fLst, fIf, fFn, tgN, tgT, setAll, gI, gLen, gLe, gLt, gGe, gGt, LP.gSub, gMod, gFdiv, gPow, gPlus, gTimes, gIntA, gInt, gIsN, gIx, tyA, TN.sub, LP.dataOf, A.toD, viewL, viewQ, viewT, gEq_ii, gEq_ss, gEq_bb, gEq_nn, fSl, slV, oN, oS, iL, iR1, wFnM, gFdivW, tNot', tV, wFrz, fFld, fldV, gEither, gOwnIn, gOwnBin, gOwnEq, fIsiO, gIsiO, fProp, propV, fMeth, fMake, fMakeV, twoT, viewT, iZQ, iET, Option.bind_some, Option.map_some, Option.bind_none, Option.map_none, Option.bind, Option.map, List.getElem?_cons_zero, List.getElem?_cons_succ, List.getElem?_nil, List.set_cons_zero, List.set_cons_succ, List.set_nil, if_true, if_false, ↓reduceIte, Bool.not_true, Bool.not_false, decide_true, decide_false, Bool.false_eq_true, reduceCtorEq, true_and, false_and, and_true, and_false, not_true, not_false_eq_true, List.any_cons, List.any_nil, Bool.or_false, Bool.or_true, Bool.true_or, Bool.false_or, Bool.and_true, Bool.true_and, Bool.and_false, Bool.false_and, exists_eq_left, exists_eq_left', Option.some.injEq, A.d.injEq, D.int.injEq, D.bl.injEq, D.str.injEq, D.lst.injEq, D.tup.injEq, Except.ok.injEq, List.cons_append, List.nil_append, List.map_cons, List.map_nil, List.length_cons, List.length_nil, List.replicate, Nat.reduceSub, Nat.reduceAdd, List.append_nil, eq_self, or_true, true_or, or_false, false_or, Int.reduceNeg, Int.reducePow, Int.reduceLT, Int.reduceLE, List.length_set]
    exact lm_app (l := []) rfl rfl rfl (by decide) (hE _ _ _ rfl rfl)
  | some q =>
    have hne : decide (acc = []) = false := decide_eq_false (by rintro rfl; cases hg)
    have hms : acc.map t3D = acc.dropLast.map t3D ++ [t3D q] := by
      have e := map_split3 hg
      have : acc.map t3D = (acc.dropLast ++ [q]).map t3D := by rw [← e]
      rw [this, List.map_append]; rfl
    have e0' : gEqU true [accT acc] (.loc 0) (.d (.lst [])) = some (.bl true) := by rw [e0, hne]; rfl
    have e1 : viewL [accT acc] (.loc 0) = some (acc.map t3D) := by simp only [viewL, accT, List.getElem?_cons_zero, dataOf_map]
    have e2 : LP.gIx [accT acc] (.loc 0) (.d (.int (-1))) = some (t3D q) := by
      simp only [LP.gIx, viewQ, e1, Option.bind_some]
      rw [hms, atlast]
    have z0 : LP.gIx [accT acc] (.d (t3D q)) (.d (.int 0)) = some (.int q.1) := rfl
    have z2 : LP.gIx [accT acc] (.d (t3D q)) (.d (.int 2)) = some (.tup (q.2.2.map .int)) := rfl
    have e3 := eq_tints false [accT acc] q.2.2 (plL p.1 L)
    by_cases hc : q.2.2 = plL p.1 L
    · have hc' : decide (q.2.2 = plL p.1 L) = true := decide_eq_true hc
      rw [hc'] at e3
      simp only [w_cut_for1_1, e0', e2, z0, z2, e3, setIx_eq, fNeg, stG, wSeq, wIf, wAsg, wRet, wRetN, wNext, wDrop, wP, wB, wPs, wCons, wNil, wOp, wFn, wPar, wAsgT, wTup, wLst, wNewL, setIx_eq, wM1, wI, wFor, bV, bNot, bAnd, bOr, fOp, fC, fV, fCons, fNil, fCall, fIsi, fAnd, fOr, fNot, chain_le, fTup, fLst, fIf, fFn, tgN, tgT, setAll, gI, gLen, gLe, gLt, gGe, gGt, LP.gSub, gMod, gFdiv, gPow, gPlus, gTimes, gIntA, gInt, gIsN, tyA, TN.sub, LP.dataOf, A.toD, viewT, gEq_ii, gEq_ss, gEq_bb, gEq_nn, fSl, slV, oN, oS, iL, iR1, wFnM, gFdivW, tNot', tV, wFrz, fFld, fldV, gEither, gOwnIn, gOwnBin, gOwnEq, fIsiO, gIsiO, fProp, propV, fMeth, fMake, fMakeV, twoT, viewT, iZQ, iET, Option.bind_some, Option.map_some, Option.bind_none, Option.map_none, Option.bind, Option.map, List.getElem?_cons_zero, List.getElem?_cons_succ, List.getElem?_nil, List.set_cons_zero, List.set_cons_succ, List.set_nil, if_true, if_false, ↓reduceIte, Bool.not_true, Bool.not_false, decide_true, decide_false, Bool.false_eq_true, reduceCtorEq, true_and, false_and, and_true, and_false, not_true, not_false_eq_true, List.any_cons, List.any_nil, Bool.or_false, Bool.or_true, Bool.true_or, Bool.false_or, Bool.and_true, Bool.true_and, Bool.and_false, Bool.false_and, exists_eq_left, exists_eq_left', Option.some.injEq, A.d.injEq, D.int.injEq, D.bl.injEq, D.str.injEq, D.lst.injEq, D.tup.injEq, Except.ok.injEq, List.cons_append, List.nil_append, List.map_cons, List.map_nil, List.length_cons, List.length_nil, List.replicate, Nat.reduceSub, Nat.reduceAdd, List.append_nil, eq_self, or_true, true_or, or_false, false_or, Int.reduceNeg, Int.reducePow, Int.reduceLT, Int.reduceLE, List.length_set]
      refine ⟨[accT (cstep (fun x => plL x L) acc p)], ?_, hE _ _ _ rfl rfl⟩
      have hi : ixN ((acc.map t3D).map A.d).length (-1 : Int) = some (acc.length - 1) := by
        rw [len3]
        have : 0 < acc.length := by
          cases acc with
          | nil => cases hg
          | cons => simp
        unfold ixN
        rw [if_neg (by decide), if_pos (by omega)]
        congr 1
        omega
      have e4 : cstep (fun x => plL x L) acc p = acc.dropLast ++ [(q.1, p.2 - 1, plL p.1 L)] := by simp only [cstep, hg, if_pos hc]
      simp only [setA, List.getElem?_cons_zero, accT, hi, Option.map_some, e4]
      rw [List.set_cons_zero]
      congr 3
      have hsp := map_split3 hg
      generalize acc.dropLast = a at hsp
      subst hsp
      simp [t3D, List.set_append]
    · have hc' : decide (q.2.2 = plL p.1 L) = false := decide_eq_false hc
      rw [hc'] at e3
      simp only [w_cut_for1_1, e0', e2, z0, z2, e3, fNeg, stG, wSeq, wIf, wAsg, wRet, wRetN, wNext, wB, wCons, wNil, wOp, wFn, wPar, wAsgT, wTup, wLst, wNewL, setIx_eq, setA, wM1, wI, wFor, bV, bNot, bAnd, bOr, fOp, fC, fV, fCons, fNil, fCall, fIsi, fAnd, fOr, fNot, chain_le, fTup, fLst, fIf, fFn, tgN, tgT, setAll, gI, gLen, gLe, gLt, gGe, gGt, LP.gSub, gMod, gFdiv, gPow, gPlus, gTimes, gIntA, gInt, gIsN, tyA, TN.sub, LP.dataOf, A.toD, viewT, gEq_ii, gEq_ss, gEq_bb, gEq_nn, fSl, slV, oN, oS, iL, iR1, wFnM, gFdivW, tNot', tV, wFrz, fFld, fldV, gEither, gOwnIn, gOwnBin, gOwnEq, fIsiO, gIsiO, fProp, propV, fMeth, fMake, fMakeV, twoT, viewT, iZQ, iET, Option.bind_some, Option.map_some, Option.bind_none, Option.map_none, Option.bind, Option.map, List.getElem?_cons_zero, List.getElem?_cons_succ, List.getElem?_nil, List.set_cons_zero, List.set_cons_succ, List.set_nil, if_true, if_false, ↓reduceIte, Bool.not_true, Bool.not_false, decide_true, decide_false, Bool.false_eq_true, reduceCtorEq, true_and, false_and, and_true, and_false, not_true, not_false_eq_true, List.any_cons, List.any_nil, Bool.or_false, Bool.or_true, Bool.true_or, Bool.false_or, Bool.and_true, Bool.true_and, Bool.and_false, Bool.false_and, exists_eq_left, exists_eq_left', Option.some.injEq, A.d.injEq, D.int.injEq, D.bl.injEq, D.str.injEq, D.lst.injEq, D.tup.injEq, Except.ok.injEq, List.cons_append, List.nil_append, List.map_cons, List.map_nil, List.length_cons, List.length_nil, List.replicate, Nat.reduceSub, Nat.reduceAdd, List.append_nil, eq_self, or_true, true_or, or_false, false_or, Int.reduceNeg, Int.reducePow, Int.reduceLT, Int.reduceLE, List.length_set]
      have e4 : cstep (fun x => plL x L) acc p = acc ++ [(p.1, p.2 - 1, plL p.1 L)] := by simp only [cstep, hg, if_neg hc]
      refine lm_app (l := (acc.map t3D).map A.d) rfl rfl rfl hz (hE _ _ _ ?_ rfl)
      rw [e4]
      simp [accT, t3D]
end
theorem cstep_len (pl : Int → List Int) (acc : List T3) (p : PZ) : (cstep pl acc p).length ≤ acc.length + 1 := by
  unfold cstep
  split
  · rename_i q hq
    split
    · have : acc ≠ [] := by rintro rfl; cases hq
      simp <;> omega
    · simp
  · simp
theorem pieces_len (b : List Int) : (piecesL b).length = b.length := by
  unfold piecesL
  cases b <;> simp
theorem ends_len {L : List (List PZ)} (hk : okL L = true) : (endsL L).length ≤ 19 := by
  obtain ⟨hl, ho⟩ := okL_iff.mp hk
  have h1 := flat_le (L := L) ho
  have h2 := List.length_filter_le (fun p : PZ => decide (p.2 < GR)) L.flatten
  unfold endsL
  rw [List.length_cons, List.length_append, List.length_map, List.length_map]
  omega
theorem piece_fst {b : List Int} {p : PZ} (h : p ∈ piecesL b) : p.1 ∈ b := (List.of_mem_zip h).1
theorem v_cut (ds : List D) (o : Except Er D) (h : G_cut ds = some o) : w_cut (stG N_cut (ds.map A.d)) [] (dnP o) := by
  unfold G_cut at h
  split at h
  · rename_i ls
    cases e : lettersOf ls with
    | none => rw [e] at h; cases h
    | some L =>
      rw [e, Option.bind_some] at h
      split at h
      · rename_i hk
        cases h
        have hls := letters_some e
        subst hls
        obtain ⟨hl, ho⟩ := okL_iff.mp hk
        have hf := flat_ok (L := L) ho
        have c1 : catL (elt2 (tgN 8) [8, 9] (fun _ _ => some true) (iL (fMeth mt_runs (fV 8) fNil)) (tgN 9) [9] (fun _ _ => some true) (fV 9) [some (.d (.tup (L.map ltr))), none, none, none, none, none, none, none, none, none, none, none, none] []) (L.map ltr) = some (L.flatten.map pzD) := by
          rw [catL_flat (k := fun rs => rs.map pzD)]
          · rw [List.map_flatten, List.flatMap_def]
          · intro rs hrs
            have hr := runs_ok (oks_up (ho rs hrs) (by decide : 3 ≤ 60))
            simp only [elt2, wipeG, ltr, mt_runs, hr, stG, wSeq, wIf, wAsg, wRet, wRetN, wNext, wDrop, wP, wB, wPs, wCons, wNil, wOp, wFn, wPar, wAsgT, wTup, wLst, wNewL, setIx_eq, setA, wM1, wI, wFor, bV, bNot, bAnd, bOr, fOp, fC, fV, fCons, fNil, fCall, fIsi, fAnd, fOr, fNot, chain_le, fTup, fLst, fIf, fFn, tgN, tgT, setAll, gI, gLen, gLe, gLt, gGe, gGt, LP.gSub, gMod, gFdiv, gPow, gPlus, gTimes, gIntA, gInt, gIsN, gIx, tyA, TN.sub, LP.dataOf, A.toD, viewL, viewQ, viewT, gEq_ii, gEq_ss, gEq_bb, gEq_nn, fSl, slV, oN, oS, iL, iR1, wFnM, gFdivW, tNot', tV, wFrz, fFld, fldV, gEither, gOwnIn, gOwnBin, gOwnEq, fIsiO, gIsiO, fProp, propV, fMeth, fMake, fMakeV, twoT, viewT, iZQ, iET, Option.bind_some, Option.map_some, Option.bind_none, Option.map_none, Option.bind, Option.map, List.getElem?_cons_zero, List.getElem?_cons_succ, List.getElem?_nil, List.set_cons_zero, List.set_cons_succ, List.set_nil, if_true, if_false, ↓reduceIte, Bool.not_true, Bool.not_false, decide_true, decide_false, Bool.false_eq_true, reduceCtorEq, true_and, false_and, and_true, and_false, not_true, not_false_eq_true, List.any_cons, List.any_nil, Bool.or_false, Bool.or_true, Bool.true_or, Bool.false_or, Bool.and_true, Bool.true_and, Bool.and_false, Bool.false_and, exists_eq_left, exists_eq_left', Option.some.injEq, A.d.injEq, D.int.injEq, D.bl.injEq, D.str.injEq, D.lst.injEq, D.tup.injEq, Except.ok.injEq, List.cons_append, List.nil_append, List.map_cons, List.map_nil, List.length_cons, List.length_nil, List.replicate, Nat.reduceSub, Nat.reduceAdd, List.append_nil, eq_self, or_true, true_or, or_false, false_or, Int.reduceNeg, Int.reducePow, Int.reduceLT, Int.reduceLE, List.length_set]
            rw [compL_map, ← compL_some]
            refine compL_congr fun q hq => ?_
            simp only [eltF, wipeG, stG, wSeq, wIf, wAsg, wRet, wRetN, wNext, wDrop, wP, wB, wPs, wCons, wNil, wOp, wFn, wPar, wAsgT, wTup, wLst, wNewL, setIx_eq, setA, wM1, wI, wFor, bV, bNot, bAnd, bOr, fOp, fC, fV, fCons, fNil, fCall, fIsi, fAnd, fOr, fNot, chain_le, fTup, fLst, fIf, fFn, tgN, tgT, setAll, gI, gLen, gLe, gLt, gGe, gGt, LP.gSub, gMod, gFdiv, gPow, gPlus, gTimes, gIntA, gInt, gIsN, gIx, tyA, TN.sub, LP.dataOf, A.toD, viewL, viewQ, viewT, gEq_ii, gEq_ss, gEq_bb, gEq_nn, fSl, slV, oN, oS, iL, iR1, wFnM, gFdivW, tNot', tV, wFrz, fFld, fldV, gEither, gOwnIn, gOwnBin, gOwnEq, fIsiO, gIsiO, fProp, propV, fMeth, fMake, fMakeV, twoT, viewT, iZQ, iET, Option.bind_some, Option.map_some, Option.bind_none, Option.map_none, Option.bind, Option.map, List.getElem?_cons_zero, List.getElem?_cons_succ, List.getElem?_nil, List.set_cons_zero, List.set_cons_succ, List.set_nil, if_true, if_false, ↓reduceIte, Bool.not_true, Bool.not_false, decide_true, decide_false, Bool.false_eq_true, reduceCtorEq, true_and, false_and, and_true, and_false, not_true, not_false_eq_true, List.any_cons, List.any_nil, Bool.or_false, Bool.or_true, Bool.true_or, Bool.false_or, Bool.and_true, Bool.true_and, Bool.and_false, Bool.false_and, exists_eq_left, exists_eq_left', Option.some.injEq, A.d.injEq, D.int.injEq, D.bl.injEq, D.str.injEq, D.lst.injEq, D.tup.injEq, Except.ok.injEq, List.cons_append, List.nil_append, List.map_cons, List.map_nil, List.length_cons, List.length_nil, List.replicate, Nat.reduceSub, Nat.reduceAdd, List.append_nil, eq_self, or_true, true_or, or_false, false_or, Int.reduceNeg, Int.reducePow, Int.reduceLT, Int.reduceLE, List.length_set]
        have hz1 : (L.flatten.map pzD).length ≤ sizeLine := by
          have h1 := flat_le (L := L) ho
          rw [List.length_map]
          exact Nat.le_trans (by omega : L.flatten.length ≤ 9) (by decide)
        have c2 : fComp (iL (fV 1)) (tgT [5, 10]) [5, 10] (fun _ _ => some true) (fV 5) [some (.d (.tup (L.map ltr))), some (.d (.lst (L.flatten.map pzD))), none, none, none, none, none, none, none, none, none, none, none] [] = some (.d (.lst ((L.flatten.map (·.1)).map .int))) := by
          rw [List.map_map]
          exact comp_map rfl rfl fun p hp => by simp only [eltF, wipeG, pzD, Function.comp, stG, wSeq, wIf, wAsg, wRet, wRetN, wNext, wDrop, wP, wB, wPs, wCons, wNil, wOp, wFn, wPar, wAsgT, wTup, wLst, wNewL, setIx_eq, setA, wM1, wI, wFor, bV, bNot, bAnd, bOr, fOp, fC, fV, fCons, fNil, fCall, fIsi, fAnd, fOr, fNot, chain_le, fTup, fLst, fIf, fFn, tgN, tgT, setAll, gI, gLen, gLe, gLt, gGe, gGt, LP.gSub, gMod, gFdiv, gPow, gPlus, gTimes, gIntA, gInt, gIsN, gIx, tyA, TN.sub, LP.dataOf, A.toD, viewL, viewQ, viewT, gEq_ii, gEq_ss, gEq_bb, gEq_nn, fSl, slV, oN, oS, iL, iR1, wFnM, gFdivW, tNot', tV, wFrz, fFld, fldV, gEither, gOwnIn, gOwnBin, gOwnEq, fIsiO, gIsiO, fProp, propV, fMeth, fMake, fMakeV, twoT, viewT, iZQ, iET, Option.bind_some, Option.map_some, Option.bind_none, Option.map_none, Option.bind, Option.map, List.getElem?_cons_zero, List.getElem?_cons_succ, List.getElem?_nil, List.set_cons_zero, List.set_cons_succ, List.set_nil, if_true, if_false, ↓reduceIte, Bool.not_true, Bool.not_false, decide_true, decide_false, Bool.false_eq_true, reduceCtorEq, true_and, false_and, and_true, and_false, not_true, not_false_eq_true, List.any_cons, List.any_nil, Bool.or_false, Bool.or_true, Bool.true_or, Bool.false_or, Bool.and_true, Bool.true_and, Bool.and_false, Bool.false_and, exists_eq_left, exists_eq_left', Option.some.injEq, A.d.injEq, D.int.injEq, D.bl.injEq, D.str.injEq, D.lst.injEq, D.tup.injEq, Except.ok.injEq, List.cons_append, List.nil_append, List.map_cons, List.map_nil, List.length_cons, List.length_nil, List.replicate, Nat.reduceSub, Nat.reduceAdd, List.append_nil, eq_self, or_true, true_or, or_false, false_or, Int.reduceNeg, Int.reducePow, Int.reduceLT, Int.reduceLE, List.length_set]
        have c3 : fComp (iL (fV 1)) (tgT [5, 10]) [5, 10] (bV (fOp gLt (fV 10) (fC (.int 999999999999999999)))) (fOp gPlus (fV 10) (fC (.int 1))) [some (.d (.tup (L.map ltr))), some (.d (.lst (L.flatten.map pzD))), none, none, none, none, none, none, none, none, none, none, none] [] = some (.d (.lst (((L.flatten.filter fun p => decide (p.2 < GR)).map (·.2 + 1)).map .int))) := by
          rw [List.map_map]
          refine comp_filter2 rfl rfl fun p hp => ?_
          by_cases hc : p.2 < GR
          · have hc2 : p.2 < 999999999999999999 := hc
            simp [eltF, wipeG, pzD, hc, hc2, stG, wSeq, wIf, wAsg, wRet, wRetN, wNext, wDrop, wP, wB, wPs, wCons, wNil, wOp, wFn, wPar, wAsgT, wTup, wLst, wNewL, setIx_eq, setA, wM1, wI, wFor, bV, bNot, bAnd, bOr, fOp, fC, fV, fCons, fNil, fCall, fIsi, fAnd, fOr, fNot, chain_le, fTup, fLst, fIf, fFn, tgN, tgT, setAll, gI, gLen, gLe, gLt, gGe, gGt, LP.gSub, gMod, gFdiv, gPow, gPlus, gTimes, gIntA, gInt, gIsN, gIx, tyA, TN.sub, LP.dataOf, A.toD, viewL, viewQ, viewT, gEq_ii, gEq_ss, gEq_bb, gEq_nn, fSl, slV, oN, oS, iL, iR1, wFnM, gFdivW, tNot', tV, wFrz, fFld, fldV, gEither, gOwnIn, gOwnBin, gOwnEq, fIsiO, gIsiO, fProp, propV, fMeth, fMake, fMakeV, twoT, viewT, iZQ, iET, Option.bind_some, Option.map_some, Option.bind_none, Option.map_none, Option.bind, Option.map, List.getElem?_cons_zero, List.getElem?_cons_succ, List.getElem?_nil, List.set_cons_zero, List.set_cons_succ, List.set_nil, if_true, if_false, ↓reduceIte, Bool.not_true, Bool.not_false, decide_true, decide_false, Bool.false_eq_true, reduceCtorEq, true_and, false_and, and_true, and_false, not_true, not_false_eq_true, List.any_cons, List.any_nil, Bool.or_false, Bool.or_true, Bool.true_or, Bool.false_or, Bool.and_true, Bool.true_and, Bool.and_false, Bool.false_and, exists_eq_left, exists_eq_left', Option.some.injEq, A.d.injEq, D.int.injEq, D.bl.injEq, D.str.injEq, D.lst.injEq, D.tup.injEq, Except.ok.injEq, List.cons_append, List.nil_append, List.map_cons, List.map_nil, List.length_cons, List.length_nil, List.replicate, Nat.reduceSub, Nat.reduceAdd, List.append_nil, eq_self, or_true, true_or, or_false, false_or, Int.reduceNeg, Int.reducePow, Int.reduceLT, Int.reduceLE, List.length_set]
          · have hc2 : ¬ p.2 < 999999999999999999 := hc
            simp [eltF, wipeG, pzD, hc, hc2, stG, wSeq, wIf, wAsg, wRet, wRetN, wNext, wDrop, wP, wB, wPs, wCons, wNil, wOp, wFn, wPar, wAsgT, wTup, wLst, wNewL, setIx_eq, setA, wM1, wI, wFor, bV, bNot, bAnd, bOr, fOp, fC, fV, fCons, fNil, fCall, fIsi, fAnd, fOr, fNot, chain_le, fTup, fLst, fIf, fFn, tgN, tgT, setAll, gI, gLen, gLe, gLt, gGe, gGt, LP.gSub, gMod, gFdiv, gPow, gPlus, gTimes, gIntA, gInt, gIsN, gIx, tyA, TN.sub, LP.dataOf, A.toD, viewL, viewQ, viewT, gEq_ii, gEq_ss, gEq_bb, gEq_nn, fSl, slV, oN, oS, iL, iR1, wFnM, gFdivW, tNot', tV, wFrz, fFld, fldV, gEither, gOwnIn, gOwnBin, gOwnEq, fIsiO, gIsiO, fProp, propV, fMeth, fMake, fMakeV, twoT, viewT, iZQ, iET, Option.bind_some, Option.map_some, Option.bind_none, Option.map_none, Option.bind, Option.map, List.getElem?_cons_zero, List.getElem?_cons_succ, List.getElem?_nil, List.set_cons_zero, List.set_cons_succ, List.set_nil, if_true, if_false, ↓reduceIte, Bool.not_true, Bool.not_false, decide_true, decide_false, Bool.false_eq_true, reduceCtorEq, true_and, false_and, and_true, and_false, not_true, not_false_eq_true, List.any_cons, List.any_nil, Bool.or_false, Bool.or_true, Bool.true_or, Bool.false_or, Bool.and_true, Bool.true_and, Bool.and_false, Bool.false_and, exists_eq_left, exists_eq_left', Option.some.injEq, A.d.injEq, D.int.injEq, D.bl.injEq, D.str.injEq, D.lst.injEq, D.tup.injEq, Except.ok.injEq, List.cons_append, List.nil_append, List.map_cons, List.map_nil, List.length_cons, List.length_nil, List.replicate, Nat.reduceSub, Nat.reduceAdd, List.append_nil, eq_self, or_true, true_or, or_false, false_or, Int.reduceNeg, Int.reducePow, Int.reduceLT, Int.reduceLE, List.length_set]
        have hel := ends_len hk
        have hE : endsL L = (0 :: L.flatten.map (·.1)) ++ ((L.flatten.filter fun p => decide (p.2 < GR)).map (·.2 + 1)) := rfl
        have hel' := hel
        rw [hE, List.length_append, List.length_cons] at hel'
        have g1 : gCat [] (.d (.lst [.int 0])) (.d (.lst ((L.flatten.map (·.1)).map .int))) = some (.lst ((0 :: L.flatten.map (·.1)).map .int)) := cat_ok (by rw [List.length_map, List.length_singleton]; omega)
        have g2 : gCat [] (.d (.lst ((0 :: L.flatten.map (·.1)).map .int))) (.d (.lst (((L.flatten.filter fun p => decide (p.2 < GR)).map (·.2 + 1)).map .int))) = some (.lst ((endsL L).map .int)) := by
          rw [cat_ok (by rw [List.length_map, List.length_map, List.length_cons]; omega), hE, List.map_append]
        have s1 := sortS_ok (S := []) (ns := endsL L) (by omega)
        have hbl := srtS_len (endsL L)
        have hb : ∀ x ∈ srtS (endsL L), 0 ≤ x ∧ x ≤ GR := (begins_of (pl := fun x => plL x L) (L := L) (fun x => rfl) hf fun x => ends_mem).rng
        simp only [w_cut_0, N_cut, fComp2, iT, c1, hz1, stG, wSeq, wIf, wAsg, wRet, wRetN, wNext, wDrop, wP, wB, wPs, wCons, wNil, wOp, wFn, wPar, wAsgT, wTup, wLst, wNewL, setIx_eq, setA, wM1, wI, wFor, bV, bNot, bAnd, bOr, fOp, fC, fV, fCons, fNil, fCall, fIsi, fAnd, fOr, fNot, chain_le, fTup, fLst, fIf, fFn, tgN, tgT, setAll, gI, gLen, gLe, gLt, gGe, gGt, LP.gSub, gMod, gFdiv, gPow, gPlus, gTimes, gIntA, gInt, gIsN, gIx, tyA, TN.sub, LP.dataOf, A.toD, viewL, viewQ, viewT, gEq_ii, gEq_ss, gEq_bb, gEq_nn, fSl, slV, oN, oS, iL, iR1, wFnM, gFdivW, tNot', tV, wFrz, fFld, fldV, gEither, gOwnIn, gOwnBin, gOwnEq, fIsiO, gIsiO, fProp, propV, fMeth, fMake, fMakeV, twoT, viewT, iZQ, iET, Option.bind_some, Option.map_some, Option.bind_none, Option.map_none, Option.bind, Option.map, List.getElem?_cons_zero, List.getElem?_cons_succ, List.getElem?_nil, List.set_cons_zero, List.set_cons_succ, List.set_nil, if_true, if_false, ↓reduceIte, Bool.not_true, Bool.not_false, decide_true, decide_false, Bool.false_eq_true, reduceCtorEq, true_and, false_and, and_true, and_false, not_true, not_false_eq_true, List.any_cons, List.any_nil, Bool.or_false, Bool.or_true, Bool.true_or, Bool.false_or, Bool.and_true, Bool.true_and, Bool.and_false, Bool.false_and, exists_eq_left, exists_eq_left', Option.some.injEq, A.d.injEq, D.int.injEq, D.bl.injEq, D.str.injEq, D.lst.injEq, D.tup.injEq, Except.ok.injEq, List.cons_append, List.nil_append, List.map_cons, List.map_nil, List.length_cons, List.length_nil, List.replicate, Nat.reduceSub, Nat.reduceAdd, List.append_nil, eq_self, or_true, true_or, or_false, false_or, Int.reduceNeg, Int.reducePow, Int.reduceLT, Int.reduceLE, List.length_set]
        simp only [w_cut_1, c2, c3, g1, g2, stG, wSeq, wIf, wAsg, wRet, wRetN, wNext, wDrop, wP, wB, wPs, wCons, wNil, wOp, wFn, wPar, wAsgT, wTup, wLst, wNewL, setIx_eq, setA, wM1, wI, wFor, bV, bNot, bAnd, bOr, fOp, fC, fV, fCons, fNil, fCall, fIsi, fAnd, fOr, fNot, chain_le, fTup, fLst, fIf, fFn, tgN, tgT, setAll, gI, gLen, gLe, gLt, gGe, gGt, LP.gSub, gMod, gFdiv, gPow, gPlus, gTimes, gIntA, gInt, gIsN, gIx, tyA, TN.sub, LP.dataOf, A.toD, viewL, viewQ, viewT, gEq_ii, gEq_ss, gEq_bb, gEq_nn, fSl, slV, oN, oS, iL, iR1, wFnM, gFdivW, tNot', tV, wFrz, fFld, fldV, gEither, gOwnIn, gOwnBin, gOwnEq, fIsiO, gIsiO, fProp, propV, fMeth, fMake, fMakeV, twoT, viewT, iZQ, iET, Option.bind_some, Option.map_some, Option.bind_none, Option.map_none, Option.bind, Option.map, List.getElem?_cons_zero, List.getElem?_cons_succ, List.getElem?_nil, List.set_cons_zero, List.set_cons_succ, List.set_nil, if_true, if_false, ↓reduceIte, Bool.not_true, Bool.not_false, decide_true, decide_false, Bool.false_eq_true, reduceCtorEq, true_and, false_and, and_true, and_false, not_true, not_false_eq_true, List.any_cons, List.any_nil, Bool.or_false, Bool.or_true, Bool.true_or, Bool.false_or, Bool.and_true, Bool.true_and, Bool.and_false, Bool.false_and, exists_eq_left, exists_eq_left', Option.some.injEq, A.d.injEq, D.int.injEq, D.bl.injEq, D.str.injEq, D.lst.injEq, D.tup.injEq, Except.ok.injEq, List.nil_append, List.map_nil, List.length_cons, List.length_nil, List.replicate, Nat.reduceSub, Nat.reduceAdd, List.append_nil, eq_self, or_true, true_or, or_false, false_or, Int.reduceNeg, Int.reducePow, Int.reduceLT, Int.reduceLE, List.length_set]
        simp only [w_cut_2, fSortS, s1, stG, wSeq, wIf, wAsg, wRet, wRetN, wNext, wDrop, wP, wB, wPs, wCons, wNil, wOp, wFn, wPar, wAsgT, wTup, wLst, wNewL, setIx_eq, setA, wM1, wI, wFor, bV, bNot, bAnd, bOr, fOp, fC, fV, fCons, fNil, fCall, fIsi, fAnd, fOr, fNot, chain_le, fTup, fLst, fIf, fFn, tgN, tgT, setAll, gI, gLen, gLe, gLt, gGe, gGt, LP.gSub, gMod, gFdiv, gPow, gPlus, gTimes, gIntA, gInt, gIsN, gIx, tyA, TN.sub, LP.dataOf, A.toD, viewL, viewQ, viewT, gEq_ii, gEq_ss, gEq_bb, gEq_nn, fSl, slV, oN, oS, iL, iR1, wFnM, gFdivW, tNot', tV, wFrz, fFld, fldV, gEither, gOwnIn, gOwnBin, gOwnEq, fIsiO, gIsiO, fProp, propV, fMeth, fMake, fMakeV, twoT, viewT, iZQ, iET, Option.bind_some, Option.map_some, Option.bind_none, Option.map_none, Option.bind, Option.map, List.getElem?_cons_zero, List.getElem?_cons_succ, List.getElem?_nil, List.set_cons_zero, List.set_cons_succ, List.set_nil, if_true, if_false, ↓reduceIte, Bool.not_true, Bool.not_false, decide_true, decide_false, Bool.false_eq_true, reduceCtorEq, true_and, false_and, and_true, and_false, not_true, not_false_eq_true, List.any_cons, List.any_nil, Bool.or_false, Bool.or_true, Bool.true_or, Bool.false_or, Bool.and_true, Bool.true_and, Bool.and_false, Bool.false_and, exists_eq_left, exists_eq_left', Option.some.injEq, A.d.injEq, D.int.injEq, D.bl.injEq, D.str.injEq, D.lst.injEq, D.tup.injEq, Except.ok.injEq, List.nil_append, List.map_nil, List.length_cons, List.length_nil, List.replicate, Nat.reduceSub, Nat.reduceAdd, List.append_nil, eq_self, or_true, true_or, or_false, false_or, Int.reduceNeg, Int.reducePow, Int.reduceLT, Int.reduceLE, List.length_set]
        generalize hbs : srtS (endsL L) = b at hbl hb ⊢
        have hfin : (piecesL b).foldl (cstep fun x => plL x L) [] = cutL L := by unfold cutL; rw [hbs]
        have c4 : ∀ x1 x2 x4 x5 x6 x7 x8 x9 x10 x11 x12 S, fLstS (fStar (fSl (fV 3) (oS (fC (.int 1))) (oN)) (fCons (fOp gPlus (fC (.int 999999999999999999)) (fC (.int 1))) fNil)) [some (.d (.tup (L.map ltr))), x1, x2, some (.d (.lst (b.map .int))), x4, x5, x6, x7, x8, x9, x10, x11, x12] S = some (.d (.lst ((b.tail ++ [GR + 1]).map .int))) := by
          intro x1 x2 x4 x5 x6 x7 x8 x9 x10 x11 x12 S
          have hlen : ((b.tail.map D.int).map A.d ++ [A.d (.int (999999999999999999 + 1))]).length ≤ 1000 := by
            rw [List.length_append, List.length_map, List.length_map, List.length_tail, List.length_singleton]; omega
          have hda : dataOf ((b.tail.map D.int).map A.d ++ [A.d (.int (999999999999999999 + 1))]) = some ((b.tail ++ [GR + 1]).map .int) := by
            rw [show (b.tail.map D.int).map A.d ++ [A.d (.int (999999999999999999 + 1))] = ((b.tail ++ [GR + 1]).map D.int).map A.d by simp [GR], dataOf_map]
          simp only [fLstS, fStar, ints_tail, hlen, hda, stG, wSeq, wIf, wAsg, wRet, wRetN, wNext, wDrop, wP, wB, wPs, wCons, wNil, wOp, wFn, wPar, wAsgT, wTup, wLst, wNewL, setIx_eq, setA, wM1, wI, wFor, bV, bNot, bAnd, bOr, fOp, fC, fV, fCons, fNil, fCall, fIsi, fAnd, fOr, fNot, chain_le, fTup, fLst, fIf, fFn, tgN, tgT, setAll, gI, gLen, gLe, gLt, gGe, gGt, LP.gSub, gMod, gFdiv, gPow, gPlus, gTimes, gIntA, gInt, gIsN, gIx, tyA, TN.sub, LP.dataOf, A.toD, viewL, viewQ, viewT, gEq_ii, gEq_ss, gEq_bb, gEq_nn, fSl, slV, oN, oS, iL, iR1, wFnM, gFdivW, tNot', tV, wFrz, fFld, fldV, gEither, gOwnIn, gOwnBin, gOwnEq, fIsiO, gIsiO, fProp, propV, fMeth, fMake, fMakeV, twoT, viewT, iZQ, iET, Option.bind_some, Option.map_some, Option.bind_none, Option.map_none, Option.bind, Option.map, List.getElem?_cons_zero, List.getElem?_cons_succ, List.getElem?_nil, List.set_cons_zero, List.set_cons_succ, List.set_nil, if_true, if_false, ↓reduceIte, Bool.not_true, Bool.not_false, decide_true, decide_false, Bool.false_eq_true, reduceCtorEq, true_and, false_and, and_true, and_false, not_true, not_false_eq_true, List.any_cons, List.any_nil, Bool.or_false, Bool.or_true, Bool.true_or, Bool.false_or, Bool.and_true, Bool.true_and, Bool.and_false, Bool.false_and, exists_eq_left, exists_eq_left', Option.some.injEq, A.d.injEq, D.int.injEq, D.bl.injEq, D.str.injEq, D.lst.injEq, D.tup.injEq, Except.ok.injEq, List.nil_append, List.map_nil, List.length_cons, List.length_nil, List.replicate, Nat.reduceSub, Nat.reduceAdd, List.append_nil, eq_self, or_true, true_or, or_false, false_or, Int.reduceNeg, Int.reducePow, Int.reduceLT, Int.reduceLE, List.length_set]
        have c5 : List.zipWith LP.pairD (b.map .int) ((b.tail ++ [GR + 1]).map .int) = (piecesL b).map pzD := zip_pz _ _
        simp only [w_cut_3, c4, c5, stG, wSeq, wIf, wAsg, wRet, wRetN, wNext, wDrop, wP, wB, wPs, wCons, wNil, wOp, wFn, wPar, wAsgT, wTup, wLst, wNewL, setIx_eq, setA, wM1, wI, wFor, bV, bNot, bAnd, bOr, fOp, fC, fV, fCons, fNil, fCall, fIsi, fAnd, fOr, fNot, chain_le, fTup, fLst, fIf, fFn, tgN, tgT, setAll, gI, gLen, gLe, gLt, gGe, gGt, LP.gSub, gMod, gFdiv, gPow, gPlus, gTimes, gIntA, gInt, gIsN, gIx, tyA, TN.sub, LP.dataOf, A.toD, viewL, viewQ, viewT, gEq_ii, gEq_ss, gEq_bb, gEq_nn, fSl, slV, oN, oS, iL, iR1, wFnM, gFdivW, tNot', tV, wFrz, fFld, fldV, gEither, gOwnIn, gOwnBin, gOwnEq, fIsiO, gIsiO, fProp, propV, fMeth, fMake, fMakeV, twoT, viewT, iZQ, iET, Option.bind_some, Option.map_some, Option.bind_none, Option.map_none, Option.bind, Option.map, List.getElem?_cons_zero, List.getElem?_cons_succ, List.getElem?_nil, List.set_cons_zero, List.set_cons_succ, List.set_nil, if_true, if_false, ↓reduceIte, Bool.not_true, Bool.not_false, decide_true, decide_false, Bool.false_eq_true, reduceCtorEq, true_and, false_and, and_true, and_false, not_true, not_false_eq_true, List.any_cons, List.any_nil, Bool.or_false, Bool.or_true, Bool.true_or, Bool.false_or, Bool.and_true, Bool.true_and, Bool.and_false, Bool.false_and, exists_eq_left, exists_eq_left', Option.some.injEq, A.d.injEq, D.int.injEq, D.bl.injEq, D.str.injEq, D.lst.injEq, D.tup.injEq, Except.ok.injEq, List.nil_append, List.map_nil, List.length_cons, List.length_nil, List.replicate, Nat.reduceSub, Nat.reduceAdd, List.append_nil, eq_self, or_true, true_or, or_false, false_or, Int.reduceNeg, Int.reducePow, Int.reduceLT, Int.reduceLE, List.length_set]
        refine ⟨_, _, rfl, rfl, ?_⟩
        refine loop_inv (fun r Γ S' => ∃ (rp : List PZ) (acc : List T3) (x5 x6 x7 x8 x9 x10 x11 x12 : Option A), r = rp.map pzD ∧ Γ = [some (.d (.tup (L.map ltr))), some (.d (.lst (L.flatten.map pzD))), some (.d (.lst ((endsL L).map .int))), some (.d (.lst (b.map .int))), some (.loc 0), x5, x6, x7, x8, x9, x10, x11, x12] ∧ S' = [accT acc] ∧ acc.length + rp.length ≤ 60 ∧ (∀ p ∈ rp, 0 ≤ p.1 ∧ p.1 ≤ GR) ∧ rp.foldl (cstep fun x => plL x L) acc = cutL L) ?_ ?_ _ _ _ ⟨piecesL b, [], none, none, none, none, none, none, none, none, rfl, rfl, rfl, ?_, fun p hp => hb _ (piece_fst hp), hfin⟩
        · rintro d' r Γ S' nx ⟨rp, acc, x5, x6, x7, x8, x9, x10, x11, x12, hr, rfl, rfl, hn, hok, hj⟩ hnx
          cases rp with
          | nil => cases hr
          | cons p rp =>
            cases hr
            rw [List.length_cons] at hn
            have hp := hok p List.mem_cons_self
            refine ⟨_, rfl, cut_turn (x7 := x7) hk hp.1 hp.2 (by omega) fun Γ S' z7 hS hΓ => hnx _ _ rfl ⟨rp, cstep (fun x => plL x L) acc p, _, _, z7, x8, x9, x10, x11, x12, rfl, hΓ, hS, ?_, fun q hq => hok q (List.mem_cons_of_mem _ hq), hj⟩⟩
            have := cstep_len (fun x => plL x L) acc p
            omega
        · rintro Γ S' ⟨rp, acc, x5, x6, x7, x8, x9, x10, x11, x12, hr, rfl, rfl, hn, _, hj⟩
          cases rp with
          | cons => cases hr
          | nil =>
            have hj' : acc = cutL L := hj
            simp only [w_cut_4, frz_acc3, stG, wSeq, wIf, wAsg, wRet, wRetN, wNext, wDrop, wP, wB, wPs, wCons, wNil, wOp, wFn, wPar, wAsgT, wTup, wLst, wNewL, setIx_eq, setA, wM1, wI, wFor, bV, bNot, bAnd, bOr, fOp, fC, fV, fCons, fNil, fCall, fIsi, fAnd, fOr, fNot, chain_le, fTup, fLst, fIf, fFn, tgN, tgT, setAll, gI, gLen, gLe, gLt, gGe, gGt, LP.gSub, gMod, gFdiv, gPow, gPlus, gTimes, gIntA, gInt, gIsN, gIx, tyA, TN.sub, LP.dataOf, A.toD, viewL, viewQ, viewT, gEq_ii, gEq_ss, gEq_bb, gEq_nn, fSl, slV, oN, oS, iL, iR1, wFnM, gFdivW, tNot', tV, wFrz, fFld, fldV, gEither, gOwnIn, gOwnBin, gOwnEq, fIsiO, gIsiO, fProp, propV, fMeth, fMake, fMakeV, twoT, viewT, iZQ, iET, Option.bind_some, Option.map_some, Option.bind_none, Option.map_none, Option.bind, Option.map, List.getElem?_cons_zero, List.getElem?_cons_succ, List.getElem?_nil, List.set_cons_zero, List.set_cons_succ, List.set_nil, if_true, if_false, ↓reduceIte, Bool.not_true, Bool.not_false, decide_true, decide_false, Bool.false_eq_true, reduceCtorEq, true_and, false_and, and_true, and_false, not_true, not_false_eq_true, List.any_cons, List.any_nil, Bool.or_false, Bool.or_true, Bool.true_or, Bool.false_or, Bool.and_true, Bool.true_and, Bool.and_false, Bool.false_and, exists_eq_left, exists_eq_left', Option.some.injEq, A.d.injEq, D.int.injEq, D.bl.injEq, D.str.injEq, D.lst.injEq, D.tup.injEq, Except.ok.injEq, List.cons_append, List.nil_append, List.map_cons, List.map_nil, List.length_cons, List.length_nil, List.replicate, Nat.reduceSub, Nat.reduceAdd, List.append_nil, eq_self, or_true, true_or, or_false, false_or, Int.reduceNeg, Int.reducePow, Int.reduceLT, Int.reduceLE, List.length_set]
            rw [hj']
            exact ⟨_, _, rfl, rfl⟩
        · rw [pieces_len, List.length_nil]; omega
      · cases h
  · cases h
end K

set_option maxHeartbeats 4000000
namespace K
open PySem PySem.Spec PyProof.Rows L2 LP
theorem in_ok' {x : Int} {l : List PZ} (h : oks 60 l = true) : G_in [.int x, .lst (l.map pzD)] = some (.ok (.bl (inL x l))) := by
  simp only [G_in, spansOf_lst h, Option.map_some]
theorem at_row {L : List (List PZ)} {i : Nat} (h : i < L.length) : atI (L.map fun l => D.lst (l.map pzD)) (0 + (i : Int)) = some (.lst ((L.getD i []).map pzD)) := by
  have e : ixN (L.map fun l => D.lst (l.map pzD)).length (0 + (i : Int)) = some i := by
    unfold ixN
    rw [List.length_map, if_pos (by omega), if_pos (by omega)]
    congr 1
    omega
  rw [atI, e, Option.bind_some, List.getElem?_map, List.getElem?_eq_getElem h, List.getD_eq_getElem?_getD, List.getElem?_eq_getElem h]
  rfl
theorem places_ok {x : Int} {L : List (List PZ)} (hk : okL L = true) : G_places [.int x, .lst (L.map fun l => .lst (l.map pzD))] = some (.ok (.tup ((plL x L).map .int))) := by
  obtain ⟨hl, ho⟩ := okL_iff.mp hk
  simp only [G_places, rows_ok fun l hl => oks_up (ho l hl) (by decide : 3 ≤ 60), Option.bind_some, hk, if_true]
theorem v_places (ds : List D) (o : Except Er D) (h : G_places ds = some o) : w_l_places (stG N_l_places (ds.map A.d)) [] (dnP o) := by
  unfold G_places at h
  split at h
  · rename_i x rows
    cases e : rowsL rows with
    | none => rw [e] at h; cases h
    | some L =>
      rw [e, Option.bind_some] at h
      split at h
      · rename_i hk
        cases h
        have hls := rows_some e
        subst hls
        obtain ⟨hl, ho⟩ := okL_iff.mp hk
        have hr : (-(2 ^ 62) ≤ (((L.map fun l => D.lst (l.map pzD)).length : Nat) : Int) ∧ (((L.map fun l => D.lst (l.map pzD)).length : Nat) : Int) ≤ 16777216) = True := eq_true (by rw [List.length_map]; omega)
        have c : fComp (iR1 (fCall gLen (fCons (fV 1) (fNil)))) (tgN 2) [2] (bV (fFn [] G_in (fCons (fV 0) (fCons (fOp LP.gIx (fV 1) (fV 2)) (fNil))))) (fV 2) [some (.d (.int x)), some (.d (.lst (L.map fun l => .lst (l.map pzD)))), none] [] = some (.d (.lst ((plL x L).map .int))) := by
          have := comp_filter2 (fi := iR1 (fCall gLen (fCons (fV 1) (fNil)))) (t := tgN 2) (vs := [2]) (b := bV (fFn [] G_in (fCons (fV 0) (fCons (fOp LP.gIx (fV 1) (fV 2)) (fNil))))) (f := fV 2) (Γ := [some (.d (.int x)), some (.d (.lst (L.map fun l => .lst (l.map pzD)))), none]) (S := []) (it := fun _ => some (rangeD 0 L.length)) (g := fun (i : Nat) => D.int (0 + (i : Int))) (h := fun (i : Nat) => D.int (0 + (i : Int))) (p := fun i => inL x (L.getD i [])) (l := List.range L.length) ?_ rfl fun i hi => ?_
          · rw [this]
            unfold plL
            rw [List.map_map]
            congr 4
            funext i
            simp
          · simp only [iR1, hr, List.length_map, Int.toNat_natCast, stG, wSeq, wIf, wAsg, wRet, wRetN, wNext, wDrop, wP, wB, wPs, wCons, wNil, wOp, wFn, wPar, wAsgT, wTup, wLst, wNewL, setIx_eq, setA, wM1, wI, wFor, bV, bNot, bAnd, bOr, fOp, fC, fV, fCons, fNil, fCall, fIsi, fAnd, fOr, fNot, chain_le, fTup, fLst, fIf, fFn, tgN, tgT, setAll, gI, gLen, gLe, gLt, gGe, gGt, LP.gSub, gMod, gFdiv, gPow, gPlus, gTimes, gIntA, gInt, gIsN, gIx, tyA, TN.sub, LP.dataOf, A.toD, viewL, viewQ, viewT, gEq_ii, gEq_ss, gEq_bb, gEq_nn, fSl, slV, oN, oS, iL, iR1, wFnM, gFdivW, tNot', tV, wFrz, fFld, fldV, gEither, gOwnIn, gOwnBin, gOwnEq, fIsiO, gIsiO, fProp, propV, fMeth, fMake, fMakeV, twoT, viewT, iZQ, iET, Option.bind_some, Option.map_some, Option.bind_none, Option.map_none, Option.bind, Option.map, List.getElem?_cons_zero, List.getElem?_cons_succ, List.getElem?_nil, List.set_cons_zero, List.set_cons_succ, List.set_nil, if_true, if_false, ↓reduceIte, Bool.not_true, Bool.not_false, decide_true, decide_false, Bool.false_eq_true, reduceCtorEq, true_and, false_and, and_true, and_false, not_true, not_false_eq_true, List.any_cons, List.any_nil, Bool.or_false, Bool.or_true, Bool.true_or, Bool.false_or, Bool.and_true, Bool.true_and, Bool.and_false, Bool.false_and, exists_eq_left, exists_eq_left', Option.some.injEq, A.d.injEq, D.int.injEq, D.bl.injEq, D.str.injEq, D.lst.injEq, D.tup.injEq, Except.ok.injEq, List.cons_append, List.nil_append, List.map_cons, List.map_nil, List.length_cons, List.length_nil, List.replicate, Nat.reduceSub, Nat.reduceAdd, List.append_nil, eq_self, or_true, true_or, or_false, false_or, Int.reduceNeg, Int.reducePow, Int.reduceLT, Int.reduceLE, List.length_set]
            exact if_pos ⟨by omega, by omega⟩
          · rw [List.mem_range] at hi
            have hm : L.getD i [] ∈ L := by
              rw [List.getD_eq_getElem?_getD, List.getElem?_eq_getElem hi, Option.getD_some]
              exact List.getElem_mem hi
            have h1 := in_ok' (x := x) (oks_up (ho _ hm) (by decide : 3 ≤ 60))
            have h2 := at_row hi
            simp only [eltF, wipeG, h2, h1, stG, wSeq, wIf, wAsg, wRet, wRetN, wNext, wDrop, wP, wB, wPs, wCons, wNil, wOp, wFn, wPar, wAsgT, wTup, wLst, wNewL, setIx_eq, setA, wM1, wI, wFor, bV, bNot, bAnd, bOr, fOp, fC, fV, fCons, fNil, fCall, fIsi, fAnd, fOr, fNot, chain_le, fTup, fLst, fIf, fFn, tgN, tgT, setAll, gI, gLen, gLe, gLt, gGe, gGt, LP.gSub, gMod, gFdiv, gPow, gPlus, gTimes, gIntA, gInt, gIsN, gIx, tyA, TN.sub, LP.dataOf, A.toD, viewL, viewQ, viewT, gEq_ii, gEq_ss, gEq_bb, gEq_nn, fSl, slV, oN, oS, iL, iR1, wFnM, gFdivW, tNot', tV, wFrz, fFld, fldV, gEither, gOwnIn, gOwnBin, gOwnEq, fIsiO, gIsiO, fProp, propV, fMeth, fMake, fMakeV, twoT, viewT, iZQ, iET, Option.bind_some, Option.map_some, Option.bind_none, Option.map_none, Option.bind, Option.map, List.getElem?_cons_zero, List.getElem?_cons_succ, List.getElem?_nil, List.set_cons_zero, List.set_cons_succ, List.set_nil, if_true, if_false, ↓reduceIte, Bool.not_true, Bool.not_false, decide_true, decide_false, Bool.false_eq_true, reduceCtorEq, true_and, false_and, and_true, and_false, not_true, not_false_eq_true, List.any_cons, List.any_nil, Bool.or_false, Bool.or_true, Bool.true_or, Bool.false_or, Bool.and_true, Bool.true_and, Bool.and_false, Bool.false_and, exists_eq_left, exists_eq_left', Option.some.injEq, A.d.injEq, D.int.injEq, D.bl.injEq, D.str.injEq, D.lst.injEq, D.tup.injEq, Except.ok.injEq, List.cons_append, List.nil_append, List.map_cons, List.map_nil, List.length_cons, List.length_nil, List.replicate, Nat.reduceSub, Nat.reduceAdd, List.append_nil, eq_self, or_true, true_or, or_false, false_or, Int.reduceNeg, Int.reducePow, Int.reduceLT, Int.reduceLE, List.length_set]
        simp only [w_l_places_0, N_l_places, c, gTuple, stG, wSeq, wIf, wAsg, wRet, wRetN, wNext, wDrop, wP, wB, wPs, wCons, wNil, wOp, wFn, wPar, wAsgT, wTup, wLst, wNewL, setIx_eq, setA, wM1, wI, wFor, bV, bNot, bAnd, bOr, fOp, fC, fV, fCons, fNil, fCall, fIsi, fAnd, fOr, fNot, chain_le, fTup, fLst, fIf, fFn, tgN, tgT, setAll, gI, gLen, gLe, gLt, gGe, gGt, LP.gSub, gMod, gFdiv, gPow, gPlus, gTimes, gIntA, gInt, gIsN, gIx, tyA, TN.sub, LP.dataOf, A.toD, viewL, viewQ, viewT, gEq_ii, gEq_ss, gEq_bb, gEq_nn, fSl, slV, oN, oS, iL, iR1, wFnM, gFdivW, tNot', tV, wFrz, fFld, fldV, gEither, gOwnIn, gOwnBin, gOwnEq, fIsiO, gIsiO, fProp, propV, fMeth, fMake, fMakeV, twoT, viewT, iZQ, iET, Option.bind_some, Option.map_some, Option.bind_none, Option.map_none, Option.bind, Option.map, List.getElem?_cons_zero, List.getElem?_cons_succ, List.getElem?_nil, List.set_cons_zero, List.set_cons_succ, List.set_nil, if_true, if_false, ↓reduceIte, Bool.not_true, Bool.not_false, decide_true, decide_false, Bool.false_eq_true, reduceCtorEq, true_and, false_and, and_true, and_false, not_true, not_false_eq_true, List.any_cons, List.any_nil, Bool.or_false, Bool.or_true, Bool.true_or, Bool.false_or, Bool.and_true, Bool.true_and, Bool.and_false, Bool.false_and, exists_eq_left, exists_eq_left', Option.some.injEq, A.d.injEq, D.int.injEq, D.bl.injEq, D.str.injEq, D.lst.injEq, D.tup.injEq, Except.ok.injEq, List.cons_append, List.nil_append, List.map_cons, List.map_nil, List.length_cons, List.length_nil, List.replicate, Nat.reduceSub, Nat.reduceAdd, List.append_nil, eq_self, or_true, true_or, or_false, false_or, Int.reduceNeg, Int.reducePow, Int.reduceLT, Int.reduceLE, List.length_set]
      · cases h
  · cases h
/-! the law's own way to cut -/
def lf (acc : List Int) (p : PZ) : List Int := acc ++ [p.1] ++ (if p.2 + 1 < 1000000000000000000 then [p.2 + 1] else [])
theorem lf_len (acc : List Int) (p : PZ) : (lf acc p).length ≤ acc.length + 2 := by
  unfold lf
  rw [List.length_append, List.length_append]
  split <;> simp
theorem lf_fold_len : ∀ (l : List PZ) (acc : List Int), (l.foldl lf acc).length ≤ acc.length + 2 * l.length
  | [], acc => by simp
  | p :: l, acc => by
    have h1 := lf_fold_len l (lf acc p)
    have h2 := lf_len acc p
    rw [List.foldl_cons, List.length_cons]
    omega
theorem lends_len {L : List (List PZ)} (hk : okL L = true) : (lends L).length ≤ 19 := by
  obtain ⟨hl, ho⟩ := okL_iff.mp hk
  have h1 := flat_le (L := L) ho
  have h2 := lf_fold_len L.flatten [0]
  show (L.flatten.foldl lf [0]).length ≤ 19
  simp only [List.length_singleton] at h2
  omega
section
variable {L : List (List PZ)} {x0 x2 x3 x5 x7 x8 : Option A}
theorem lcut_grow {acc : List Int} {p : PZ} {E : Dn} (hl : acc.length ≤ 60)
    (hE : E.nx [x0, some (.d (.lst ((lf acc p).map .int))), x2, x3, some (.d (.int p.1)), x5, some (.d (.int p.2)), x7, x8] []) :
    w_l_cut_for2_0 [x0, some (.d (.lst (acc.map .int))), x2, x3, some (.d (.int p.1)), x5, some (.d (.int p.2)), x7, x8] [] E := by
  have hpw : (10 : Int) ^ Int.toNat 18 = 1000000000000000000 := by decide
  have c : fComp (iL (fLst (fCons (fOp gPlus (fV 6) (fC (.int 1))) (fNil)))) (tgN 8) [8] (bV (fOp gLt (fV 8) (fOp gPow (fC (.int 10)) (fC (.int 18))))) (fV 8) [x0, some (.d (.lst (acc.map .int))), x2, x3, some (.d (.int p.1)), x5, some (.d (.int p.2)), x7, x8] [] = some (.d (.lst ((if p.2 + 1 < 1000000000000000000 then [p.2 + 1] else []).map .int))) := by
    have := comp_filter (fi := iL (fLst (fCons (fOp gPlus (fV 6) (fC (.int 1))) (fNil)))) (t := tgN 8) (vs := [8]) (b := bV (fOp gLt (fV 8) (fOp gPow (fC (.int 10)) (fC (.int 18))))) (f := fV 8) (Γ := [x0, some (.d (.lst (acc.map .int))), x2, x3, some (.d (.int p.1)), x5, some (.d (.int p.2)), x7, x8]) (S := []) (g := D.int) (p := fun x => decide (x < 1000000000000000000)) (l := [p.2 + 1]) (it := fun S' => viewL S' (.d (.lst [.int (p.2 + 1)]))) (by simp only [stG, wSeq, wIf, wAsg, wRet, wRetN, wNext, wDrop, wP, wB, wPs, wCons, wNil, wOp, wFn, wPar, wAsgT, wTup, wLst, wNewL, setIx_eq, setA, wM1, wI, wFor, bV, bNot, bAnd, bOr, fOp, fC, fV, fCons, fNil, fCall, fIsi, fAnd, fOr, fNot, chain_le, fTup, fLst, fIf, fFn, tgN, tgT, setAll, gI, gLen, gLe, gLt, gGe, gGt, LP.gSub, gMod, gFdiv, gPow, gPlus, gTimes, gIntA, gInt, gIsN, gIx, tyA, TN.sub, LP.dataOf, A.toD, viewQ, viewT, gEq_ii, gEq_ss, gEq_bb, gEq_nn, fSl, slV, oN, oS, iL, iR1, wFnM, gFdivW, tNot', tV, wFrz, fFld, fldV, gEither, gOwnIn, gOwnBin, gOwnEq, fIsiO, gIsiO, fProp, propV, fMeth, fMake, fMakeV, twoT, viewT, iZQ, iET, Option.bind_some, Option.map_some, Option.bind_none, Option.map_none, Option.bind, Option.map, List.getElem?_cons_zero, List.getElem?_cons_succ, List.getElem?_nil, List.set_cons_zero, List.set_cons_succ, List.set_nil, if_true, if_false, ↓reduceIte, Bool.not_true, Bool.not_false, decide_true, decide_false, Bool.false_eq_true, reduceCtorEq, true_and, false_and, and_true, and_false, not_true, not_false_eq_true, List.any_cons, List.any_nil, Bool.or_false, Bool.or_true, Bool.true_or, Bool.false_or, Bool.and_true, Bool.true_and, Bool.and_false, Bool.false_and, exists_eq_left, exists_eq_left', Option.some.injEq, A.d.injEq, D.int.injEq, D.bl.injEq, D.str.injEq, D.lst.injEq, D.tup.injEq, Except.ok.injEq, List.cons_append, List.nil_append, List.map_cons, List.map_nil, List.length_cons, List.length_nil, List.replicate, Nat.reduceSub, Nat.reduceAdd, List.append_nil, eq_self, or_true, true_or, or_false, false_or, Int.reduceNeg, Int.reducePow, Int.reduceLT, Int.reduceLE, List.length_set]) rfl fun x hx => by simp only [eltF, wipeG, n10, hpw, stG, wSeq, wIf, wAsg, wRet, wRetN, wNext, wDrop, wP, wB, wPs, wCons, wNil, wOp, wFn, wPar, wAsgT, wTup, wLst, wNewL, setIx_eq, setA, wM1, wI, wFor, bV, bNot, bAnd, bOr, fOp, fC, fV, fCons, fNil, fCall, fIsi, fAnd, fOr, fNot, chain_le, fTup, fLst, fIf, fFn, tgN, tgT, setAll, gI, gLen, gLe, gLt, gGe, gGt, LP.gSub, gMod, gFdiv, gPow, gPlus, gTimes, gIntA, gInt, gIsN, gIx, tyA, TN.sub, LP.dataOf, A.toD, viewL, viewQ, viewT, gEq_ii, gEq_ss, gEq_bb, gEq_nn, fSl, slV, oN, oS, iL, iR1, wFnM, gFdivW, tNot', tV, wFrz, fFld, fldV, gEither, gOwnIn, gOwnBin, gOwnEq, fIsiO, gIsiO, fProp, propV, fMeth, fMake, fMakeV, twoT, viewT, iZQ, iET, Option.bind_some, Option.map_some, Option.bind_none, Option.map_none, Option.bind, Option.map, List.getElem?_cons_zero, List.getElem?_cons_succ, List.getElem?_nil, List.set_cons_zero, List.set_cons_succ, List.set_nil, if_true, if_false, ↓reduceIte, Bool.not_true, Bool.not_false, decide_true, decide_false, Bool.false_eq_true, reduceCtorEq, true_and, false_and, and_true, and_false, not_true, not_false_eq_true, List.any_cons, List.any_nil, Bool.or_false, Bool.or_true, Bool.true_or, Bool.false_or, Bool.and_true, Bool.true_and, Bool.and_false, Bool.false_and, exists_eq_left, exists_eq_left', Option.some.injEq, A.d.injEq, D.int.injEq, D.bl.injEq, D.str.injEq, D.lst.injEq, D.tup.injEq, Except.ok.injEq, List.cons_append, List.nil_append, List.map_cons, List.map_nil, List.length_cons, List.length_nil, List.replicate, Nat.reduceSub, Nat.reduceAdd, List.append_nil, eq_self, or_true, true_or, or_false, false_or, Int.reduceNeg, Int.reducePow, Int.reduceLT, Int.reduceLE, List.length_set]
    rw [this]
    by_cases h : p.2 + 1 < 1000000000000000000 <;> simp [h]
  have g1 : gCat [] (.d (.lst (acc.map .int))) (.d (.lst [.int p.1])) = some (.lst ((acc ++ [p.1]).map .int)) := by
    rw [cat_ok (by rw [List.length_map, List.length_singleton]; omega), List.map_append]; rfl
  have g2 : gCat [] (.d (.lst ((acc ++ [p.1]).map .int))) (.d (.lst ((if p.2 + 1 < 1000000000000000000 then [p.2 + 1] else []).map .int))) = some (.lst ((lf acc p).map .int)) := by
    rw [cat_ok (by rw [List.length_map, List.length_map, List.length_append, List.length_singleton]; split <;> simp <;> omega)]
    simp only [lf, List.map_append]
  simp only [w_l_cut_for2_0, c, g1, g2, stG, wSeq, wIf, wAsg, wRet, wRetN, wNext, wDrop, wP, wB, wPs, wCons, wNil, wOp, wFn, wPar, wAsgT, wTup, wLst, wNewL, setIx_eq, setA, wM1, wI, wFor, bV, bNot, bAnd, bOr, fOp, fC, fV, fCons, fNil, fCall, fIsi, fAnd, fOr, fNot, chain_le, fTup, fLst, fIf, fFn, tgN, tgT, setAll, gI, gLen, gLe, gLt, gGe, gGt, LP.gSub, gMod, gFdiv, gPow, gPlus, gTimes, gIntA, gInt, gIsN, gIx, tyA, TN.sub, LP.dataOf, A.toD, viewL, viewQ, viewT, gEq_ii, gEq_ss, gEq_bb, gEq_nn, fSl, slV, oN, oS, iL, iR1, wFnM, gFdivW, tNot', tV, wFrz, fFld, fldV, gEither, gOwnIn, gOwnBin, gOwnEq, fIsiO, gIsiO, fProp, propV, fMeth, fMake, fMakeV, twoT, viewT, iZQ, iET, Option.bind_some, Option.map_some, Option.bind_none, Option.map_none, Option.bind, Option.map, List.getElem?_cons_zero, List.getElem?_cons_succ, List.getElem?_nil, List.set_cons_zero, List.set_cons_succ, List.set_nil, if_true, if_false, ↓reduceIte, Bool.not_true, Bool.not_false, decide_true, decide_false, Bool.false_eq_true, reduceCtorEq, true_and, false_and, and_true, and_false, not_true, not_false_eq_true, List.any_cons, List.any_nil, Bool.or_false, Bool.or_true, Bool.true_or, Bool.false_or, Bool.and_true, Bool.true_and, Bool.and_false, Bool.false_and, exists_eq_left, exists_eq_left', Option.some.injEq, A.d.injEq, D.int.injEq, D.bl.injEq, D.str.injEq, D.lst.injEq, D.tup.injEq, Except.ok.injEq, List.cons_append, List.nil_append, List.map_cons, List.map_nil, List.length_cons, List.length_nil, List.replicate, Nat.reduceSub, Nat.reduceAdd, List.append_nil, eq_self, or_true, true_or, or_false, false_or, Int.reduceNeg, Int.reducePow, Int.reduceLT, Int.reduceLE, List.length_set]
  exact hE
theorem lcut_turn {acc : List T3} {x : Int} {E : Dn} {x1 x2 x6 x7 x8 : Option A} (hk : okL L = true) (hl : acc.length ≤ 60)
    (hE : ∀ Γ S' z5 z7, S' = [accT (lstep (fun x => plL x L) acc x)] → Γ = [some (.d (.lst (L.map fun l => .lst (l.map pzD)))), x1, x2, some (.loc 0), some (.d (.int x)), z5, x6, z7, x8] → E.nx Γ S') :
    w_l_cut_for3_0 [some (.d (.lst (L.map fun l => .lst (l.map pzD)))), x1, x2, some (.loc 0), some (.d (.int x)), x5, x6, x7, x8] [accT acc] E := by
  have f1 := places_ok (x := x) hk
  have e0 := eq_loc3 (S := [accT acc]) (k := 0) true rfl
  have e0f := eq_loc3 (S := [accT acc]) (k := 0) false rfl
  have hpw : (10 : Int) ^ Int.toNat 18 = 1000000000000000000 := by decide
  have hgr : (1000000000000000000 : Int) - 1 = GR := by decide
  have h3 : ∀ y7 S1, fCons (fTup (fCons (fV 4) (fCons (fOp LP.gSub (fOp gPow (fC (.int 10)) (fC (.int 18))) (fC (.int 1))) (fCons (fV 5) fNil)))) fNil [some (.d (.lst (L.map fun l => .lst (l.map pzD)))), x1, x2, some (.loc 0), some (.d (.int x)), some (.d (.tup ((plL x L).map .int))), x6, y7, x8] S1 = some [.d (t3D (x, GR, plL x L))] := by
    intro y7 S1
    simp only [n10, hpw, hgr, t3D, stG, wSeq, wIf, wAsg, wRet, wRetN, wNext, wDrop, wP, wB, wPs, wCons, wNil, wOp, wFn, wPar, wAsgT, wTup, wLst, wNewL, setIx_eq, setA, wM1, wI, wFor, bV, bNot, bAnd, bOr, fOp, fC, fV, fCons, fNil, fCall, fIsi, fAnd, fOr, fNot, chain_le, fTup, fLst, fIf, fFn, tgN, tgT, setAll, gI, gLen, gLe, gLt, gGe, gGt, LP.gSub, gMod, gFdiv, gPow, gPlus, gTimes, gIntA, gInt, gIsN, gIx, tyA, TN.sub, LP.dataOf, A.toD, viewL, viewQ, viewT, gEq_ii, gEq_ss, gEq_bb, gEq_nn, fSl, slV, oN, oS, iL, iR1, wFnM, gFdivW, tNot', tV, wFrz, fFld, fldV, gEither, gOwnIn, gOwnBin, gOwnEq, fIsiO, gIsiO, fProp, propV, fMeth, fMake, fMakeV, twoT, viewT, iZQ, iET, Option.bind_some, Option.map_some, Option.bind_none, Option.map_none, Option.bind, Option.map, List.getElem?_cons_zero, List.getElem?_cons_succ, List.getElem?_nil, List.set_cons_zero, List.set_cons_succ, List.set_nil, if_true, if_false, ↓reduceIte, Bool.not_true, Bool.not_false, decide_true, decide_false, Bool.false_eq_true, reduceCtorEq, true_and, false_and, and_true, and_false, not_true, not_false_eq_true, List.any_cons, List.any_nil, Bool.or_false, Bool.or_true, Bool.true_or, Bool.false_or, Bool.and_true, Bool.true_and, Bool.and_false, Bool.false_and, exists_eq_left, exists_eq_left', Option.some.injEq, A.d.injEq, D.int.injEq, D.bl.injEq, D.str.injEq, D.lst.injEq, D.tup.injEq, Except.ok.injEq, List.cons_append, List.nil_append, List.map_cons, List.map_nil, List.length_cons, List.length_nil, List.replicate, Nat.reduceSub, Nat.reduceAdd, List.append_nil, eq_self, or_true, true_or, or_false, false_or, Int.reduceNeg, Int.reducePow, Int.reduceLT, Int.reduceLE, List.length_set]
  simp only [w_l_cut_for3_0, f1, stG, wSeq, wIf, wAsg, wRet, wRetN, wNext, wDrop, wP, wB, wPs, wCons, wNil, wOp, wFn, wPar, wAsgT, wTup, wLst, wNewL, setIx_eq, setA, wM1, wI, wFor, bV, bNot, bAnd, bOr, fOp, fC, fV, fCons, fNil, fCall, fIsi, fAnd, fOr, fNot, chain_le, fTup, fLst, fIf, fFn, tgN, tgT, setAll, gI, gLen, gLe, gLt, gGe, gGt, LP.gSub, gMod, gFdiv, gPow, gPlus, gTimes, gIntA, gInt, gIsN, gIx, tyA, TN.sub, LP.dataOf, A.toD, viewL, viewQ, viewT, gEq_ii, gEq_ss, gEq_bb, gEq_nn, fSl, slV, oN, oS, iL, iR1, wFnM, gFdivW, tNot', tV, wFrz, fFld, fldV, gEither, gOwnIn, gOwnBin, gOwnEq, fIsiO, gIsiO, fProp, propV, fMeth, fMake, fMakeV, twoT, viewT, iZQ, iET, Option.bind_some, Option.map_some, Option.bind_none, Option.map_none, Option.bind, Option.map, List.getElem?_cons_zero, List.getElem?_cons_succ, List.getElem?_nil, List.set_cons_zero, List.set_cons_succ, List.set_nil, if_true, if_false, ↓reduceIte, Bool.not_true, Bool.not_false, decide_true, decide_false, Bool.false_eq_true, reduceCtorEq, true_and, false_and, and_true, and_false, not_true, not_false_eq_true, List.any_cons, List.any_nil, Bool.or_false, Bool.or_true, Bool.true_or, Bool.false_or, Bool.and_true, Bool.true_and, Bool.and_false, Bool.false_and, exists_eq_left, exists_eq_left', Option.some.injEq, A.d.injEq, D.int.injEq, D.bl.injEq, D.str.injEq, D.lst.injEq, D.tup.injEq, Except.ok.injEq, List.cons_append, List.nil_append, List.map_cons, List.map_nil, List.length_cons, List.length_nil, List.replicate, Nat.reduceSub, Nat.reduceAdd, List.append_nil, eq_self, or_true, true_or, or_false, false_or, Int.reduceNeg, Int.reducePow, Int.reduceLT, Int.reduceLE, List.length_set]
  cases hg : acc.getLast? with
  | none =>
    have hn : acc = [] := by
      cases acc with
      | nil => rfl
      | cons a b => simp at hg
    subst hn
    have e0' : gEqU true [accT []] (.loc 0) (.d (.lst [])) = some (.bl false) := by rw [e0]; rfl
    have e0f' : gEqU false [accT []] (.loc 0) (.d (.lst [])) = some (.bl true) := by rw [e0f]; rfl
    simp only [w_l_cut_for3_1, e0', e0f', stG, wSeq, wIf, wAsg, wRet, wRetN, wNext, wB, wCons, wNil, wOp, wFn, wPar, wAsgT, wTup, wLst, wNewL, setIx_eq, setA, wM1, wI, wFor, bV, bNot, bAnd, bOr, fOp, fC, fV, fCons, fNil, fCall, fIsi, fAnd, fOr, fNot, chain_le, fTup, fLst, fIf, fFn, tgN, tgT, setAll, gI, gLen, gLe, gLt, gGe, gGt, LP.gSub, gMod, gFdiv, gPow, gPlus, gTimes, gIntA, gInt, gIsN, gIx, tyA, TN.sub, LP.dataOf, A.toD, viewL, viewQ, viewT, gEq_ii, gEq_ss, gEq_bb, gEq_nn, fSl, slV, oN, oS, iL, iR1, wFnM, gFdivW, tNot', tV, wFrz, fFld, fldV, gEither, gOwnIn, gOwnBin, gOwnEq, fIsiO, gIsiO, fProp, propV, fMeth, fMake, fMakeV, twoT, viewT, iZQ, iET, Option.bind_some, Option.map_some, Option.bind_none, Option.map_none, Option.bind, Option.map, List.getElem?_cons_zero, List.getElem?_cons_succ, List.getElem?_nil, List.set_cons_zero, List.set_cons_succ, List.set_nil, if_true, if_false, ↓reduceIte, Bool.not_true, Bool.not_false, decide_true, decide_false, Bool.false_eq_true, reduceCtorEq, true_and, false_and, and_true, and_false, not_true, not_false_eq_true, List.any_cons, List.any_nil, Bool.or_false, Bool.or_true, Bool.true_or, Bool.false_or, Bool.and_true, Bool.true_and, Bool.and_false, Bool.false_and, exists_eq_left, exists_eq_left', Option.some.injEq, A.d.injEq, D.int.injEq, D.bl.injEq, D.str.injEq, D.lst.injEq, D.tup.injEq, Except.ok.injEq, List.cons_append, List.nil_append, List.map_cons, List.map_nil, List.length_cons, List.length_nil, List.replicate, Nat.reduceSub, Nat.reduceAdd, List.append_nil, eq_self, or_true, true_or, or_false, false_or, Int.reduceNeg, Int.reducePow, Int.reduceLT, Int.reduceLE, List.length_set]
    exact lm_app (l := []) rfl rfl (h3 _ _) (by decide) (hE _ _ _ _ rfl rfl)
  | some q =>
    have hne : decide (acc = []) = false := decide_eq_false (by rintro rfl; cases hg)
    have hms : acc.map t3D = acc.dropLast.map t3D ++ [t3D q] := by
      have e := map_split3 hg
      have : acc.map t3D = (acc.dropLast ++ [q]).map t3D := by rw [← e]
      rw [this, List.map_append]; rfl
    have e0' : gEqU true [accT acc] (.loc 0) (.d (.lst [])) = some (.bl true) := by rw [e0, hne]; rfl
    have e0f' : gEqU false [accT acc] (.loc 0) (.d (.lst [])) = some (.bl false) := by rw [e0f, hne]; rfl
    have e1 : viewL [accT acc] (.loc 0) = some (acc.map t3D) := by simp only [viewL, accT, List.getElem?_cons_zero, dataOf_map]
    have e4 : gLen [accT acc] [.loc 0] = some (.int acc.length) := by
      simp only [gLen, viewQ, e1, Option.map_some, List.length_map]
    have e2 : LP.gIx [accT acc] (.loc 0) (.d (.int ((acc.length : Int) - 1))) = some (t3D q) := by
      have el : (acc.length : Int) = ((acc.map t3D).length : Int) := by rw [List.length_map]
      simp only [LP.gIx, viewQ, e1, Option.bind_some]
      rw [el, hms, atlen]
    have z0 : ∀ S, LP.gIx S (.d (t3D q)) (.d (.int 0)) = some (.int q.1) := fun S => rfl
    have z2 : ∀ S, LP.gIx S (.d (t3D q)) (.d (.int 2)) = some (.tup (q.2.2.map .int)) := fun S => rfl
    have e3 := eq_tints true [accT acc] q.2.2 (plL x L)
    by_cases hc : q.2.2 = plL x L
    · have hc' : decide (q.2.2 = plL x L) = true := decide_eq_true hc
      rw [hc'] at e3
      have e5 : lstep (fun x => plL x L) acc x = acc := by simp only [lstep, hg, if_pos hc]
      simp only [w_l_cut_for3_1, e0', e0f', e4, e2, z2, e3, stG, wSeq, wIf, wAsg, wRet, wRetN, wNext, wB, wCons, wNil, wOp, wFn, wPar, wAsgT, wTup, wLst, wNewL, setIx_eq, setA, wM1, wI, wFor, bV, bNot, bAnd, bOr, fOp, fC, fV, fCons, fNil, fCall, fIsi, fAnd, fOr, fNot, chain_le, fTup, fLst, fIf, fFn, tgN, tgT, setAll, gI, gLe, gLt, gGe, gGt, LP.gSub, gMod, gFdiv, gPow, gPlus, gTimes, gIntA, gInt, gIsN, tyA, TN.sub, LP.dataOf, A.toD, viewT, gEq_ii, gEq_ss, gEq_bb, gEq_nn, fSl, slV, oN, oS, iL, iR1, wFnM, gFdivW, tNot', tV, wFrz, fFld, fldV, gEither, gOwnIn, gOwnBin, gOwnEq, fIsiO, gIsiO, fProp, propV, fMeth, fMake, fMakeV, twoT, viewT, iZQ, iET, Option.bind_some, Option.map_some, Option.bind_none, Option.map_none, Option.bind, Option.map, List.getElem?_cons_zero, List.getElem?_cons_succ, List.getElem?_nil, List.set_cons_zero, List.set_cons_succ, List.set_nil, if_true, if_false, ↓reduceIte, Bool.not_true, Bool.not_false, decide_true, decide_false, Bool.false_eq_true, reduceCtorEq, true_and, false_and, and_true, and_false, not_true, not_false_eq_true, List.any_cons, List.any_nil, Bool.or_false, Bool.or_true, Bool.true_or, Bool.false_or, Bool.and_true, Bool.true_and, Bool.and_false, Bool.false_and, exists_eq_left, exists_eq_left', Option.some.injEq, A.d.injEq, D.int.injEq, D.bl.injEq, D.str.injEq, D.lst.injEq, D.tup.injEq, Except.ok.injEq, List.cons_append, List.nil_append, List.map_cons, List.map_nil, List.length_cons, List.length_nil, List.replicate, Nat.reduceSub, Nat.reduceAdd, List.append_nil, eq_self, or_true, true_or, or_false, false_or, Int.reduceNeg, Int.reducePow, Int.reduceLT, Int.reduceLE, List.length_set]
      exact hE _ _ _ _ (by rw [e5]) rfl
    · have hc' : decide (q.2.2 = plL x L) = false := decide_eq_false hc
      rw [hc'] at e3
      have e5 : lstep (fun x => plL x L) acc x = acc.dropLast ++ [(q.1, x - 1, q.2.2)] ++ [(x, GR, plL x L)] := by simp only [lstep, hg, if_neg hc]
      simp only [w_l_cut_for3_1, e0', e0f', e4, e2, z2, e3, stG, wSeq, wIf, wAsg, wRet, wRetN, wNext, wB, wCons, wNil, wOp, wFn, wPar, wAsgT, wTup, wLst, wNewL, setIx_eq, setA, wM1, wI, wFor, bV, bNot, bAnd, bOr, fOp, fC, fV, fCons, fNil, fCall, fIsi, fAnd, fOr, fNot, chain_le, fTup, fLst, fIf, fFn, tgN, tgT, setAll, gI, gLe, gLt, gGe, gGt, LP.gSub, gMod, gFdiv, gPow, gPlus, gTimes, gIntA, gInt, gIsN, tyA, TN.sub, LP.dataOf, A.toD, viewT, gEq_ii, gEq_ss, gEq_bb, gEq_nn, fSl, slV, oN, oS, iL, iR1, wFnM, gFdivW, tNot', tV, wFrz, fFld, fldV, gEither, gOwnIn, gOwnBin, gOwnEq, fIsiO, gIsiO, fProp, propV, fMeth, fMake, fMakeV, twoT, viewT, iZQ, iET, Option.bind_some, Option.map_some, Option.bind_none, Option.map_none, Option.bind, Option.map, List.getElem?_cons_zero, List.getElem?_cons_succ, List.getElem?_nil, List.set_cons_zero, List.set_cons_succ, List.set_nil, if_true, if_false, ↓reduceIte, Bool.not_true, Bool.not_false, decide_true, decide_false, Bool.false_eq_true, reduceCtorEq, true_and, false_and, and_true, and_false, not_true, not_false_eq_true, List.any_cons, List.any_nil, Bool.or_false, Bool.or_true, Bool.true_or, Bool.false_or, Bool.and_true, Bool.true_and, Bool.and_false, Bool.false_and, exists_eq_left, exists_eq_left', Option.some.injEq, A.d.injEq, D.int.injEq, D.bl.injEq, D.str.injEq, D.lst.injEq, D.tup.injEq, Except.ok.injEq, List.cons_append, List.nil_append, List.map_cons, List.map_nil, List.length_cons, List.length_nil, List.replicate, Nat.reduceSub, Nat.reduceAdd, List.append_nil, eq_self, or_true, true_or, or_false, false_or, Int.reduceNeg, Int.reducePow, Int.reduceLT, Int.reduceLE, List.length_set]
      refine lm_pop (a := .d (t3D q)) (l := (acc.dropLast.map t3D).map A.d) rfl ?_ ?_
      · show some (accT acc) = _
        rw [accT, hms, List.map_append]
        rfl
      · refine lm_app (a := .d (t3D (q.1, x - 1, q.2.2))) (l := (acc.dropLast.map t3D).map A.d) rfl rfl ?_ (by rw [len3, List.length_dropLast]; exact of_eq_true (big60' (by omega))) ?_
        · have z0' : ∀ S, LP.gIx S (.d (.tup [.int q.1, .int q.2.1, .tup (q.2.2.map .int)])) (.d (.int 0)) = some (.int q.1) := fun S => rfl
          have z2' : ∀ S, LP.gIx S (.d (.tup [.int q.1, .int q.2.1, .tup (q.2.2.map .int)])) (.d (.int 2)) = some (.tup (q.2.2.map .int)) := fun S => rfl
          simp only [z0', z2', t3D, stG, wSeq, wIf, wAsg, wRet, wRetN, wNext, wDrop, wP, wB, wPs, wCons, wNil, wOp, wFn, wPar, wAsgT, wTup, wLst, wNewL, setIx_eq, setA, wM1, wI, wFor, bV, bNot, bAnd, bOr, fOp, fC, fV, fCons, fNil, fCall, fIsi, fAnd, fOr, fNot, chain_le, fTup, fLst, fIf, fFn, tgN, tgT, setAll, gI, gLen, gLe, gLt, gGe, gGt, LP.gSub, gMod, gFdiv, gPow, gPlus, gTimes, gIntA, gInt, gIsN, tyA, TN.sub, LP.dataOf, A.toD, viewL, viewQ, viewT, gEq_ii, gEq_ss, gEq_bb, gEq_nn, fSl, slV, oN, oS, iL, iR1, wFnM, gFdivW, tNot', tV, wFrz, fFld, fldV, gEither, gOwnIn, gOwnBin, gOwnEq, fIsiO, gIsiO, fProp, propV, fMeth, fMake, fMakeV, twoT, viewT, iZQ, iET, Option.bind_some, Option.map_some, Option.bind_none, Option.map_none, Option.bind, Option.map, List.getElem?_cons_zero, List.getElem?_cons_succ, List.getElem?_nil, List.set_cons_zero, List.set_cons_succ, List.set_nil, if_true, if_false, ↓reduceIte, Bool.not_true, Bool.not_false, decide_true, decide_false, Bool.false_eq_true, reduceCtorEq, true_and, false_and, and_true, and_false, not_true, not_false_eq_true, List.any_cons, List.any_nil, Bool.or_false, Bool.or_true, Bool.true_or, Bool.false_or, Bool.and_true, Bool.true_and, Bool.and_false, Bool.false_and, exists_eq_left, exists_eq_left', Option.some.injEq, A.d.injEq, D.int.injEq, D.bl.injEq, D.str.injEq, D.lst.injEq, D.tup.injEq, Except.ok.injEq, List.cons_append, List.nil_append, List.map_cons, List.map_nil, List.length_cons, List.length_nil, List.replicate, Nat.reduceSub, Nat.reduceAdd, List.append_nil, eq_self, or_true, true_or, or_false, false_or, Int.reduceNeg, Int.reducePow, Int.reduceLT, Int.reduceLE, List.length_set]
        · refine lm_app (l := ((acc.dropLast ++ [(q.1, x - 1, q.2.2)]).map t3D).map A.d) rfl ?_ (h3 _ _) (by rw [len3, List.length_append, List.length_dropLast, List.length_singleton]; exact of_eq_true (big60' (by omega))) (hE _ _ _ _ ?_ rfl)
          · simp [t3D]
          · rw [e5]
            simp [accT, t3D]
end
theorem lstep_len (pl : Int → List Int) (acc : List T3) (x : Int) : (lstep pl acc x).length ≤ acc.length + 1 := by
  unfold lstep
  split
  · rename_i q hq
    split
    · omega
    · have : acc ≠ [] := by rintro rfl; cases hq
      have h2 : 0 < acc.length := List.length_pos_iff.mpr this
      simp only [List.length_append, List.length_dropLast, List.length_singleton]
      omega
  · simp
theorem v_l_cut (ds : List D) (o : Except Er D) (h : G_lcut ds = some o) : w_l_cut (stG N_l_cut (ds.map A.d)) [] (dnP o) := by
  unfold G_lcut at h
  split at h
  · rename_i rows
    cases e : rowsL rows with
    | none => rw [e] at h; cases h
    | some L =>
      rw [e, Option.bind_some] at h
      split at h
      · rename_i hk
        cases h
        have hls := rows_some e
        subst hls
        have hel := lends_len hk
        have hfl : L.flatten.foldl lf [0] = lends L := rfl
        simp only [w_l_cut_0, N_l_cut, stG, wSeq, wIf, wAsg, wRet, wRetN, wNext, wDrop, wP, wB, wPs, wCons, wNil, wOp, wFn, wPar, wAsgT, wTup, wLst, wNewL, setIx_eq, setA, wM1, wI, wFor, bV, bNot, bAnd, bOr, fOp, fC, fV, fCons, fNil, fCall, fIsi, fAnd, fOr, fNot, chain_le, fTup, fLst, fIf, fFn, tgN, tgT, setAll, gI, gLen, gLe, gLt, gGe, gGt, LP.gSub, gMod, gFdiv, gPow, gPlus, gTimes, gIntA, gInt, gIsN, gIx, tyA, TN.sub, LP.dataOf, A.toD, viewL, viewQ, viewT, gEq_ii, gEq_ss, gEq_bb, gEq_nn, fSl, slV, oN, oS, iL, iR1, wFnM, gFdivW, tNot', tV, wFrz, fFld, fldV, gEither, gOwnIn, gOwnBin, gOwnEq, fIsiO, gIsiO, fProp, propV, fMeth, fMake, fMakeV, twoT, viewT, iZQ, iET, Option.bind_some, Option.map_some, Option.bind_none, Option.map_none, Option.bind, Option.map, List.getElem?_cons_zero, List.getElem?_cons_succ, List.getElem?_nil, List.set_cons_zero, List.set_cons_succ, List.set_nil, if_true, if_false, ↓reduceIte, Bool.not_true, Bool.not_false, decide_true, decide_false, Bool.false_eq_true, reduceCtorEq, true_and, false_and, and_true, and_false, not_true, not_false_eq_true, List.any_cons, List.any_nil, Bool.or_false, Bool.or_true, Bool.true_or, Bool.false_or, Bool.and_true, Bool.true_and, Bool.and_false, Bool.false_and, exists_eq_left, exists_eq_left', Option.some.injEq, A.d.injEq, D.int.injEq, D.bl.injEq, D.str.injEq, D.lst.injEq, D.tup.injEq, Except.ok.injEq, List.cons_append, List.nil_append, List.map_cons, List.map_nil, List.length_cons, List.length_nil, List.replicate, Nat.reduceSub, Nat.reduceAdd, List.append_nil, eq_self, or_true, true_or, or_false, false_or, Int.reduceNeg, Int.reducePow, Int.reduceLT, Int.reduceLE, List.length_set]
        simp only [w_l_cut_1, stG, wSeq, wIf, wAsg, wRet, wRetN, wNext, wDrop, wP, wB, wPs, wCons, wNil, wOp, wFn, wPar, wAsgT, wTup, wLst, wNewL, setIx_eq, setA, wM1, wI, wFor, bV, bNot, bAnd, bOr, fOp, fC, fV, fCons, fNil, fCall, fIsi, fAnd, fOr, fNot, chain_le, fTup, fLst, fIf, fFn, tgN, tgT, setAll, gI, gLen, gLe, gLt, gGe, gGt, LP.gSub, gMod, gFdiv, gPow, gPlus, gTimes, gIntA, gInt, gIsN, gIx, tyA, TN.sub, LP.dataOf, A.toD, viewL, viewQ, viewT, gEq_ii, gEq_ss, gEq_bb, gEq_nn, fSl, slV, oN, oS, iL, iR1, wFnM, gFdivW, tNot', tV, wFrz, fFld, fldV, gEither, gOwnIn, gOwnBin, gOwnEq, fIsiO, gIsiO, fProp, propV, fMeth, fMake, fMakeV, twoT, viewT, iZQ, iET, Option.bind_some, Option.map_some, Option.bind_none, Option.map_none, Option.bind, Option.map, List.getElem?_cons_zero, List.getElem?_cons_succ, List.getElem?_nil, List.set_cons_zero, List.set_cons_succ, List.set_nil, if_true, if_false, ↓reduceIte, Bool.not_true, Bool.not_false, decide_true, decide_false, Bool.false_eq_true, reduceCtorEq, true_and, false_and, and_true, and_false, not_true, not_false_eq_true, List.any_cons, List.any_nil, Bool.or_false, Bool.or_true, Bool.true_or, Bool.false_or, Bool.and_true, Bool.true_and, Bool.and_false, Bool.false_and, exists_eq_left, exists_eq_left', Option.some.injEq, A.d.injEq, D.int.injEq, D.bl.injEq, D.str.injEq, D.lst.injEq, D.tup.injEq, Except.ok.injEq, List.cons_append, List.nil_append, List.map_cons, List.map_nil, List.length_cons, List.length_nil, List.replicate, Nat.reduceSub, Nat.reduceAdd, List.append_nil, eq_self, or_true, true_or, or_false, false_or, Int.reduceNeg, Int.reducePow, Int.reduceLT, Int.reduceLE, List.length_set]
        refine ⟨_, _, rfl, rfl, ?_⟩
        have b1 := lf_fold_len L.flatten [0]
        have b2 := flat_le (L := L) (okL_iff.mp hk).2
        have b3 := (okL_iff.mp hk).1
        refine loop_inv (fun r Γ S' => ∃ (Lr : List (List PZ)) (acc : List Int) (x2 x4 x6 : Option A), r = Lr.map (fun l => .lst (l.map pzD)) ∧ Γ = [some (.d (.lst (L.map fun l => .lst (l.map pzD)))), some (.d (.lst (acc.map .int))), x2, none, x4, none, x6, none, none] ∧ S' = [] ∧ acc.length + 2 * Lr.flatten.length ≤ 20 ∧ Lr.flatten.foldl lf acc = lends L) ?_ ?_ _ _ _ ⟨L, [0], none, none, none, rfl, rfl, rfl, by rw [List.length_singleton]; omega, hfl⟩
        · rintro d r Γ S' nx ⟨Lr, acc, x2, x4, x6, hr, rfl, rfl, hn, hj⟩ hnx
          cases Lr with
          | nil => cases hr
          | cons ps Lr =>
            cases hr
            rw [List.flatten_cons, List.length_append] at hn
            rw [List.flatten_cons, List.foldl_append] at hj
            refine ⟨_, rfl, ?_⟩
            simp only [w_l_cut_for1_0, stG, wSeq, wIf, wAsg, wRet, wRetN, wNext, wDrop, wP, wB, wPs, wCons, wNil, wOp, wFn, wPar, wAsgT, wTup, wLst, wNewL, setIx_eq, setA, wM1, wI, wFor, bV, bNot, bAnd, bOr, fOp, fC, fV, fCons, fNil, fCall, fIsi, fAnd, fOr, fNot, chain_le, fTup, fLst, fIf, fFn, tgN, tgT, setAll, gI, gLen, gLe, gLt, gGe, gGt, LP.gSub, gMod, gFdiv, gPow, gPlus, gTimes, gIntA, gInt, gIsN, gIx, tyA, TN.sub, LP.dataOf, A.toD, viewL, viewQ, viewT, gEq_ii, gEq_ss, gEq_bb, gEq_nn, fSl, slV, oN, oS, iL, iR1, wFnM, gFdivW, tNot', tV, wFrz, fFld, fldV, gEither, gOwnIn, gOwnBin, gOwnEq, fIsiO, gIsiO, fProp, propV, fMeth, fMake, fMakeV, twoT, viewT, iZQ, iET, Option.bind_some, Option.map_some, Option.bind_none, Option.map_none, Option.bind, Option.map, List.getElem?_cons_zero, List.getElem?_cons_succ, List.getElem?_nil, List.set_cons_zero, List.set_cons_succ, List.set_nil, if_true, if_false, ↓reduceIte, Bool.not_true, Bool.not_false, decide_true, decide_false, Bool.false_eq_true, reduceCtorEq, true_and, false_and, and_true, and_false, not_true, not_false_eq_true, List.any_cons, List.any_nil, Bool.or_false, Bool.or_true, Bool.true_or, Bool.false_or, Bool.and_true, Bool.true_and, Bool.and_false, Bool.false_and, exists_eq_left, exists_eq_left', Option.some.injEq, A.d.injEq, D.int.injEq, D.bl.injEq, D.str.injEq, D.lst.injEq, D.tup.injEq, Except.ok.injEq, List.cons_append, List.nil_append, List.map_cons, List.map_nil, List.length_cons, List.length_nil, List.replicate, Nat.reduceSub, Nat.reduceAdd, List.append_nil, eq_self, or_true, true_or, or_false, false_or, Int.reduceNeg, Int.reducePow, Int.reduceLT, Int.reduceLE, List.length_set]
            refine ⟨_, _, rfl, rfl, ?_⟩
            refine loop_inv (fun r Γ S' => ∃ (pr : List PZ) (acc : List Int) (x4 x6 : Option A), r = pr.map pzD ∧ Γ = [some (.d (.lst (L.map fun l => .lst (l.map pzD)))), some (.d (.lst (acc.map .int))), some (.d (.lst (ps.map pzD))), none, x4, none, x6, none, none] ∧ S' = [] ∧ acc.length + 2 * (pr.length + Lr.flatten.length) ≤ 20 ∧ Lr.flatten.foldl lf (pr.foldl lf acc) = lends L) ?_ ?_ _ _ _ ⟨ps, acc, x4, x6, rfl, rfl, rfl, hn, hj⟩
            · rintro d2 r2 Γ2 S2 nx2 ⟨pr, acc2, y4, y6, hr2, rfl, rfl, hn2, hj2⟩ hnx2
              cases pr with
              | nil => cases hr2
              | cons p pr =>
                cases hr2
                rw [List.length_cons] at hn2
                have hlf := lf_len acc2 p
                exact ⟨_, rfl, lcut_grow (by omega) (hnx2 _ _ rfl ⟨pr, lf acc2 p, _, _, rfl, rfl, rfl, by omega, hj2⟩)⟩
            · rintro Γ2 S2 ⟨pr, acc2, y4, y6, hr2, rfl, rfl, hn2, hj2⟩
              cases pr with
              | cons => cases hr2
              | nil => exact hnx _ _ rfl ⟨Lr, acc2, _, _, _, rfl, rfl, rfl, by simpa using hn2, hj2⟩
        · rintro Γ S' ⟨Lr, acc, x2, x4, x6, hr, rfl, rfl, hn, hj⟩
          cases Lr with
          | cons => cases hr
          | nil =>
            have hj' : acc = lends L := hj
            subst hj'
            have s1 := sortS_ok (S := [MO.lst []]) (ns := lends L) (by omega)
            have hbl := srtS_len (lends L)
            simp only [w_l_cut_2, w_l_cut_3, fSortS, s1, stG, wSeq, wIf, wAsg, wRet, wRetN, wNext, wDrop, wP, wB, wPs, wCons, wNil, wOp, wFn, wPar, wAsgT, wTup, wLst, wNewL, setIx_eq, setA, wM1, wI, wFor, bV, bNot, bAnd, bOr, fOp, fC, fV, fCons, fNil, fCall, fIsi, fAnd, fOr, fNot, chain_le, fTup, fLst, fIf, fFn, tgN, tgT, setAll, gI, gLen, gLe, gLt, gGe, gGt, LP.gSub, gMod, gFdiv, gPow, gPlus, gTimes, gIntA, gInt, gIsN, gIx, tyA, TN.sub, LP.dataOf, A.toD, viewL, viewQ, viewT, gEq_ii, gEq_ss, gEq_bb, gEq_nn, fSl, slV, oN, oS, iL, iR1, wFnM, gFdivW, tNot', tV, wFrz, fFld, fldV, gEither, gOwnIn, gOwnBin, gOwnEq, fIsiO, gIsiO, fProp, propV, fMeth, fMake, fMakeV, twoT, viewT, iZQ, iET, Option.bind_some, Option.map_some, Option.bind_none, Option.map_none, Option.bind, Option.map, List.getElem?_cons_zero, List.getElem?_cons_succ, List.getElem?_nil, List.set_cons_zero, List.set_cons_succ, List.set_nil, if_true, if_false, ↓reduceIte, Bool.not_true, Bool.not_false, decide_true, decide_false, Bool.false_eq_true, reduceCtorEq, true_and, false_and, and_true, and_false, not_true, not_false_eq_true, List.any_cons, List.any_nil, Bool.or_false, Bool.or_true, Bool.true_or, Bool.false_or, Bool.and_true, Bool.true_and, Bool.and_false, Bool.false_and, exists_eq_left, exists_eq_left', Option.some.injEq, A.d.injEq, D.int.injEq, D.bl.injEq, D.str.injEq, D.lst.injEq, D.tup.injEq, Except.ok.injEq, List.cons_append, List.nil_append, List.map_cons, List.map_nil, List.length_cons, List.length_nil, List.replicate, Nat.reduceSub, Nat.reduceAdd, List.append_nil, eq_self, or_true, true_or, or_false, false_or, Int.reduceNeg, Int.reducePow, Int.reduceLT, Int.reduceLE, List.length_set]
            refine ⟨_, _, rfl, rfl, ?_⟩
            refine loop_inv (fun r Γ S' => ∃ (rp : List Int) (acc : List T3) (x4 x5 x7 : Option A), r = rp.map .int ∧ Γ = [some (.d (.lst (L.map fun l => .lst (l.map pzD)))), some (.d (.lst ((lends L).map .int))), x2, some (.loc 0), x4, x5, x6, x7, none] ∧ S' = [accT acc] ∧ acc.length + rp.length ≤ 60 ∧ rp.foldl (lstep fun x => plL x L) acc = lcutL L) ?_ ?_ _ _ _ ⟨srtS (lends L), [], x4, none, none, rfl, rfl, rfl, by rw [List.length_nil]; omega, rfl⟩
            · rintro d r Γ S' nx ⟨rp, acc, y4, y5, y7, hr, rfl, rfl, hn, hj⟩ hnx
              cases rp with
              | nil => cases hr
              | cons x rp =>
                cases hr
                rw [List.length_cons] at hn
                have hsl := lstep_len (fun x => plL x L) acc x
                exact ⟨_, rfl, lcut_turn (x5 := y5) (x7 := y7) hk (by omega) fun Γ S' z5 z7 hS hΓ => hnx _ _ rfl ⟨rp, lstep (fun x => plL x L) acc x, _, z5, z7, rfl, hΓ, hS, by omega, hj⟩⟩
            · rintro Γ S' ⟨rp, acc, y4, y5, y7, hr, rfl, rfl, hn, hj⟩
              cases rp with
              | cons => cases hr
              | nil =>
                have hj' : acc = lcutL L := hj
                simp only [w_l_cut_4, frz_acc3, stG, wSeq, wIf, wAsg, wRet, wRetN, wNext, wDrop, wP, wB, wPs, wCons, wNil, wOp, wFn, wPar, wAsgT, wTup, wLst, wNewL, setIx_eq, setA, wM1, wI, wFor, bV, bNot, bAnd, bOr, fOp, fC, fV, fCons, fNil, fCall, fIsi, fAnd, fOr, fNot, chain_le, fTup, fLst, fIf, fFn, tgN, tgT, setAll, gI, gLen, gLe, gLt, gGe, gGt, LP.gSub, gMod, gFdiv, gPow, gPlus, gTimes, gIntA, gInt, gIsN, gIx, tyA, TN.sub, LP.dataOf, A.toD, viewL, viewQ, viewT, gEq_ii, gEq_ss, gEq_bb, gEq_nn, fSl, slV, oN, oS, iL, iR1, wFnM, gFdivW, tNot', tV, wFrz, fFld, fldV, gEither, gOwnIn, gOwnBin, gOwnEq, fIsiO, gIsiO, fProp, propV, fMeth, fMake, fMakeV, twoT, viewT, iZQ, iET, Option.bind_some, Option.map_some, Option.bind_none, Option.map_none, Option.bind, Option.map, List.getElem?_cons_zero, List.getElem?_cons_succ, List.getElem?_nil, List.set_cons_zero, List.set_cons_succ, List.set_nil, if_true, if_false, ↓reduceIte, Bool.not_true, Bool.not_false, decide_true, decide_false, Bool.false_eq_true, reduceCtorEq, true_and, false_and, and_true, and_false, not_true, not_false_eq_true, List.any_cons, List.any_nil, Bool.or_false, Bool.or_true, Bool.true_or, Bool.false_or, Bool.and_true, Bool.true_and, Bool.and_false, Bool.false_and, exists_eq_left, exists_eq_left', Option.some.injEq, A.d.injEq, D.int.injEq, D.bl.injEq, D.str.injEq, D.lst.injEq, D.tup.injEq, Except.ok.injEq, List.cons_append, List.nil_append, List.map_cons, List.map_nil, List.length_cons, List.length_nil, List.replicate, Nat.reduceSub, Nat.reduceAdd, List.append_nil, eq_self, or_true, true_or, or_false, false_or, Int.reduceNeg, Int.reducePow, Int.reduceLT, Int.reduceLE, List.length_set]
                rw [hj']
                exact ⟨_, _, rfl, rfl⟩
      · cases h
  · cases h
end K

set_option maxHeartbeats 4000000
namespace K
open PySem PySem.Spec PyProof.Rows L2 LP
theorem get_eq {S : So} {i : Nat} {a b : MO} (h : S[i]? = some a) : (S.set i b)[i]? = some b := List.getElem?_set_self (List.getElem?_eq_some_iff.mp h).1
theorem same_ok {x y : D} (h : x = y) (hs : D.sam 3 x = true) : G_same 3 [x, y] = some (.ok (.bl true)) := by
  subst h; simp [G_same, hs]
theorem sam_ints (n : Nat) (l : List Int) : (l.map D.int).all (fun x => D.sam n x) = true := by
  rw [List.all_eq_true]
  intro d hd
  obtain ⟨s, _, rfl⟩ := List.mem_map.mp hd
  cases n <;> rfl
theorem sam_prs (n : Nat) (l : List PZ) : (l.map pzD).all (fun x => D.sam (n + 1) x) = true := by
  rw [List.all_eq_true]
  intro d hd
  obtain ⟨s, _, rfl⟩ := List.mem_map.mp hd
  cases n <;> rfl
theorem sam_t3 (l : List T3) : D.sam 3 (.lst (l.map t3D)) = true := by
  rw [D.sam, List.all_eq_true]
  intro d hd
  obtain ⟨s, _, rfl⟩ := List.mem_map.mp hd
  simp only [t3D, D.sam, List.all_cons, List.all_nil, sam_ints, Bool.and_self]
theorem sam_rows (L : List (List PZ)) : D.sam 3 (.lst (L.map fun l => .lst (l.map pzD))) = true := by
  rw [D.sam, List.all_eq_true]
  intro d hd
  obtain ⟨s, _, rfl⟩ := List.mem_map.mp hd
  simp only [D.sam, sam_prs]
theorem joined_ok {l : List PZ} (h : oks 60 l = true) : G_joined [.lst (l.map pzD)] = some (.ok (.lst ((joinL l).map pzD))) := by
  simp only [G_joined, spansOf_lst h, Option.map_some]
theorem okL_join {L : List (List PZ)} (h : okL L = true) : okL (L.map joinL) = true := by
  obtain ⟨h1, h2⟩ := okL_iff.mp h
  refine okL_iff.mpr ⟨by rw [List.length_map]; exact h1, fun l hl => ?_⟩
  obtain ⟨l', hl', rfl⟩ := List.mem_map.mp hl
  exact jn_oks (h2 l' hl')
theorem cut_ok {L : List (List PZ)} (h : okL L = true) : G_cutS (L.map fun l => ltr (joinL l)) = some (.ok (.lst ((lcutL L).map t3D))) := by
  have hj := okL_join h
  obtain ⟨h1, h2⟩ := okL_iff.mp h
  have h3 := (okL_iff.mp hj).2
  have e : (L.map fun l => ltr (joinL l)) = (L.map joinL).map ltr := by rw [List.map_map]; rfl
  have hl : ((L.map joinL).map ltr).length ≤ 1000 ∧ 0 ≤ ((L.map joinL).map ltr).length := ⟨by rw [List.length_map, List.length_map]; omega, Nat.zero_le _⟩
  unfold G_cutS packP
  rw [e, if_pos hl, List.take_zero, List.drop_zero, List.nil_append]
  simp only [G_cut, letters_ok fun l hl => oks_up (h3 l hl) (by decide : 3 ≤ 60), Option.bind_some, hj, if_true]
  rw [cut_law fun l hl => (oks_iff.mp (h2 l hl)).1]
theorem lcut_ok {L : List (List PZ)} (h : okL L = true) : G_lcut [.lst (L.map fun l => .lst (l.map pzD))] = some (.ok (.lst ((lcutL L).map t3D))) := by
  obtain ⟨h1, h2⟩ := okL_iff.mp h
  simp only [G_lcut, rows_ok fun l hl => oks_up (h2 l hl) (by decide : 3 ≤ 60), Option.bind_some, h, if_true]
def nears (base : Int) (l : List PZ) : Prop := ∀ p ∈ l, near base p
theorem near_ok {base : Int} (h0 : 0 ≤ base) (h1 : base ≤ 999999999999999980) {l : List PZ} (h : nears base l) : ∀ p ∈ l, okP p = true := fun p hp => by
  obtain ⟨a, b, c⟩ := h p hp
  apply decide_eq_true
  unfold GR
  omega
def goodL (base : Int) (L : List (List PZ)) : Prop := ∀ l ∈ L, nears base l ∧ l.length ≤ 3
theorem good_ok {base : Int} (h0 : 0 ≤ base) (h1 : base ≤ 999999999999999980) {L : List (List PZ)} (h : goodL base L) (hl : L.length ≤ 3) : okL L = true :=
  okL_iff.mpr ⟨hl, fun l hl => oks_iff.mpr ⟨near_ok h0 h1 (h l hl).1, (h l hl).2⟩⟩
theorem cut_take {l : List D} {n : Nat} : LP.cutD l none (some (n : Int)) = l.take n := by
  unfold LP.cutD
  rw [HT.sIx_nat, HT.sIx_none, List.drop_zero, Nat.sub_zero]
  by_cases h : n ≤ l.length
  · rw [Nat.min_eq_left h]
  · rw [Nat.min_eq_right (by omega), List.take_of_length_le (Nat.le_refl _), List.take_of_length_le (by omega)]
section
variable {x0 x2 x4 x5 x6 x7 x8 x9 x10 : Option A} {S : So} {m : MO} {base : Int}
theorem law_spans {ex : EK} {Q : AK} (hS : S[1]? = some m) (hb : Bag m)
    (hQ : ∀ ps S' m', nears base ps → ps.length ≤ 3 → S'[1]? = some m' → Bag m' → Q (.d (.lst (ps.map pzD))) S') :
    wLc (wIR1 (wFnM [] fc_pull (wPs (fCons (fV 1) (fCons (fC (.int 4)) (fNil)))))) (tgN 9) [9] (fun _ S _ Q => Q true S) (wFnM [] fc_span (wPs (fCons (fV 1) (fCons (fV 3) (fNil))))) [x0, some (.loc 1), x2, some (.d (.int base)), x4, x5, x6, x7, x8, x9, x10] S ex Q := by
  simp only [wLc, wIR1, stG, wSeq, wIf, wAsg, wRet, wRetN, wNext, wDrop, wP, wB, wPs, wCons, wNil, wOp, wFn, wPar, wAsgT, wTup, wLst, wNewL, setIx_eq, setA, wM1, wI, wFor, bV, bNot, bAnd, bOr, fOp, fC, fV, fCons, fNil, fCall, fIsi, fAnd, fOr, fNot, chain_le, fTup, fLst, fIf, fFn, tgN, tgT, setAll, gI, gLen, gLe, gLt, gGe, gGt, LP.gSub, gMod, gFdiv, gPow, gPlus, gTimes, gIntA, gInt, gIsN, gIx, tyA, TN.sub, LP.dataOf, A.toD, viewL, viewQ, viewT, gEq_ii, gEq_ss, gEq_bb, gEq_nn, fSl, slV, oN, oS, iL, iR1, wFnM, gFdivW, tNot', tV, wFrz, fFld, fldV, gEither, gOwnIn, gOwnBin, gOwnEq, fIsiO, gIsiO, fProp, propV, fMeth, fMake, fMakeV, twoT, viewT, iZQ, iET, Option.bind_some, Option.map_some, Option.bind_none, Option.map_none, Option.bind, Option.map, List.getElem?_cons_zero, List.getElem?_cons_succ, List.getElem?_nil, List.set_cons_zero, List.set_cons_succ, List.set_nil, if_true, if_false, ↓reduceIte, Bool.not_true, Bool.not_false, decide_true, decide_false, Bool.false_eq_true, reduceCtorEq, true_and, false_and, and_true, and_false, not_true, not_false_eq_true, List.any_cons, List.any_nil, Bool.or_false, Bool.or_true, Bool.true_or, Bool.false_or, Bool.and_true, Bool.true_and, Bool.and_false, Bool.false_and, exists_eq_left, exists_eq_left', Option.some.injEq, A.d.injEq, D.int.injEq, D.bl.injEq, D.str.injEq, D.lst.injEq, D.tup.injEq, Except.ok.injEq, List.cons_append, List.nil_append, List.map_cons, List.map_nil, List.length_cons, List.length_nil, List.replicate, Nat.reduceSub, Nat.reduceAdd, List.append_nil, eq_self, or_true, true_or, or_false, false_or, Int.reduceNeg, Int.reducePow, Int.reduceLT, Int.reduceLE, List.length_set]
  refine ⟨1, m, 4, rfl, hS, hb, by decide, by decide, fun n m1 hb1 n0 n1 => ?_⟩
  refine ⟨n, rfl, by omega, by omega, ?_⟩
  refine lc_inv (fun acc r S' => ∃ ps m', acc = ps.map pzD ∧ nears base ps ∧ ps.length + r.length ≤ 3 ∧ S'[1]? = some m' ∧ Bag m') ?_ ?_ _ _ _ ⟨[], m1, rfl, fun p hp => (by cases hp), by simp [rangeD]; omega, get_eq hS, hb1⟩
  · rintro acc d r S' k ⟨ps, m', rfl, h1, h2, h3, h4⟩ hk
    refine ⟨_, rfl, ?_⟩
    simp only [wipeG, stG, wSeq, wIf, wAsg, wRet, wRetN, wNext, wDrop, wP, wB, wPs, wCons, wNil, wOp, wFn, wPar, wAsgT, wTup, wLst, wNewL, setIx_eq, setA, wM1, wI, wFor, bV, bNot, bAnd, bOr, fOp, fC, fV, fCons, fNil, fCall, fIsi, fAnd, fOr, fNot, chain_le, fTup, fLst, fIf, fFn, tgN, tgT, setAll, gI, gLen, gLe, gLt, gGe, gGt, LP.gSub, gMod, gFdiv, gPow, gPlus, gTimes, gIntA, gInt, gIsN, gIx, tyA, TN.sub, LP.dataOf, A.toD, viewL, viewQ, viewT, gEq_ii, gEq_ss, gEq_bb, gEq_nn, fSl, slV, oN, oS, iL, iR1, wFnM, gFdivW, tNot', tV, wFrz, fFld, fldV, gEither, gOwnIn, gOwnBin, gOwnEq, fIsiO, gIsiO, fProp, propV, fMeth, fMake, fMakeV, twoT, viewT, iZQ, iET, Option.bind_some, Option.map_some, Option.bind_none, Option.map_none, Option.bind, Option.map, List.getElem?_cons_zero, List.getElem?_cons_succ, List.getElem?_nil, List.set_cons_zero, List.set_cons_succ, List.set_nil, if_true, if_false, ↓reduceIte, Bool.not_true, Bool.not_false, decide_true, decide_false, Bool.false_eq_true, reduceCtorEq, true_and, false_and, and_true, and_false, not_true, not_false_eq_true, List.any_cons, List.any_nil, Bool.or_false, Bool.or_true, Bool.true_or, Bool.false_or, Bool.and_true, Bool.true_and, Bool.and_false, Bool.false_and, exists_eq_left, exists_eq_left', Option.some.injEq, A.d.injEq, D.int.injEq, D.bl.injEq, D.str.injEq, D.lst.injEq, D.tup.injEq, Except.ok.injEq, List.cons_append, List.nil_append, List.map_cons, List.map_nil, List.length_cons, List.length_nil, List.replicate, Nat.reduceSub, Nat.reduceAdd, List.append_nil, eq_self, or_true, true_or, or_false, false_or, Int.reduceNeg, Int.reducePow, Int.reduceLT, Int.reduceLE, List.length_set]
    refine ⟨1, m', base, rfl, h3, h4, fun p m2 hb2 hp => ⟨_, rfl, hk _ _ rfl ⟨ps ++ [p], m2, ?_, ?_, ?_, get_eq h3, hb2⟩⟩⟩
    · rw [List.map_append]; rfl
    · intro q hq
      rcases List.mem_append.mp hq with hq | hq
      · exact h1 q hq
      · rw [List.mem_singleton] at hq; subst hq; exact hp
    · rw [List.length_cons] at h2
      rw [List.length_append, List.length_singleton]
      omega
  · rintro acc S' ⟨ps, m', rfl, h1, h2, h3, h4⟩
    exact hQ ps S' m' h1 (by simpa using h2) h3 h4
abbrev rowD (l : List PZ) : D := .lst (l.map pzD)
theorem law_rows {ex : EK} {Q : AK} (hS : S[1]? = some m) (hb : Bag m)
    (hQ : ∀ L S' m', goodL base L → L.length ≤ 3 → S'[1]? = some m' → Bag m' → Q (.d (.lst (L.map rowD))) S') :
    wLc (wIR1 (wFnM [] fc_pull (wPs (fCons (fV 1) (fCons (fC (.int 4)) (fNil)))))) (tgN 7) [7] (fun _ S _ Q => Q true S) (wLc (wIR1 (wFnM [] fc_pull (wPs (fCons (fV 1) (fCons (fC (.int 4)) (fNil)))))) (tgN 9) [9] (fun _ S _ Q => Q true S) (wFnM [] fc_span (wPs (fCons (fV 1) (fCons (fV 3) (fNil)))))) [x0, some (.loc 1), x2, some (.d (.int base)), x4, x5, x6, x7, x8, x9, x10] S ex Q := by
  rw [wLc]
  simp only [wIR1, stG, wSeq, wIf, wAsg, wRet, wRetN, wNext, wDrop, wP, wB, wPs, wCons, wNil, wOp, wFn, wPar, wAsgT, wTup, wLst, wNewL, setIx_eq, setA, wM1, wI, wFor, bV, bNot, bAnd, bOr, fOp, fC, fV, fCons, fNil, fCall, fIsi, fAnd, fOr, fNot, chain_le, fTup, fLst, fIf, fFn, tgN, tgT, setAll, gI, gLen, gLe, gLt, gGe, gGt, LP.gSub, gMod, gFdiv, gPow, gPlus, gTimes, gIntA, gInt, gIsN, gIx, tyA, TN.sub, LP.dataOf, A.toD, viewL, viewQ, viewT, gEq_ii, gEq_ss, gEq_bb, gEq_nn, fSl, slV, oN, oS, iL, iR1, wFnM, gFdivW, tNot', tV, wFrz, fFld, fldV, gEither, gOwnIn, gOwnBin, gOwnEq, fIsiO, gIsiO, fProp, propV, fMeth, fMake, fMakeV, twoT, viewT, iZQ, iET, Option.bind_some, Option.map_some, Option.bind_none, Option.map_none, Option.bind, Option.map, List.getElem?_cons_zero, List.getElem?_cons_succ, List.getElem?_nil, List.set_cons_zero, List.set_cons_succ, List.set_nil, if_true, if_false, ↓reduceIte, Bool.not_true, Bool.not_false, decide_true, decide_false, Bool.false_eq_true, reduceCtorEq, true_and, false_and, and_true, and_false, not_true, not_false_eq_true, List.any_cons, List.any_nil, Bool.or_false, Bool.or_true, Bool.true_or, Bool.false_or, Bool.and_true, Bool.true_and, Bool.and_false, Bool.false_and, exists_eq_left, exists_eq_left', Option.some.injEq, A.d.injEq, D.int.injEq, D.bl.injEq, D.str.injEq, D.lst.injEq, D.tup.injEq, Except.ok.injEq, List.cons_append, List.nil_append, List.map_cons, List.map_nil, List.length_cons, List.length_nil, List.replicate, Nat.reduceSub, Nat.reduceAdd, List.append_nil, eq_self, or_true, true_or, or_false, false_or, Int.reduceNeg, Int.reducePow, Int.reduceLT, Int.reduceLE, List.length_set]
  refine ⟨1, m, 4, rfl, hS, hb, by decide, by decide, fun n m1 hb1 n0 n1 => ?_⟩
  refine ⟨n, rfl, by omega, by omega, ?_⟩
  refine lc_inv (fun acc r S' => ∃ L m', acc = L.map rowD ∧ goodL base L ∧ L.length + r.length ≤ 3 ∧ S'[1]? = some m' ∧ Bag m') ?_ ?_ _ _ _ ⟨[], m1, rfl, fun p hp => (by cases hp), by simp [rangeD]; omega, get_eq hS, hb1⟩
  · rintro acc d r S' k ⟨L, m', rfl, h1, h2, h3, h4⟩ hk
    refine ⟨_, rfl, ?_⟩
    simp only [wipeG, tgN, List.foldl_cons, List.foldl_nil, List.set_cons_zero, List.set_cons_succ]
    refine law_spans h3 h4 fun ps S2 m2 n1 l1 hS2 hb2 => ⟨_, rfl, hk _ _ rfl ⟨L ++ [ps], m2, ?_, ?_, ?_, hS2, hb2⟩⟩
    · rw [List.map_append]; rfl
    · intro q hq
      rcases List.mem_append.mp hq with hq | hq
      · exact h1 q hq
      · rw [List.mem_singleton] at hq; subst hq; exact ⟨n1, l1⟩
    · rw [List.length_cons] at h2
      rw [List.length_append, List.length_singleton]
      omega
  · rintro acc S' ⟨L, m', rfl, h1, h2, h3, h4⟩
    exact hQ L S' m' h1 (by simpa using h2) h3 h4
end
end K

set_option maxHeartbeats 4000000
namespace K
open PySem PySem.Spec PyProof.Rows L2 LP
section
variable {x0 x1 x2 x3 x4 x5 x6 x7 x8 x9 x10 : Option A} {S : So} {m : MO} {base : Int} {L : List (List PZ)} {Z : Dn}
theorem law_9 (hk : okL L = true) (hZ : Z.nx [x0, x1, x2, x3, some (.d (.lst (L.map rowD))), some (.d (.lst (L.map fun l => ltr (joinL l)))), some (.d (.lst ((lcutL L).map t3D))), x7, x8, x9, x10] S) :
    w_law_for1_9 [x0, x1, x2, x3, some (.d (.lst (L.map rowD))), some (.d (.lst (L.map fun l => ltr (joinL l)))), some (.d (.lst ((lcutL L).map t3D))), x7, x8, x9, x10] S Z := by
  have h1 := lcut_ok hk
  have h2 := (okL_iff.mp hk).2
  have s1 := same_ok (x := .lst ((lcutL L).map t3D)) rfl (sam_t3 _)
  have c1 : fComp (iL (fV 5)) (tgN 10) [10] (fun _ _ => some true) (fMeth mt_runs (fV 10) fNil) [x0, x1, x2, x3, some (.d (.lst (L.map rowD))), some (.d (.lst (L.map fun l => ltr (joinL l)))), some (.d (.lst ((lcutL L).map t3D))), x7, x8, x9, x10] S = some (.d (.lst (L.map fun l => rowD (joinL l)))) := by
    refine comp_map rfl rfl fun l hl => ?_
    have hr := runs_ok (oks_up (jn_oks (h2 l hl)) (by decide : 3 ≤ 60))
    simp only [eltF, wipeG, ltr, mt_runs, hr, stG, wSeq, wIf, wAsg, wRet, wRetN, wNext, wDrop, wP, wB, wPs, wCons, wNil, wOp, wFn, wPar, wAsgT, wTup, wLst, wNewL, setIx_eq, setA, wM1, wI, wFor, bV, bNot, bAnd, bOr, fOp, fC, fV, fCons, fNil, fCall, fIsi, fAnd, fOr, fNot, chain_le, fTup, fLst, fIf, fFn, tgN, tgT, setAll, gI, gLen, gLe, gLt, gGe, gGt, LP.gSub, gMod, gFdiv, gPow, gPlus, gTimes, gIntA, gInt, gIsN, gIx, tyA, TN.sub, LP.dataOf, A.toD, viewL, viewQ, viewT, gEq_ii, gEq_ss, gEq_bb, gEq_nn, fSl, slV, oN, oS, iL, iR1, wFnM, gFdivW, tNot', tV, wFrz, fFld, fldV, gEither, gOwnIn, gOwnBin, gOwnEq, fIsiO, gIsiO, fProp, propV, fMeth, fMake, fMakeV, twoT, viewT, iZQ, iET, Option.bind_some, Option.map_some, Option.bind_none, Option.map_none, Option.bind, Option.map, List.getElem?_cons_zero, List.getElem?_cons_succ, List.getElem?_nil, List.set_cons_zero, List.set_cons_succ, List.set_nil, if_true, if_false, ↓reduceIte, Bool.not_true, Bool.not_false, decide_true, decide_false, Bool.false_eq_true, reduceCtorEq, true_and, false_and, and_true, and_false, not_true, not_false_eq_true, List.any_cons, List.any_nil, Bool.or_false, Bool.or_true, Bool.true_or, Bool.false_or, Bool.and_true, Bool.true_and, Bool.and_false, Bool.false_and, exists_eq_left, exists_eq_left', Option.some.injEq, A.d.injEq, D.int.injEq, D.bl.injEq, D.str.injEq, D.lst.injEq, D.tup.injEq, Except.ok.injEq, List.cons_append, List.nil_append, List.map_cons, List.map_nil, List.length_cons, List.length_nil, List.replicate, Nat.reduceSub, Nat.reduceAdd, List.append_nil, eq_self, or_true, true_or, or_false, false_or, Int.reduceNeg, Int.reducePow, Int.reduceLT, Int.reduceLE, List.length_set]
  have c2 : fComp (iL (fV 4)) (tgN 8) [8] (fun _ _ => some true) (fFn [] G_joined (fCons (fV 8) (fNil))) [x0, x1, x2, x3, some (.d (.lst (L.map rowD))), some (.d (.lst (L.map fun l => ltr (joinL l)))), some (.d (.lst ((lcutL L).map t3D))), x7, x8, x9, x10] S = some (.d (.lst (L.map fun l => rowD (joinL l)))) := by
    refine comp_map rfl rfl fun l hl => ?_
    have hr := joined_ok (oks_up (h2 l hl) (by decide : 3 ≤ 60))
    simp only [eltF, wipeG, rowD, hr, stG, wSeq, wIf, wAsg, wRet, wRetN, wNext, wDrop, wP, wB, wPs, wCons, wNil, wOp, wFn, wPar, wAsgT, wTup, wLst, wNewL, setIx_eq, setA, wM1, wI, wFor, bV, bNot, bAnd, bOr, fOp, fC, fV, fCons, fNil, fCall, fIsi, fAnd, fOr, fNot, chain_le, fTup, fLst, fIf, fFn, tgN, tgT, setAll, gI, gLen, gLe, gLt, gGe, gGt, LP.gSub, gMod, gFdiv, gPow, gPlus, gTimes, gIntA, gInt, gIsN, gIx, tyA, TN.sub, LP.dataOf, A.toD, viewL, viewQ, viewT, gEq_ii, gEq_ss, gEq_bb, gEq_nn, fSl, slV, oN, oS, iL, iR1, wFnM, gFdivW, tNot', tV, wFrz, fFld, fldV, gEither, gOwnIn, gOwnBin, gOwnEq, fIsiO, gIsiO, fProp, propV, fMeth, fMake, fMakeV, twoT, viewT, iZQ, iET, Option.bind_some, Option.map_some, Option.bind_none, Option.map_none, Option.bind, Option.map, List.getElem?_cons_zero, List.getElem?_cons_succ, List.getElem?_nil, List.set_cons_zero, List.set_cons_succ, List.set_nil, if_true, if_false, ↓reduceIte, Bool.not_true, Bool.not_false, decide_true, decide_false, Bool.false_eq_true, reduceCtorEq, true_and, false_and, and_true, and_false, not_true, not_false_eq_true, List.any_cons, List.any_nil, Bool.or_false, Bool.or_true, Bool.true_or, Bool.false_or, Bool.and_true, Bool.true_and, Bool.and_false, Bool.false_and, exists_eq_left, exists_eq_left', Option.some.injEq, A.d.injEq, D.int.injEq, D.bl.injEq, D.str.injEq, D.lst.injEq, D.tup.injEq, Except.ok.injEq, List.cons_append, List.nil_append, List.map_cons, List.map_nil, List.length_cons, List.length_nil, List.replicate, Nat.reduceSub, Nat.reduceAdd, List.append_nil, eq_self, or_true, true_or, or_false, false_or, Int.reduceNeg, Int.reducePow, Int.reduceLT, Int.reduceLE, List.length_set]
  have e2 : (L.map fun l => rowD (joinL l)) = (L.map joinL).map rowD := by rw [List.map_map]; rfl
  have s2 := same_ok (x := .lst (L.map fun l => rowD (joinL l))) rfl (by rw [e2]; exact sam_rows _)
  simp only [w_law_for1_9, h1, s1, c1, c2, s2, stG, wSeq, wIf, wAsg, wRet, wRetN, wNext, wDrop, wP, wB, wPs, wCons, wNil, wOp, wFn, wPar, wAsgT, wTup, wLst, wNewL, setIx_eq, setA, wM1, wI, wFor, bV, bNot, bAnd, bOr, fOp, fC, fV, fCons, fNil, fCall, fIsi, fAnd, fOr, fNot, chain_le, fTup, fLst, fIf, fFn, tgN, tgT, setAll, gI, gLen, gLe, gLt, gGe, gGt, LP.gSub, gMod, gFdiv, gPow, gPlus, gTimes, gIntA, gInt, gIsN, gIx, tyA, TN.sub, LP.dataOf, A.toD, viewL, viewQ, viewT, gEq_ii, gEq_ss, gEq_bb, gEq_nn, fSl, slV, oN, oS, iL, iR1, wFnM, gFdivW, tNot', tV, wFrz, fFld, fldV, gEither, gOwnIn, gOwnBin, gOwnEq, fIsiO, gIsiO, fProp, propV, fMeth, fMake, fMakeV, twoT, viewT, iZQ, iET, Option.bind_some, Option.map_some, Option.bind_none, Option.map_none, Option.bind, Option.map, List.getElem?_cons_zero, List.getElem?_cons_succ, List.getElem?_nil, List.set_cons_zero, List.set_cons_succ, List.set_nil, if_true, if_false, ↓reduceIte, Bool.not_true, Bool.not_false, decide_true, decide_false, Bool.false_eq_true, reduceCtorEq, true_and, false_and, and_true, and_false, not_true, not_false_eq_true, List.any_cons, List.any_nil, Bool.or_false, Bool.or_true, Bool.true_or, Bool.false_or, Bool.and_true, Bool.true_and, Bool.and_false, Bool.false_and, exists_eq_left, exists_eq_left', Option.some.injEq, A.d.injEq, D.int.injEq, D.bl.injEq, D.str.injEq, D.lst.injEq, D.tup.injEq, Except.ok.injEq, List.cons_append, List.nil_append, List.map_cons, List.map_nil, List.length_cons, List.length_nil, List.replicate, Nat.reduceSub, Nat.reduceAdd, List.append_nil, eq_self, or_true, true_or, or_false, false_or, Int.reduceNeg, Int.reducePow, Int.reduceLT, Int.reduceLE, List.length_set]
  exact hZ
theorem law_5 (h0 : 0 ≤ base) (h1 : base ≤ 999999999999999980) (hg : goodL base L) (hl : L.length ≤ 3) (hZ : ∀ z5 z6, Z.nx [x0, x1, x2, some (.d (.int base)), some (.d (.lst (L.map rowD))), z5, z6, x7, x8, x9, x10] S) :
    w_law_for1_5 [x0, x1, x2, some (.d (.int base)), some (.d (.lst (L.map rowD))), x5, x6, x7, x8, x9, x10] S Z := by
  have hk := good_ok h0 h1 hg hl
  have h2 := (okL_iff.mp hk).2
  have c1 : fComp (iL (fV 4)) (tgN 8) [8] (fun _ _ => some true) (fFn [] G_letter (fCons (fV 8) (fNil))) [x0, x1, x2, some (.d (.int base)), some (.d (.lst (L.map rowD))), x5, x6, x7, x8, x9, x10] S = some (.d (.lst (L.map fun l => ltr (joinL l)))) := by
    refine comp_map rfl rfl fun l hl => ?_
    have hr : G_letter [.lst (l.map pzD)] = some (.ok (ltr (joinL l))) := by
      simp only [G_letter, spansOf_lst (oks_up (h2 l hl) (by decide : 3 ≤ 60)), Option.bind_some, (hg l hl).2, if_true]
    simp only [eltF, wipeG, rowD, hr, stG, wSeq, wIf, wAsg, wRet, wRetN, wNext, wDrop, wP, wB, wPs, wCons, wNil, wOp, wFn, wPar, wAsgT, wTup, wLst, wNewL, setIx_eq, setA, wM1, wI, wFor, bV, bNot, bAnd, bOr, fOp, fC, fV, fCons, fNil, fCall, fIsi, fAnd, fOr, fNot, chain_le, fTup, fLst, fIf, fFn, tgN, tgT, setAll, gI, gLen, gLe, gLt, gGe, gGt, LP.gSub, gMod, gFdiv, gPow, gPlus, gTimes, gIntA, gInt, gIsN, gIx, tyA, TN.sub, LP.dataOf, A.toD, viewL, viewQ, viewT, gEq_ii, gEq_ss, gEq_bb, gEq_nn, fSl, slV, oN, oS, iL, iR1, wFnM, gFdivW, tNot', tV, wFrz, fFld, fldV, gEither, gOwnIn, gOwnBin, gOwnEq, fIsiO, gIsiO, fProp, propV, fMeth, fMake, fMakeV, twoT, viewT, iZQ, iET, Option.bind_some, Option.map_some, Option.bind_none, Option.map_none, Option.bind, Option.map, List.getElem?_cons_zero, List.getElem?_cons_succ, List.getElem?_nil, List.set_cons_zero, List.set_cons_succ, List.set_nil, if_true, if_false, ↓reduceIte, Bool.not_true, Bool.not_false, decide_true, decide_false, Bool.false_eq_true, reduceCtorEq, true_and, false_and, and_true, and_false, not_true, not_false_eq_true, List.any_cons, List.any_nil, Bool.or_false, Bool.or_true, Bool.true_or, Bool.false_or, Bool.and_true, Bool.true_and, Bool.and_false, Bool.false_and, exists_eq_left, exists_eq_left', Option.some.injEq, A.d.injEq, D.int.injEq, D.bl.injEq, D.str.injEq, D.lst.injEq, D.tup.injEq, Except.ok.injEq, List.cons_append, List.nil_append, List.map_cons, List.map_nil, List.length_cons, List.length_nil, List.replicate, Nat.reduceSub, Nat.reduceAdd, List.append_nil, eq_self, or_true, true_or, or_false, false_or, Int.reduceNeg, Int.reducePow, Int.reduceLT, Int.reduceLE, List.length_set]
  have k0 := cut_ok (L := []) rfl
  have kL := cut_ok hk
  have h9 := law_9 (x0 := x0) (x1 := x1) (x2 := x2) (x3 := some (.d (.int base))) (x7 := x7) (x8 := x8) (x9 := x9) (x10 := x10) (S := S) (Z := Z) hk (hZ _ _)
  simp only [w_law_for1_5, c1, stG, wSeq, wIf, wAsg, wRet, wRetN, wNext, wDrop, wP, wB, wPs, wCons, wNil, wOp, wFn, wPar, wAsgT, wTup, wLst, wNewL, setIx_eq, setA, wM1, wI, wFor, bV, bNot, bAnd, bOr, fOp, fC, fV, fCons, fNil, fCall, fIsi, fAnd, fOr, fNot, chain_le, fTup, fLst, fIf, fFn, tgN, tgT, setAll, gI, gLen, gLe, gLt, gGe, gGt, LP.gSub, gMod, gFdiv, gPow, gPlus, gTimes, gIntA, gInt, gIsN, gIx, tyA, TN.sub, LP.dataOf, A.toD, viewL, viewQ, viewT, gEq_ii, gEq_ss, gEq_bb, gEq_nn, fSl, slV, oN, oS, iL, iR1, wFnM, gFdivW, tNot', tV, wFrz, fFld, fldV, gEither, gOwnIn, gOwnBin, gOwnEq, fIsiO, gIsiO, fProp, propV, fMeth, fMake, fMakeV, twoT, viewT, iZQ, iET, Option.bind_some, Option.map_some, Option.bind_none, Option.map_none, Option.bind, Option.map, List.getElem?_cons_zero, List.getElem?_cons_succ, List.getElem?_nil, List.set_cons_zero, List.set_cons_succ, List.set_nil, if_true, if_false, ↓reduceIte, Bool.not_true, Bool.not_false, decide_true, decide_false, Bool.false_eq_true, reduceCtorEq, true_and, false_and, and_true, and_false, not_true, not_false_eq_true, List.any_cons, List.any_nil, Bool.or_false, Bool.or_true, Bool.true_or, Bool.false_or, Bool.and_true, Bool.true_and, Bool.and_false, Bool.false_and, exists_eq_left, exists_eq_left', Option.some.injEq, A.d.injEq, D.int.injEq, D.bl.injEq, D.str.injEq, D.lst.injEq, D.tup.injEq, Except.ok.injEq, List.cons_append, List.nil_append, List.map_cons, List.map_nil, List.length_cons, List.length_nil, List.replicate, Nat.reduceSub, Nat.reduceAdd, List.append_nil, eq_self, or_true, true_or, or_false, false_or, Int.reduceNeg, Int.reducePow, Int.reduceLT, Int.reduceLE, List.length_set]
  match L, hl with
  | [], _ =>
    simp only [List.map_nil] at k0 kL h9 ⊢
    have n0 : ∀ S, gLen S [.d (.lst [])] = some (.int 0) := fun S => rfl
    simp only [w_law_for1_6, w_law_for1_7, w_law_for1_8, kL, n0, Int.reduceEq, stG, wSeq, wIf, wAsg, wRet, wRetN, wNext, wDrop, wP, wB, wPs, wCons, wNil, wOp, wFn, wPar, wAsgT, wTup, wLst, wNewL, setIx_eq, setA, wM1, wI, wFor, bV, bNot, bAnd, bOr, fOp, fC, fV, fCons, fNil, fCall, fIsi, fAnd, fOr, fNot, chain_le, fTup, fLst, fIf, fFn, tgN, tgT, setAll, gI, gLe, gLt, gGe, gGt, LP.gSub, gMod, gFdiv, gPow, gPlus, gTimes, gIntA, gInt, gIsN, gIx, tyA, TN.sub, LP.dataOf, A.toD, viewL, viewQ, viewT, gEq_ii, gEq_ss, gEq_bb, gEq_nn, fSl, slV, oN, oS, iL, iR1, wFnM, gFdivW, tNot', tV, wFrz, fFld, fldV, gEither, gOwnIn, gOwnBin, gOwnEq, fIsiO, gIsiO, fProp, propV, fMeth, fMake, fMakeV, twoT, viewT, iZQ, iET, Option.bind_some, Option.map_some, Option.bind_none, Option.map_none, Option.bind, Option.map, List.getElem?_cons_zero, List.getElem?_cons_succ, List.getElem?_nil, List.set_cons_zero, List.set_cons_succ, List.set_nil, if_true, if_false, ↓reduceIte, Bool.not_true, Bool.not_false, decide_true, decide_false, Bool.false_eq_true, reduceCtorEq, true_and, false_and, and_true, and_false, not_true, not_false_eq_true, List.any_cons, List.any_nil, Bool.or_false, Bool.or_true, Bool.true_or, Bool.false_or, Bool.and_true, Bool.true_and, Bool.and_false, Bool.false_and, exists_eq_left, exists_eq_left', Option.some.injEq, A.d.injEq, D.int.injEq, D.bl.injEq, D.str.injEq, D.lst.injEq, D.tup.injEq, Except.ok.injEq, List.cons_append, List.nil_append, List.map_cons, List.map_nil, List.length_cons, List.length_nil, List.replicate, Nat.reduceSub, Nat.reduceAdd, List.append_nil, eq_self, or_true, true_or, or_false, false_or, Int.reduceNeg, Int.reducePow, Int.reduceLT, Int.reduceLE, List.length_set]
    exact h9
  | [a], _ =>
    simp only [List.map_nil, List.map_cons] at k0 kL h9 ⊢
    have n0 : ∀ S, gLen S [.d (.lst [ltr (joinL a)])] = some (.int 1) := fun S => rfl
    have i0 : ∀ S, LP.gIx S (.d (.lst [ltr (joinL a)])) (.d (.int 0)) = some (ltr (joinL a)) := fun S => rfl
    simp only [w_law_for1_6, w_law_for1_7, w_law_for1_8, k0, kL, n0, i0, Int.reduceEq, stG, wSeq, wIf, wAsg, wRet, wRetN, wNext, wDrop, wP, wB, wPs, wCons, wNil, wOp, wFn, wPar, wAsgT, wTup, wLst, wNewL, setIx_eq, setA, wM1, wI, wFor, bV, bNot, bAnd, bOr, fOp, fC, fV, fCons, fNil, fCall, fIsi, fAnd, fOr, fNot, chain_le, fTup, fLst, fIf, fFn, tgN, tgT, setAll, gI, gLe, gLt, gGe, gGt, LP.gSub, gMod, gFdiv, gPow, gPlus, gTimes, gIntA, gInt, gIsN, tyA, TN.sub, LP.dataOf, A.toD, viewL, viewQ, viewT, gEq_ii, gEq_ss, gEq_bb, gEq_nn, fSl, slV, oN, oS, iL, iR1, wFnM, gFdivW, tNot', tV, wFrz, fFld, fldV, gEither, gOwnIn, gOwnBin, gOwnEq, fIsiO, gIsiO, fProp, propV, fMeth, fMake, fMakeV, twoT, viewT, iZQ, iET, Option.bind_some, Option.map_some, Option.bind_none, Option.map_none, Option.bind, Option.map, List.getElem?_cons_zero, List.getElem?_cons_succ, List.getElem?_nil, List.set_cons_zero, List.set_cons_succ, List.set_nil, if_true, if_false, ↓reduceIte, Bool.not_true, Bool.not_false, decide_true, decide_false, Bool.false_eq_true, reduceCtorEq, true_and, false_and, and_true, and_false, not_true, not_false_eq_true, List.any_cons, List.any_nil, Bool.or_false, Bool.or_true, Bool.true_or, Bool.false_or, Bool.and_true, Bool.true_and, Bool.and_false, Bool.false_and, exists_eq_left, exists_eq_left', Option.some.injEq, A.d.injEq, D.int.injEq, D.bl.injEq, D.str.injEq, D.lst.injEq, D.tup.injEq, Except.ok.injEq, List.cons_append, List.nil_append, List.map_cons, List.map_nil, List.length_cons, List.length_nil, List.replicate, Nat.reduceSub, Nat.reduceAdd, List.append_nil, eq_self, or_true, true_or, or_false, false_or, Int.reduceNeg, Int.reducePow, Int.reduceLT, Int.reduceLE, List.length_set]
    exact h9
  | [a, b], _ =>
    simp only [List.map_nil, List.map_cons] at k0 kL h9 ⊢
    have n0 : ∀ S, gLen S [.d (.lst [ltr (joinL a), ltr (joinL b)])] = some (.int 2) := fun S => rfl
    have i0 : ∀ S, LP.gIx S (.d (.lst [ltr (joinL a), ltr (joinL b)])) (.d (.int 0)) = some (ltr (joinL a)) := fun S => rfl
    have i1 : ∀ S, LP.gIx S (.d (.lst [ltr (joinL a), ltr (joinL b)])) (.d (.int 1)) = some (ltr (joinL b)) := fun S => rfl
    simp only [w_law_for1_6, w_law_for1_7, w_law_for1_8, k0, kL, n0, i0, i1, Int.reduceEq, stG, wSeq, wIf, wAsg, wRet, wRetN, wNext, wDrop, wP, wB, wPs, wCons, wNil, wOp, wFn, wPar, wAsgT, wTup, wLst, wNewL, setIx_eq, setA, wM1, wI, wFor, bV, bNot, bAnd, bOr, fOp, fC, fV, fCons, fNil, fCall, fIsi, fAnd, fOr, fNot, chain_le, fTup, fLst, fIf, fFn, tgN, tgT, setAll, gI, gLe, gLt, gGe, gGt, LP.gSub, gMod, gFdiv, gPow, gPlus, gTimes, gIntA, gInt, gIsN, tyA, TN.sub, LP.dataOf, A.toD, viewL, viewQ, viewT, gEq_ii, gEq_ss, gEq_bb, gEq_nn, fSl, slV, oN, oS, iL, iR1, wFnM, gFdivW, tNot', tV, wFrz, fFld, fldV, gEither, gOwnIn, gOwnBin, gOwnEq, fIsiO, gIsiO, fProp, propV, fMeth, fMake, fMakeV, twoT, viewT, iZQ, iET, Option.bind_some, Option.map_some, Option.bind_none, Option.map_none, Option.bind, Option.map, List.getElem?_cons_zero, List.getElem?_cons_succ, List.getElem?_nil, List.set_cons_zero, List.set_cons_succ, List.set_nil, if_true, if_false, ↓reduceIte, Bool.not_true, Bool.not_false, decide_true, decide_false, Bool.false_eq_true, reduceCtorEq, true_and, false_and, and_true, and_false, not_true, not_false_eq_true, List.any_cons, List.any_nil, Bool.or_false, Bool.or_true, Bool.true_or, Bool.false_or, Bool.and_true, Bool.true_and, Bool.and_false, Bool.false_and, exists_eq_left, exists_eq_left', Option.some.injEq, A.d.injEq, D.int.injEq, D.bl.injEq, D.str.injEq, D.lst.injEq, D.tup.injEq, Except.ok.injEq, List.cons_append, List.nil_append, List.map_cons, List.map_nil, List.length_cons, List.length_nil, List.replicate, Nat.reduceSub, Nat.reduceAdd, List.append_nil, eq_self, or_true, true_or, or_false, false_or, Int.reduceNeg, Int.reducePow, Int.reduceLT, Int.reduceLE, List.length_set]
    exact h9
  | [a, b, c], _ =>
    simp only [List.map_nil, List.map_cons] at k0 kL h9 ⊢
    have kab := cut_ok (L := [a, b]) (okL_iff.mpr ⟨by simp, fun l hl => h2 l (by simp at hl ⊢; rcases hl with rfl | rfl <;> simp)⟩)
    simp only [List.map_nil, List.map_cons] at kab
    have n0 : ∀ S, gLen S [.d (.lst [ltr (joinL a), ltr (joinL b), ltr (joinL c)])] = some (.int 3) := fun S => rfl
    have i0 : ∀ S, LP.gIx S (.d (.lst [ltr (joinL a), ltr (joinL b), ltr (joinL c)])) (.d (.int 0)) = some (ltr (joinL a)) := fun S => rfl
    have i1 : ∀ S, LP.gIx S (.d (.lst [ltr (joinL a), ltr (joinL b), ltr (joinL c)])) (.d (.int 1)) = some (ltr (joinL b)) := fun S => rfl
    have i2 : ∀ S, LP.gIx S (.d (.lst [ltr (joinL a), ltr (joinL b), ltr (joinL c)])) (.d (.int 2)) = some (ltr (joinL c)) := fun S => rfl
    simp only [w_law_for1_6, w_law_for1_7, w_law_for1_8, k0, kab, kL, n0, i0, i1, i2, Int.reduceEq, stG, wSeq, wIf, wAsg, wRet, wRetN, wNext, wDrop, wP, wB, wPs, wCons, wNil, wOp, wFn, wPar, wAsgT, wTup, wLst, wNewL, setIx_eq, setA, wM1, wI, wFor, bV, bNot, bAnd, bOr, fOp, fC, fV, fCons, fNil, fCall, fIsi, fAnd, fOr, fNot, chain_le, fTup, fLst, fIf, fFn, tgN, tgT, setAll, gI, gLe, gLt, gGe, gGt, LP.gSub, gMod, gFdiv, gPow, gPlus, gTimes, gIntA, gInt, gIsN, tyA, TN.sub, LP.dataOf, A.toD, viewL, viewQ, viewT, gEq_ii, gEq_ss, gEq_bb, gEq_nn, fSl, slV, oN, oS, iL, iR1, wFnM, gFdivW, tNot', tV, wFrz, fFld, fldV, gEither, gOwnIn, gOwnBin, gOwnEq, fIsiO, gIsiO, fProp, propV, fMeth, fMake, fMakeV, twoT, viewT, iZQ, iET, Option.bind_some, Option.map_some, Option.bind_none, Option.map_none, Option.bind, Option.map, List.getElem?_cons_zero, List.getElem?_cons_succ, List.getElem?_nil, List.set_cons_zero, List.set_cons_succ, List.set_nil, if_true, if_false, ↓reduceIte, Bool.not_true, Bool.not_false, decide_true, decide_false, Bool.false_eq_true, reduceCtorEq, true_and, false_and, and_true, and_false, not_true, not_false_eq_true, List.any_cons, List.any_nil, Bool.or_false, Bool.or_true, Bool.true_or, Bool.false_or, Bool.and_true, Bool.true_and, Bool.and_false, Bool.false_and, exists_eq_left, exists_eq_left', Option.some.injEq, A.d.injEq, D.int.injEq, D.bl.injEq, D.str.injEq, D.lst.injEq, D.tup.injEq, Except.ok.injEq, List.cons_append, List.nil_append, List.map_cons, List.map_nil, List.length_cons, List.length_nil, List.replicate, Nat.reduceSub, Nat.reduceAdd, List.append_nil, eq_self, or_true, true_or, or_false, false_or, Int.reduceNeg, Int.reducePow, Int.reduceLT, Int.reduceLE, List.length_set]
    exact h9
theorem good_app {A B : List (List PZ)} (ha : goodL base A) (hb : goodL base B) : goodL base (A ++ B) := fun l hl => by
  rcases List.mem_append.mp hl with h | h
  · exact ha l h
  · exact hb l h
theorem good_take {A : List (List PZ)} {n : Nat} (ha : goodL base A) : goodL base (A.take n) := fun l hl => ha l (List.mem_of_mem_take hl)
theorem law_4 {A' : List (List PZ)} (h0 : 0 ≤ base) (h1 : base ≤ 999999999999999980) (hg : goodL base A') (hZ : ∀ z4 z5 z6, Z.nx [x0, x1, x2, some (.d (.int base)), z4, z5, z6, x7, x8, x9, x10] S) :
    w_law_for1_4 [x0, x1, x2, some (.d (.int base)), some (.d (.lst (A'.map rowD))), x5, x6, x7, x8, x9, x10] S Z := by
  have t1 : LP.cutD (A'.map rowD) none (some 3) = (A'.take 3).map rowD := by rw [List.map_take]; exact cut_take (n := 3)
  simp only [w_law_for1_4, t1, stG, wSeq, wIf, wAsg, wRet, wRetN, wNext, wDrop, wP, wB, wPs, wCons, wNil, wOp, wFn, wPar, wAsgT, wTup, wLst, wNewL, setIx_eq, setA, wM1, wI, wFor, bV, bNot, bAnd, bOr, fOp, fC, fV, fCons, fNil, fCall, fIsi, fAnd, fOr, fNot, chain_le, fTup, fLst, fIf, fFn, tgN, tgT, setAll, gI, gLen, gLe, gLt, gGe, gGt, LP.gSub, gMod, gFdiv, gPow, gPlus, gTimes, gIntA, gInt, gIsN, gIx, tyA, TN.sub, LP.dataOf, A.toD, viewL, viewQ, viewT, gEq_ii, gEq_ss, gEq_bb, gEq_nn, fSl, slV, oN, oS, iL, iR1, wFnM, gFdivW, tNot', tV, wFrz, fFld, fldV, gEither, gOwnIn, gOwnBin, gOwnEq, fIsiO, gIsiO, fProp, propV, fMeth, fMake, fMakeV, twoT, viewT, iZQ, iET, Option.bind_some, Option.map_some, Option.bind_none, Option.map_none, Option.bind, Option.map, List.getElem?_cons_zero, List.getElem?_cons_succ, List.getElem?_nil, List.set_cons_zero, List.set_cons_succ, List.set_nil, if_true, if_false, ↓reduceIte, Bool.not_true, Bool.not_false, decide_true, decide_false, Bool.false_eq_true, reduceCtorEq, true_and, false_and, and_true, and_false, not_true, not_false_eq_true, List.any_cons, List.any_nil, Bool.or_false, Bool.or_true, Bool.true_or, Bool.false_or, Bool.and_true, Bool.true_and, Bool.and_false, Bool.false_and, exists_eq_left, exists_eq_left', Option.some.injEq, A.d.injEq, D.int.injEq, D.bl.injEq, D.str.injEq, D.lst.injEq, D.tup.injEq, Except.ok.injEq, List.cons_append, List.nil_append, List.map_cons, List.map_nil, List.length_cons, List.length_nil, List.replicate, Nat.reduceSub, Nat.reduceAdd, List.append_nil, eq_self, or_true, true_or, or_false, false_or, Int.reduceNeg, Int.reducePow, Int.reduceLT, Int.reduceLE, List.length_set]
  exact law_5 h0 h1 (good_take hg) (List.length_take_le _ _) fun z5 z6 => hZ _ _ _
theorem law_turn (hS : S[1]? = some m) (hb : Bag m)
    (hZ : ∀ z3 z4 z5 z6 S' m', S'[1]? = some m' → Bag m' → Z.nx [x0, some (.loc 1), x2, z3, z4, z5, z6, x7, x8, x9, x10] S') :
    w_law_for1_0 [x0, some (.loc 1), x2, x3, x4, x5, x6, x7, x8, x9, x10] S Z := by
  have p17 : (10 : Int) ^ Int.toNat 17 = 100000000000000000 := by decide
  have p18 : (10 : Int) ^ Int.toNat 18 = 1000000000000000000 := by decide
  simp only [w_law_for1_0, n10, p17, p18, stG, wSeq, wIf, wAsg, wRet, wRetN, wNext, wDrop, wP, wB, wPs, wCons, wNil, wOp, wFn, wPar, wAsgT, wTup, wLst, wNewL, setIx_eq, setA, wM1, wI, wFor, bV, bNot, bAnd, bOr, fOp, fC, fV, fCons, fNil, fCall, fIsi, fAnd, fOr, fNot, chain_le, fTup, fLst, fIf, fFn, tgN, tgT, setAll, gI, gLen, gLe, gLt, gGe, gGt, LP.gSub, gMod, gFdiv, gPow, gPlus, gTimes, gIntA, gInt, gIsN, gIx, tyA, TN.sub, LP.dataOf, A.toD, viewL, viewQ, viewT, gEq_ii, gEq_ss, gEq_bb, gEq_nn, fSl, slV, oN, oS, iL, iR1, wFnM, gFdivW, tNot', tV, wFrz, fFld, fldV, gEither, gOwnIn, gOwnBin, gOwnEq, fIsiO, gIsiO, fProp, propV, fMeth, fMake, fMakeV, twoT, viewT, iZQ, iET, Option.bind_some, Option.map_some, Option.bind_none, Option.map_none, Option.bind, Option.map, List.getElem?_cons_zero, List.getElem?_cons_succ, List.getElem?_nil, List.set_cons_zero, List.set_cons_succ, List.set_nil, if_true, if_false, ↓reduceIte, Bool.not_true, Bool.not_false, decide_true, decide_false, Bool.false_eq_true, reduceCtorEq, true_and, false_and, and_true, and_false, not_true, not_false_eq_true, List.any_cons, List.any_nil, Bool.or_false, Bool.or_true, Bool.true_or, Bool.false_or, Bool.and_true, Bool.true_and, Bool.and_false, Bool.false_and, exists_eq_left, exists_eq_left', Option.some.injEq, A.d.injEq, D.int.injEq, D.bl.injEq, D.str.injEq, D.lst.injEq, D.tup.injEq, Except.ok.injEq, List.cons_append, List.nil_append, List.map_cons, List.map_nil, List.length_cons, List.length_nil, List.replicate, Nat.reduceSub, Nat.reduceAdd, List.append_nil, eq_self, or_true, true_or, or_false, false_or, Int.reduceNeg, Int.reducePow, Int.reduceLT, Int.reduceLE, List.length_set]
  refine ⟨1, m, _, rfl, hS, hb, by decide, by decide, fun r m1 hb1 r0 r1 => ?_⟩
  refine ⟨_, rfl, 1, m1, _, _, rfl, get_eq hS, hb1, rfl, by simp, by simp, fun d m2 hb2 hd => ?_⟩
  have hcase : ∃ base : Int, d = .int base ∧ 0 ≤ base ∧ base ≤ 999999999999999980 := by
    rcases List.mem_cons.mp hd with rfl | hd
    · exact ⟨0, rfl, by omega, by omega⟩
    rcases List.mem_cons.mp hd with rfl | hd
    · exact ⟨4, rfl, by omega, by omega⟩
    rcases List.mem_cons.mp hd with rfl | hd
    · exact ⟨999999999999999980, rfl, by omega, by omega⟩
    rcases List.mem_cons.mp hd with rfl | hd
    · exact ⟨r, rfl, by omega, by omega⟩
    cases hd
  obtain ⟨base0, rfl, b0, b1⟩ := hcase
  simp only [List.set_set]
  have hS2 : (S.set 1 m2)[1]? = some m2 := get_eq hS
  generalize S.set 1 m2 = T at hS2 ⊢
  have rest : ∀ (base : Int) (S' : So) (m' : MO), 0 ≤ base → base ≤ 999999999999999980 → S'[1]? = some m' → Bag m' → w_law_for1_2 [x0, some (.loc 1), x2, some (.d (.int base)), x4, x5, x6, x7, x8, x9, x10] S' Z := by
    intro base S' m' h0 h1 hS3 hb3
    simp only [w_law_for1_2, wAsg, wSeq]
    refine law_rows hS3 hb3 fun L S4 m4 hg hl hS4 hb4 => ?_
    simp only [w_law_for1_3, wIfE, stG, wSeq, wIf, wAsg, wRet, wRetN, wNext, wDrop, wP, wB, wPs, wCons, wNil, wOp, wFn, wPar, wAsgT, wTup, wLst, wNewL, setIx_eq, setA, wM1, wI, wFor, bV, bNot, bAnd, bOr, fOp, fC, fV, fCons, fNil, fCall, fIsi, fAnd, fOr, fNot, chain_le, fTup, fLst, fIf, fFn, tgN, tgT, setAll, gI, gLen, gLe, gLt, gGe, gGt, LP.gSub, gMod, gFdiv, gPow, gPlus, gTimes, gIntA, gInt, gIsN, gIx, tyA, TN.sub, LP.dataOf, A.toD, viewL, viewQ, viewT, gEq_ii, gEq_ss, gEq_bb, gEq_nn, fSl, slV, oN, oS, iL, iR1, wFnM, gFdivW, tNot', tV, wFrz, fFld, fldV, gEither, gOwnIn, gOwnBin, gOwnEq, fIsiO, gIsiO, fProp, propV, fMeth, fMake, fMakeV, twoT, viewT, iZQ, iET, Option.bind_some, Option.map_some, Option.bind_none, Option.map_none, Option.bind, Option.map, List.getElem?_cons_zero, List.getElem?_cons_succ, List.getElem?_nil, List.set_cons_zero, List.set_cons_succ, List.set_nil, if_true, if_false, ↓reduceIte, Bool.not_true, Bool.not_false, decide_true, decide_false, Bool.false_eq_true, reduceCtorEq, true_and, false_and, and_true, and_false, not_true, not_false_eq_true, List.any_cons, List.any_nil, Bool.or_false, Bool.or_true, Bool.true_or, Bool.false_or, Bool.and_true, Bool.true_and, Bool.and_false, Bool.false_and, exists_eq_left, exists_eq_left', Option.some.injEq, A.d.injEq, D.int.injEq, D.bl.injEq, D.str.injEq, D.lst.injEq, D.tup.injEq, Except.ok.injEq, List.cons_append, List.nil_append, List.map_cons, List.map_nil, List.length_cons, List.length_nil, List.replicate, Nat.reduceSub, Nat.reduceAdd, List.append_nil, eq_self, or_true, true_or, or_false, false_or, Int.reduceNeg, Int.reducePow, Int.reduceLT, Int.reduceLE, List.length_set]
    refine ⟨1, m4, _, rfl, hS4, hb4, by decide, by decide, fun q m5 hb5 q0 q1 => ?_⟩
    by_cases hq : q = 0
    · have hq' := eq_true hq
      have t1 : LP.cutD (L.map rowD) none (some 1) = (L.take 1).map rowD := by rw [List.map_take]; exact cut_take (n := 1)
      have t3 : ∀ S1, gCat S1 (.d (.lst (L.map rowD))) (.d (.lst ((L.take 1).map rowD))) = some (.lst ((L ++ L.take 1).map rowD)) := fun S1 => by
        rw [cat_ok (by simp; omega), List.map_append]
      simp only [hq', t1, t3, stG, wSeq, wIf, wAsg, wRet, wRetN, wNext, wDrop, wP, wB, wPs, wCons, wNil, wOp, wFn, wPar, wAsgT, wTup, wLst, wNewL, setIx_eq, setA, wM1, wI, wFor, bV, bNot, bAnd, bOr, fOp, fC, fV, fCons, fNil, fCall, fIsi, fAnd, fOr, fNot, chain_le, fTup, fLst, fIf, fFn, tgN, tgT, setAll, gI, gLen, gLe, gLt, gGe, gGt, LP.gSub, gMod, gFdiv, gPow, gPlus, gTimes, gIntA, gInt, gIsN, gIx, tyA, TN.sub, LP.dataOf, A.toD, viewL, viewQ, viewT, gEq_ii, gEq_ss, gEq_bb, gEq_nn, fSl, slV, oN, oS, iL, iR1, wFnM, gFdivW, tNot', tV, wFrz, fFld, fldV, gEither, gOwnIn, gOwnBin, gOwnEq, fIsiO, gIsiO, fProp, propV, fMeth, fMake, fMakeV, twoT, viewT, iZQ, iET, Option.bind_some, Option.map_some, Option.bind_none, Option.map_none, Option.bind, Option.map, List.getElem?_cons_zero, List.getElem?_cons_succ, List.getElem?_nil, List.set_cons_zero, List.set_cons_succ, List.set_nil, if_true, if_false, ↓reduceIte, Bool.not_true, Bool.not_false, decide_true, decide_false, Bool.false_eq_true, reduceCtorEq, true_and, false_and, and_true, and_false, not_true, not_false_eq_true, List.any_cons, List.any_nil, Bool.or_false, Bool.or_true, Bool.true_or, Bool.false_or, Bool.and_true, Bool.true_and, Bool.and_false, Bool.false_and, exists_eq_left, exists_eq_left', Option.some.injEq, A.d.injEq, D.int.injEq, D.bl.injEq, D.str.injEq, D.lst.injEq, D.tup.injEq, Except.ok.injEq, List.cons_append, List.nil_append, List.map_cons, List.map_nil, List.length_cons, List.length_nil, List.replicate, Nat.reduceSub, Nat.reduceAdd, List.append_nil, eq_self, or_true, true_or, or_false, false_or, Int.reduceNeg, Int.reducePow, Int.reduceLT, Int.reduceLE, List.length_set]
      exact law_4 h0 h1 (good_app hg (good_take hg)) fun z4 z5 z6 => hZ _ _ _ _ _ _ (get_eq hS4) hb5
    · have hq' := eq_false hq
      simp only [hq', stG, wSeq, wIf, wAsg, wRet, wRetN, wNext, wDrop, wP, wB, wPs, wCons, wNil, wOp, wFn, wPar, wAsgT, wTup, wLst, wNewL, setIx_eq, setA, wM1, wI, wFor, bV, bNot, bAnd, bOr, fOp, fC, fV, fCons, fNil, fCall, fIsi, fAnd, fOr, fNot, chain_le, fTup, fLst, fIf, fFn, tgN, tgT, setAll, gI, gLen, gLe, gLt, gGe, gGt, LP.gSub, gMod, gFdiv, gPow, gPlus, gTimes, gIntA, gInt, gIsN, gIx, tyA, TN.sub, LP.dataOf, A.toD, viewL, viewQ, viewT, gEq_ii, gEq_ss, gEq_bb, gEq_nn, fSl, slV, oN, oS, iL, iR1, wFnM, gFdivW, tNot', tV, wFrz, fFld, fldV, gEither, gOwnIn, gOwnBin, gOwnEq, fIsiO, gIsiO, fProp, propV, fMeth, fMake, fMakeV, twoT, viewT, iZQ, iET, Option.bind_some, Option.map_some, Option.bind_none, Option.map_none, Option.bind, Option.map, List.getElem?_cons_zero, List.getElem?_cons_succ, List.getElem?_nil, List.set_cons_zero, List.set_cons_succ, List.set_nil, if_true, if_false, ↓reduceIte, Bool.not_true, Bool.not_false, decide_true, decide_false, Bool.false_eq_true, reduceCtorEq, true_and, false_and, and_true, and_false, not_true, not_false_eq_true, List.any_cons, List.any_nil, Bool.or_false, Bool.or_true, Bool.true_or, Bool.false_or, Bool.and_true, Bool.true_and, Bool.and_false, Bool.false_and, exists_eq_left, exists_eq_left', Option.some.injEq, A.d.injEq, D.int.injEq, D.bl.injEq, D.str.injEq, D.lst.injEq, D.tup.injEq, Except.ok.injEq, List.cons_append, List.nil_append, List.map_cons, List.map_nil, List.length_cons, List.length_nil, List.replicate, Nat.reduceSub, Nat.reduceAdd, List.append_nil, eq_self, or_true, true_or, or_false, false_or, Int.reduceNeg, Int.reducePow, Int.reduceLT, Int.reduceLE, List.length_set]
      exact law_4 h0 h1 hg fun z4 z5 z6 => hZ _ _ _ _ _ _ (get_eq hS4) hb5
  simp only [w_law_for1_1, wIfE, LP.g2, n10, p18, stG, wSeq, wIf, wAsg, wRet, wRetN, wNext, wDrop, wP, wB, wPs, wCons, wNil, wOp, wFn, wPar, wAsgT, wTup, wLst, wNewL, setIx_eq, setA, wM1, wI, wFor, bV, bNot, bAnd, bOr, fOp, fC, fV, fCons, fNil, fCall, fIsi, fAnd, fOr, fNot, chain_le, fTup, fLst, fIf, fFn, tgN, tgT, setAll, gI, gLen, gLe, gLt, gGe, gGt, LP.gSub, gMod, gFdiv, gPow, gPlus, gTimes, gIntA, gInt, gIsN, gIx, tyA, TN.sub, LP.dataOf, A.toD, viewL, viewQ, viewT, gEq_ii, gEq_ss, gEq_bb, gEq_nn, fSl, slV, oN, oS, iL, iR1, wFnM, gFdivW, tNot', tV, wFrz, fFld, fldV, gEither, gOwnIn, gOwnBin, gOwnEq, fIsiO, gIsiO, fProp, propV, fMeth, fMake, fMakeV, twoT, viewT, iZQ, iET, Option.bind_some, Option.map_some, Option.bind_none, Option.map_none, Option.bind, Option.map, List.getElem?_cons_zero, List.getElem?_cons_succ, List.getElem?_nil, List.set_cons_zero, List.set_cons_succ, List.set_nil, if_true, if_false, ↓reduceIte, Bool.not_true, Bool.not_false, decide_true, decide_false, Bool.false_eq_true, reduceCtorEq, true_and, false_and, and_true, and_false, not_true, not_false_eq_true, List.any_cons, List.any_nil, Bool.or_false, Bool.or_true, Bool.true_or, Bool.false_or, Bool.and_true, Bool.true_and, Bool.and_false, Bool.false_and, exists_eq_left, exists_eq_left', Option.some.injEq, A.d.injEq, D.int.injEq, D.bl.injEq, D.str.injEq, D.lst.injEq, D.tup.injEq, Except.ok.injEq, List.cons_append, List.nil_append, List.map_cons, List.map_nil, List.length_cons, List.length_nil, List.replicate, Nat.reduceSub, Nat.reduceAdd, List.append_nil, eq_self, or_true, true_or, or_false, false_or, Int.reduceNeg, Int.reducePow, Int.reduceLT, Int.reduceLE, List.length_set]
  refine ⟨1, m2, _, rfl, hS2, hb2, by decide, by decide, fun q m5 hb5 q0 q1 => ?_⟩
  by_cases hq : q = 0
  · have hq' := eq_true hq
    simp only [hq', gMin2, LP.g2, n10, p18, stG, wSeq, wIf, wAsg, wRet, wRetN, wNext, wDrop, wP, wB, wPs, wCons, wNil, wOp, wFn, wPar, wAsgT, wTup, wLst, wNewL, setIx_eq, setA, wM1, wI, wFor, bV, bNot, bAnd, bOr, fOp, fC, fV, fCons, fNil, fCall, fIsi, fAnd, fOr, fNot, chain_le, fTup, fLst, fIf, fFn, tgN, tgT, setAll, gI, gLen, gLe, gLt, gGe, gGt, LP.gSub, gMod, gFdiv, gPow, gPlus, gTimes, gIntA, gInt, gIsN, gIx, tyA, TN.sub, LP.dataOf, A.toD, viewL, viewQ, viewT, gEq_ii, gEq_ss, gEq_bb, gEq_nn, fSl, slV, oN, oS, iL, iR1, wFnM, gFdivW, tNot', tV, wFrz, fFld, fldV, gEither, gOwnIn, gOwnBin, gOwnEq, fIsiO, gIsiO, fProp, propV, fMeth, fMake, fMakeV, twoT, viewT, iZQ, iET, Option.bind_some, Option.map_some, Option.bind_none, Option.map_none, Option.bind, Option.map, List.getElem?_cons_zero, List.getElem?_cons_succ, List.getElem?_nil, List.set_cons_zero, List.set_cons_succ, List.set_nil, if_true, if_false, ↓reduceIte, Bool.not_true, Bool.not_false, decide_true, decide_false, Bool.false_eq_true, reduceCtorEq, true_and, false_and, and_true, and_false, not_true, not_false_eq_true, List.any_cons, List.any_nil, Bool.or_false, Bool.or_true, Bool.true_or, Bool.false_or, Bool.and_true, Bool.true_and, Bool.and_false, Bool.false_and, exists_eq_left, exists_eq_left', Option.some.injEq, A.d.injEq, D.int.injEq, D.bl.injEq, D.str.injEq, D.lst.injEq, D.tup.injEq, Except.ok.injEq, List.cons_append, List.nil_append, List.map_cons, List.map_nil, List.length_cons, List.length_nil, List.replicate, Nat.reduceSub, Nat.reduceAdd, List.append_nil, eq_self, or_true, true_or, or_false, false_or, Int.reduceNeg, Int.reducePow, Int.reduceLT, Int.reduceLE, List.length_set]
    exact rest _ _ _ (by split <;> omega) (by split <;> omega) (get_eq hS2) hb5
  · have hq' := eq_false hq
    simp only [hq', gMin2, LP.g2, n10, p18, stG, wSeq, wIf, wAsg, wRet, wRetN, wNext, wDrop, wP, wB, wPs, wCons, wNil, wOp, wFn, wPar, wAsgT, wTup, wLst, wNewL, setIx_eq, setA, wM1, wI, wFor, bV, bNot, bAnd, bOr, fOp, fC, fV, fCons, fNil, fCall, fIsi, fAnd, fOr, fNot, chain_le, fTup, fLst, fIf, fFn, tgN, tgT, setAll, gI, gLen, gLe, gLt, gGe, gGt, LP.gSub, gMod, gFdiv, gPow, gPlus, gTimes, gIntA, gInt, gIsN, gIx, tyA, TN.sub, LP.dataOf, A.toD, viewL, viewQ, viewT, gEq_ii, gEq_ss, gEq_bb, gEq_nn, fSl, slV, oN, oS, iL, iR1, wFnM, gFdivW, tNot', tV, wFrz, fFld, fldV, gEither, gOwnIn, gOwnBin, gOwnEq, fIsiO, gIsiO, fProp, propV, fMeth, fMake, fMakeV, twoT, viewT, iZQ, iET, Option.bind_some, Option.map_some, Option.bind_none, Option.map_none, Option.bind, Option.map, List.getElem?_cons_zero, List.getElem?_cons_succ, List.getElem?_nil, List.set_cons_zero, List.set_cons_succ, List.set_nil, if_true, if_false, ↓reduceIte, Bool.not_true, Bool.not_false, decide_true, decide_false, Bool.false_eq_true, reduceCtorEq, true_and, false_and, and_true, and_false, not_true, not_false_eq_true, List.any_cons, List.any_nil, Bool.or_false, Bool.or_true, Bool.true_or, Bool.false_or, Bool.and_true, Bool.true_and, Bool.and_false, Bool.false_and, exists_eq_left, exists_eq_left', Option.some.injEq, A.d.injEq, D.int.injEq, D.bl.injEq, D.str.injEq, D.lst.injEq, D.tup.injEq, Except.ok.injEq, List.cons_append, List.nil_append, List.map_cons, List.map_nil, List.length_cons, List.length_nil, List.replicate, Nat.reduceSub, Nat.reduceAdd, List.append_nil, eq_self, or_true, true_or, or_false, false_or, Int.reduceNeg, Int.reducePow, Int.reduceLT, Int.reduceLE, List.length_set]
    exact rest _ _ _ (by split <;> omega) (by split <;> omega) (get_eq hS2) hb5
end
theorem v_law (as : List A) (S : So) (ex : EK) (Q : AK) (h : fc_law 63 as S ex Q) : w_law (stG N_law as) S { nx := fun _ S' => Q (.d .non) S', rt := Q, ex := ex } := by
  obtain ⟨cs, rfl, rfl, hl, hQ⟩ := h
  simp only [w_law_0, N_law, stG, wSeq, wIf, wAsg, wRet, wRetN, wNext, wDrop, wP, wB, wPs, wCons, wNil, wOp, wFn, wPar, wAsgT, wTup, wLst, wNewL, setIx_eq, setA, wM1, wI, wFor, bV, bNot, bAnd, bOr, fOp, fC, fV, fCons, fNil, fCall, fIsi, fAnd, fOr, fNot, chain_le, fTup, fLst, fIf, fFn, tgN, tgT, setAll, gI, gLen, gLe, gLt, gGe, gGt, LP.gSub, gMod, gFdiv, gPow, gPlus, gTimes, gIntA, gInt, gIsN, gIx, tyA, TN.sub, LP.dataOf, A.toD, viewL, viewQ, viewT, gEq_ii, gEq_ss, gEq_bb, gEq_nn, fSl, slV, oN, oS, iL, iR1, wFnM, gFdivW, tNot', tV, wFrz, fFld, fldV, gEither, gOwnIn, gOwnBin, gOwnEq, fIsiO, gIsiO, fProp, propV, fMeth, fMake, fMakeV, twoT, viewT, iZQ, iET, Option.bind_some, Option.map_some, Option.bind_none, Option.map_none, Option.bind, Option.map, List.getElem?_cons_zero, List.getElem?_cons_succ, List.getElem?_nil, List.set_cons_zero, List.set_cons_succ, List.set_nil, if_true, if_false, ↓reduceIte, Bool.not_true, Bool.not_false, decide_true, decide_false, Bool.false_eq_true, reduceCtorEq, true_and, false_and, and_true, and_false, not_true, not_false_eq_true, List.any_cons, List.any_nil, Bool.or_false, Bool.or_true, Bool.true_or, Bool.false_or, Bool.and_true, Bool.true_and, Bool.and_false, Bool.false_and, exists_eq_left, exists_eq_left', Option.some.injEq, A.d.injEq, D.int.injEq, D.bl.injEq, D.str.injEq, D.lst.injEq, D.tup.injEq, Except.ok.injEq, List.cons_append, List.nil_append, List.map_cons, List.map_nil, List.length_cons, List.length_nil, List.replicate, Nat.reduceSub, Nat.reduceAdd, List.append_nil, eq_self, or_true, true_or, or_false, false_or, Int.reduceNeg, Int.reducePow, Int.reduceLT, Int.reduceLE, List.length_set]
  refine ⟨0, cs, rfl, rfl, hl, fun m hb => ?_⟩
  simp only [w_law_1, stG, wSeq, wIf, wAsg, wRet, wRetN, wNext, wDrop, wP, wB, wPs, wCons, wNil, wOp, wFn, wPar, wAsgT, wTup, wLst, wNewL, setIx_eq, setA, wM1, wI, wFor, bV, bNot, bAnd, bOr, fOp, fC, fV, fCons, fNil, fCall, fIsi, fAnd, fOr, fNot, chain_le, fTup, fLst, fIf, fFn, tgN, tgT, setAll, gI, gLen, gLe, gLt, gGe, gGt, LP.gSub, gMod, gFdiv, gPow, gPlus, gTimes, gIntA, gInt, gIsN, gIx, tyA, TN.sub, LP.dataOf, A.toD, viewL, viewQ, viewT, gEq_ii, gEq_ss, gEq_bb, gEq_nn, fSl, slV, oN, oS, iL, iR1, wFnM, gFdivW, tNot', tV, wFrz, fFld, fldV, gEither, gOwnIn, gOwnBin, gOwnEq, fIsiO, gIsiO, fProp, propV, fMeth, fMake, fMakeV, twoT, viewT, iZQ, iET, Option.bind_some, Option.map_some, Option.bind_none, Option.map_none, Option.bind, Option.map, List.getElem?_cons_zero, List.getElem?_cons_succ, List.getElem?_nil, List.set_cons_zero, List.set_cons_succ, List.set_nil, if_true, if_false, ↓reduceIte, Bool.not_true, Bool.not_false, decide_true, decide_false, Bool.false_eq_true, reduceCtorEq, true_and, false_and, and_true, and_false, not_true, not_false_eq_true, List.any_cons, List.any_nil, Bool.or_false, Bool.or_true, Bool.true_or, Bool.false_or, Bool.and_true, Bool.true_and, Bool.and_false, Bool.false_and, exists_eq_left, exists_eq_left', Option.some.injEq, A.d.injEq, D.int.injEq, D.bl.injEq, D.str.injEq, D.lst.injEq, D.tup.injEq, Except.ok.injEq, List.cons_append, List.nil_append, List.map_cons, List.map_nil, List.length_cons, List.length_nil, List.replicate, Nat.reduceSub, Nat.reduceAdd, List.append_nil, eq_self, or_true, true_or, or_false, false_or, Int.reduceNeg, Int.reducePow, Int.reduceLT, Int.reduceLE, List.length_set]
  refine ⟨_, _, rfl, rfl, ?_⟩
  refine loop_inv (fun r Γ S' => ∃ (m' : MO) (z2 z3 z4 z5 z6 z7 z8 z9 z10 : Option A), S'[1]? = some m' ∧ Bag m' ∧ Γ = [some (.loc 0), some (.loc 1), z2, z3, z4, z5, z6, z7, z8, z9, z10]) ?_ ?_ _ _ _ ⟨m, _, _, _, _, _, _, _, _, _, rfl, hb, rfl⟩
  · rintro d r Γ S' nx ⟨m', z2, z3, z4, z5, z6, z7, z8, z9, z10, h1, hb', rfl⟩ hnx
    exact ⟨_, rfl, law_turn h1 hb' fun _ _ _ _ S2 m2 h2 hb2 => hnx _ _ rfl ⟨m2, _, _, _, _, _, _, _, _, _, h2, hb2, rfl⟩⟩
  · rintro Γ S' ⟨m', z2, z3, z4, z5, z6, z7, z8, z9, z10, h1, hb', rfl⟩
    have hk : okL [[((0 : Int), (4 : Int))], [((3 : Int), GR)]] = true := by decide
    have l1 := letter_ok (ps := [((0 : Int), (4 : Int))]) (by decide)
    have l2 := letter_ok (ps := [((3 : Int), GR)]) (by decide)
    have hc := cut_ok hk
    have hv : lcutL [[((0 : Int), (4 : Int))], [((3 : Int), GR)]] = [(0, 2, [0]), (3, 4, [0, 1]), (5, GR, [1])] := by decide
    have s1 := same_ok (x := .lst ((lcutL [[((0 : Int), (4 : Int))], [((3 : Int), GR)]]).map t3D)) rfl (sam_t3 _)
    rw [hv] at hc s1
    have p18 : (10 : Int) ^ Int.toNat 18 = 1000000000000000000 := by decide
    have hgr : (1000000000000000000 : Int) - 1 = 999999999999999999 := by decide
    simp only [List.map_nil, List.map_cons, pzD, ltr, t3D] at l1 l2 hc s1
    simp only [w_law_2, l1, l2, hc, s1, n10, p18, hgr, stG, wSeq, wIf, wAsg, wRet, wRetN, wNext, wDrop, wP, wB, wPs, wCons, wNil, wOp, wFn, wPar, wAsgT, wTup, wLst, wNewL, setIx_eq, setA, wM1, wI, wFor, bV, bNot, bAnd, bOr, fOp, fC, fV, fCons, fNil, fCall, fIsi, fAnd, fOr, fNot, chain_le, fTup, fLst, fIf, fFn, tgN, tgT, setAll, gI, gLen, gLe, gLt, gGe, gGt, LP.gSub, gMod, gFdiv, gPow, gPlus, gTimes, gIntA, gInt, gIsN, gIx, tyA, TN.sub, LP.dataOf, A.toD, viewL, viewQ, viewT, gEq_ii, gEq_ss, gEq_bb, gEq_nn, fSl, slV, oN, oS, iL, iR1, wFnM, gFdivW, tNot', tV, wFrz, fFld, fldV, gEither, gOwnIn, gOwnBin, gOwnEq, fIsiO, gIsiO, fProp, propV, fMeth, fMake, fMakeV, twoT, viewT, iZQ, iET, Option.bind_some, Option.map_some, Option.bind_none, Option.map_none, Option.bind, Option.map, List.getElem?_cons_zero, List.getElem?_cons_succ, List.getElem?_nil, List.set_cons_zero, List.set_cons_succ, List.set_nil, if_true, if_false, ↓reduceIte, Bool.not_true, Bool.not_false, decide_true, decide_false, Bool.false_eq_true, reduceCtorEq, true_and, false_and, and_true, and_false, not_true, not_false_eq_true, List.any_cons, List.any_nil, Bool.or_false, Bool.or_true, Bool.true_or, Bool.false_or, Bool.and_true, Bool.true_and, Bool.and_false, Bool.false_and, exists_eq_left, exists_eq_left', Option.some.injEq, A.d.injEq, D.int.injEq, D.bl.injEq, D.str.injEq, D.lst.injEq, D.tup.injEq, Except.ok.injEq, List.cons_append, List.nil_append, List.map_cons, List.map_nil, List.length_cons, List.length_nil, List.replicate, Nat.reduceSub, Nat.reduceAdd, List.append_nil, eq_self, or_true, true_or, or_false, false_or, Int.reduceNeg, Int.reducePow, Int.reduceLT, Int.reduceLE, List.length_set]
    exact hQ _
end K

namespace LP
open PySem PySem.Spec PyProof.Rows L2
/-! the law's end -/
def CXn : CXT := fun _ _ _ _ _ _ => False
theorem law_close {P : Program} {w : World} {K : PySem.W.Frag} {mg : Str → Option Value} {base : Heap} {k : Nat} {f : Addr} {fd : FuncData} {ps : List Str} {ci : Ci} {m : Nat} (F : FnOk P w K mg base (L2.CX P w) k f fd ps (spOf K ci (fc_law m))) : FnOk P w K mg base CXn k f fd ps (spLaw K m) :=
  ⟨fun vs H Q E q => F.len vs H Q E (law_sp q), fun A outer s H args us vs Q E hr e b v q => codeAny_mono (F.run A outer s H args us vs Q (fun _ _ _ => False) hr e b v (law_sp (E := fun _ _ _ => False) (by
    obtain ⟨a, ns, h⟩ := q
    exact ⟨a, ns, h⟩))) fun r s' z => by
    cases r with
    | ok fl => cases fl <;> exact z
    | error er =>
      obtain ⟨a, B, H', cls, d, _, _, _, _, _, _, _, z⟩ := z
      exact z.elim⟩
end LP

set_option maxHeartbeats 0
namespace K
open PySem PySem.Spec PyProof.Rows L2 LP
theorem hlen_same (n : Nat) (ds : List D) (o : Except Er D) (h : G_same n ds = some o) : ds.length = 2 := by
  unfold G_same at h
  split at h
  · rfl
  · cases h
theorem ilen_Letter (ds : List D) (fs : List D) (h : G_Letter ds = some (.ok fs)) : fs.length = 1 := by
  unfold G_Letter packI at h
  split at h
  · simp only [G_init] at h
    cases e : spansOf (.tup ds) with
    | none => rw [e] at h; cases h
    | some ps => rw [e] at h; cases h; rfl
  · cases h
end K
namespace Hd
open PySem PySem.Spec PyProof.Rows L2 LP K
def d0 : DefE := ⟨.fn ("is_number", none), "is_number", "is_number", defArgs (topS 9), defBody (topS 9), defScope (topS 9), [.int 0, .int 999999999999999999]⟩
def d1 : DefE := ⟨.fn ("is_span", none), "is_span", "is_span", defArgs (topS 12), defBody (topS 12), defScope (topS 12), []⟩
def d2 : DefE := ⟨.fn ("joined", none), "joined", "joined", defArgs (topS 13), defBody (topS 13), defScope (topS 13), []⟩
def d3 : DefE := ⟨.fn ("Letter", some "__init__"), "__init__", "Letter.__init__", defArgs (inClass (topS 18) 1), defBody (inClass (topS 18) 1), defScope (inClass (topS 18) 1), []⟩
def d4 : DefE := ⟨.fn ("Letter", some "runs"), "runs", "Letter.runs", defArgs (inClass (topS 18) 2), defBody (inClass (topS 18) 2), defScope (inClass (topS 18) 2), []⟩
def d5 : DefE := ⟨.fn ("Letter", some "__contains__"), "__contains__", "Letter.__contains__", defArgs (inClass (topS 18) 10), defBody (inClass (topS 18) 10), defScope (inClass (topS 18) 10), []⟩
def d6 : DefE := ⟨.fn ("cut", none), "cut", "cut", defArgs (topS 19), defBody (topS 19), defScope (topS 19), []⟩
def d7 : DefE := ⟨.fn ("_law_bag", none), "_law_bag", "_law_bag", defArgs (topS 21), defBody (topS 21), defScope (topS 21), []⟩
def d8 : DefE := ⟨.fn ("_law_pull", none), "_law_pull", "_law_pull", defArgs (topS 22), defBody (topS 22), defScope (topS 22), []⟩
def d9 : DefE := ⟨.fn ("_law_pick", none), "_law_pick", "_law_pick", defArgs (topS 23), defBody (topS 23), defScope (topS 23), []⟩
def d10 : DefE := ⟨.fn ("_law_same", none), "_law_same", "_law_same", defArgs (topS 24), defBody (topS 24), defScope (topS 24), []⟩
def d11 : DefE := ⟨.fn ("_law_in", none), "_law_in", "_law_in", defArgs (topS 25), defBody (topS 25), defScope (topS 25), []⟩
def d12 : DefE := ⟨.fn ("_law_runs", none), "_law_runs", "_law_runs", defArgs (topS 26), defBody (topS 26), defScope (topS 26), []⟩
def d13 : DefE := ⟨.fn ("_law_letter", none), "_law_letter", "_law_letter", defArgs (topS 27), defBody (topS 27), defScope (topS 27), []⟩
def d14 : DefE := ⟨.fn ("_law_span", none), "_law_span", "_law_span", defArgs (topS 28), defBody (topS 28), defScope (topS 28), []⟩
def d15 : DefE := ⟨.fn ("_law_places", none), "_law_places", "_law_places", defArgs (topS 29), defBody (topS 29), defScope (topS 29), []⟩
def d16 : DefE := ⟨.fn ("_law_cut", none), "_law_cut", "_law_cut", defArgs (topS 30), defBody (topS 30), defScope (topS 30), []⟩
def d17 : DefE := ⟨.fn ("law", none), "law", "law", defArgs (topS 31), defBody (topS 31), defScope (topS 31), []⟩
def fn : List DefE := [d0, d1, d2, d3, d4, d5, d6, d7, d8, d9, d10, d11, d12, d13, d14, d15, d16, d17]
def at0 : List Str := ["own_runs"]
def fa : List FaE := [.fa (.glo "is_number"), .fa (.glo "is_span"), .fa (.glo "joined"), .fa (.glo "cut"), .fa (.glo "_law_bag"), .fa (.glo "_law_pull"), .fa (.glo "_law_pick"), .fa (.glo "_law_same"), .fa (.glo "_law_in"), .fa (.glo "_law_runs"), .fa (.glo "_law_letter"), .fa (.glo "_law_span"), .fa (.glo "_law_places"), .fa (.glo "_law_cut"), .fa (.glo "law"), .fa (.free "all"), .fa (.free "any"), .fa (.free "bool"), .fa (.free "enumerate"), .fa (.free "int"), .fa (.free "isinstance"), .fa (.free "len"), .fa (.free "list"), .fa (.free "max"), .fa (.free "min"), .fa (.free "range"), .fa (.free "set"), .fa (.free "sorted"), .fa (.free "str"), .fa (.free "tuple"), .fa (.free "zip"), .fa (.glo "Letter"), .fa (.cls "Letter"), .fa (.mkr "Letter"), .fa (.noat "Letter" "own_runs"), .fa (.meth "Letter" "runs"), .fa (.meth "Letter" "__contains__"), .ex (cvalB "Letter" "GREATEST" 999999999999999999)]
abbrev R : PySem.W.OpenRow := PySem.W.OpenLaw.row PySem.Challenge.rw_lumplooks_k08_whole_numbers_cut_by_lette
abbrev hk : PySem.W.Hook := hookE 6 fa fn
def ob (s : PySem.W.SharedT) : He.AlD := obsEG 6 fa fn (HandSHeadRun.getT s)
theorem ob_eq (s : PySem.W.SharedT) : ob s = hk.obs s.abs := obsEG_eq (HandSHeadRun.getT_eq s)
def loose0 : List Str := ["_wall", "LumpError", "InvalidSpan", "InvalidText", "GREATEST", "MOST_FIGURES", "FIGURES", "is_number", "number_in", "is_span", "joined", "span_text", "read_span", "read_term", "outside", "Letter", "cut", "_law_bag", "_law_pull", "_law_pick", "_law_same", "_law_in", "_law_runs", "_law_letter", "_law_span", "_law_places", "_law_cut"]
abbrev loose : List Str := loose0
theorem run (w : World) : HandSHeadRun.RunEq R (PySem.W.view R.prog [31]) hk ob 4000 loose w := by
  intro os
  kernel_rfl
theorem facts {P : Program} {w : World} {K : PySem.W.Frag} {h : Heap} {mg : Str → Option Value} {f : Addr} (X : K.In h) (G : h.Ns mainGlobals mg) (hfa : mg ("law" : Str) = some (.ref f)) (c : SaysE fa fn K) :
    ∃ fd : FuncData, (∀ (s : Shared) (v : Value), BindsTo s fd ⟨[v], []⟩ [("_law_script", v)]) ∧ ∀ base : Heap, K.In base → base.Ns mainGlobals mg → FnOk P w K mg base CXn 7 f fd ["_law_script"] (spLaw K 63) := by
  let ci : Ci := fun c => match c with | 0 => (He.ga K "Letter", at0) | _ => (0, [])
  obtain ⟨fd_is_number, F_is_number⟩ := c.def_ 0 (d := d0) rfl
  obtain ⟨fd_is_span, F_is_span⟩ := c.def_ 1 (d := d1) rfl
  obtain ⟨fd_joined, F_joined⟩ := c.def_ 2 (d := d2) rfl
  obtain ⟨fd_Letter_init, F_Letter_init⟩ := c.def_ 3 (d := d3) rfl
  obtain ⟨fd_Letter_runs, F_Letter_runs⟩ := c.def_ 4 (d := d4) rfl
  obtain ⟨fd_Letter_contains, F_Letter_contains⟩ := c.def_ 5 (d := d5) rfl
  obtain ⟨fd_cut, F_cut⟩ := c.def_ 6 (d := d6) rfl
  obtain ⟨fd_l_bag, F_l_bag⟩ := c.def_ 7 (d := d7) rfl
  obtain ⟨fd_l_pull, F_l_pull⟩ := c.def_ 8 (d := d8) rfl
  obtain ⟨fd_l_pick, F_l_pick⟩ := c.def_ 9 (d := d9) rfl
  obtain ⟨fd_l_same, F_l_same⟩ := c.def_ 10 (d := d10) rfl
  obtain ⟨fd_l_in, F_l_in⟩ := c.def_ 11 (d := d11) rfl
  obtain ⟨fd_l_runs, F_l_runs⟩ := c.def_ 12 (d := d12) rfl
  obtain ⟨fd_l_letter, F_l_letter⟩ := c.def_ 13 (d := d13) rfl
  obtain ⟨fd_l_span, F_l_span⟩ := c.def_ 14 (d := d14) rfl
  obtain ⟨fd_l_places, F_l_places⟩ := c.def_ 15 (d := d15) rfl
  obtain ⟨fd_l_cut, F_l_cut⟩ := c.def_ 16 (d := d16) rfl
  obtain ⟨fd_law, F_law⟩ := c.def_ 17 (d := d17) rfl
  have T : Tc mg := ⟨He.free_ok X G (c.fact 15 (f := .fa (.free "all")) rfl), He.free_ok X G (c.fact 16 (f := .fa (.free "any")) rfl), He.free_ok X G (c.fact 17 (f := .fa (.free "bool")) rfl), He.free_ok X G (c.fact 18 (f := .fa (.free "enumerate")) rfl), He.free_ok X G (c.fact 19 (f := .fa (.free "int")) rfl), He.free_ok X G (c.fact 20 (f := .fa (.free "isinstance")) rfl), He.free_ok X G (c.fact 21 (f := .fa (.free "len")) rfl), He.free_ok X G (c.fact 22 (f := .fa (.free "list")) rfl), He.free_ok X G (c.fact 23 (f := .fa (.free "max")) rfl), He.free_ok X G (c.fact 24 (f := .fa (.free "min")) rfl), He.free_ok X G (c.fact 25 (f := .fa (.free "range")) rfl), He.free_ok X G (c.fact 26 (f := .fa (.free "set")) rfl), He.free_ok X G (c.fact 27 (f := .fa (.free "sorted")) rfl), He.free_ok X G (c.fact 28 (f := .fa (.free "str")) rfl), He.free_ok X G (c.fact 29 (f := .fa (.free "tuple")) rfl), He.free_ok X G (c.fact 30 (f := .fa (.free "zip")) rfl)⟩
  have g_is_number := He.glo_ok X G (c.fact 0 (f := .fa (.glo "is_number")) rfl)
  have g_is_span := He.glo_ok X G (c.fact 1 (f := .fa (.glo "is_span")) rfl)
  have g_joined := He.glo_ok X G (c.fact 2 (f := .fa (.glo "joined")) rfl)
  have g_cut := He.glo_ok X G (c.fact 3 (f := .fa (.glo "cut")) rfl)
  have g_l_bag := He.glo_ok X G (c.fact 4 (f := .fa (.glo "_law_bag")) rfl)
  have g_l_pull := He.glo_ok X G (c.fact 5 (f := .fa (.glo "_law_pull")) rfl)
  have g_l_pick := He.glo_ok X G (c.fact 6 (f := .fa (.glo "_law_pick")) rfl)
  have g_l_same := He.glo_ok X G (c.fact 7 (f := .fa (.glo "_law_same")) rfl)
  have g_l_in := He.glo_ok X G (c.fact 8 (f := .fa (.glo "_law_in")) rfl)
  have g_l_runs := He.glo_ok X G (c.fact 9 (f := .fa (.glo "_law_runs")) rfl)
  have g_l_letter := He.glo_ok X G (c.fact 10 (f := .fa (.glo "_law_letter")) rfl)
  have g_l_span := He.glo_ok X G (c.fact 11 (f := .fa (.glo "_law_span")) rfl)
  have g_l_places := He.glo_ok X G (c.fact 12 (f := .fa (.glo "_law_places")) rfl)
  have g_l_cut := He.glo_ok X G (c.fact 13 (f := .fa (.glo "_law_cut")) rfl)
  have g_law := He.glo_ok X G (c.fact 14 (f := .fa (.glo "law")) rfl)
  have g_Letter := He.glo_ok X G (c.fact 31 (f := .fa (.glo "Letter")) rfl)
  have cl_Letter := He.cls_ok (c.fact 32 (f := .fa (.cls "Letter")) rfl)
  have mk_Letter := He.mkr_ok (c.fact 33 (f := .fa (.mkr "Letter")) rfl)
  cases hfa.symm.trans g_law
  have bl := FunD.bindsA (ps := ["_law_script"]) F_law fun _ _ _ _ _ _ us hl => match us, hl with | [_], _ => rfl
  refine ⟨fd_law, fun s v => bl s [v] rfl, fun base _ _ => ?_⟩
  have gm_Letter := g_Letter
  have V_GREATEST : CvalI K (ci 0).1 "GREATEST" 999999999999999999 := cvalB_ok (c.fact 37 (f := .ex (cvalB "Letter" "GREATEST" 999999999999999999)) rfl)
  have A_own_runs : ∀ c ∈ [0], AttrOk K ci c "own_runs" 0 := fun c hc => (by cases hc with | head => exact ⟨cl_Letter, He.noat_ok (c.fact 34 (f := .fa (.noat "Letter" "own_runs")) rfl), (by show at0.Nodup; decide +kernel), (by rfl), (by show at0.length < 1000; decide +kernel)⟩ | tail _ hc => exact (nomatch hc))
  have ok_is_number : FnOk P w K mg base (L2.CX P w) 1 _ fd_is_number ["value", "least", "most"] (spP K ci G_is_number) := fnP F_is_number sc_is_number (fun ds o h => by unfold G_is_number at h; split at h <;> first | rfl | cases h) (b_is_number T ) v_is_number
  have C_is_number_2 : CallP P w K mg base ci 1 "is_number" [.int 0, .int 999999999999999999] (spP K ci G_is_number) := by
    obtain ⟨ds, h1, h2⟩ := F_is_number.binds1 (ps := ["value", "least", "most"]) 1 0 (by intro z; cases z) rfl fun T kV doc pm an cdv ct us its hl hi => match us, hl, its, hi with | [_], _, [_, _], _ => ⟨_, rfl, rfl⟩
    exact ⟨_, fd_is_number, _, ds, ok_is_number, g_is_number, F_is_number.kp, h2, h1, rfl⟩
  have ok_is_span : FnOk P w K mg base (L2.CX P w) 2 _ fd_is_span ["value"] (spP K ci G_is_span) := fnP F_is_span sc_is_span (fun ds o h => by unfold G_is_span at h; split at h <;> first | rfl | cases h) (b_is_span T C_is_number_2) v_is_span
  have C_is_span : CallP P w K mg base ci 2 "is_span" [] (spP K ci G_is_span) := ⟨_, fd_is_span, _, [], ok_is_span, g_is_span, F_is_span.kp, (F_is_span.bindsN fun _ _ _ _ _ _ us hl => match us, hl with | [_], _ => rfl), .nil, rfl⟩
  have ok_joined : FnOk P w K mg base (L2.CX P w) 1 _ fd_joined ["spans"] (spP K ci G_joined) := fnP F_joined sc_joined (fun ds o h => by unfold G_joined at h; split at h <;> first | rfl | cases h) (b_joined T ) v_joined
  have C_joined : CallP P w K mg base ci 1 "joined" [] (spP K ci G_joined) := ⟨_, fd_joined, _, [], ok_joined, g_joined, F_joined.kp, (F_joined.bindsN fun _ _ _ _ _ _ us hl => match us, hl with | [_], _ => rfl), .nil, rfl⟩
  have ok_Letter_init : FnR P w K mg base (L2.CX P w) 3 _ (spI K ci 0 (packI G_init)) := fnSI F_Letter_init sc_Letter_init (b_Letter_init T C_is_span C_joined A_own_runs) (fun kV doc pm an cdv ct us rest hl => StX.bind_star1 (B := fun z => bindArgs (PySem.W.fnOf _ _ _ _ _ .none kV doc pm an cdv ct) ⟨z, []⟩) (p1 := "self") (pv := "spans") (fun a => rfl) (fun a r rs => rfl) us rest hl) v_init
  have MS_Letter : MakeS P w K mg base ci 3 "Letter" 0 G_Letter := ⟨⟨_, ok_Letter_init, mk_Letter, g_Letter⟩, ilen_Letter⟩
  have ok_Letter_runs : FnOk P w K mg base (L2.CX P w) 1 _ fd_Letter_runs ["self"] (spP K ci G_runs) := fnP F_Letter_runs sc_Letter_runs (fun ds o h => by unfold G_runs at h; split at h <;> first | rfl | cases h) (b_Letter_runs T A_own_runs) v_runs
  have MM_Letter_runs : MethP P w K mg base ci 1 0 "runs" [] (spP K ci G_runs) := ⟨_, fd_Letter_runs, _, [], ok_Letter_runs, cl_Letter, He.meth_ok (c.fact 35 (f := .fa (.meth "Letter" "runs")) rfl), (by show ("runs" : Str) ∉ at0; decide +kernel), (F_Letter_runs.bindsN fun _ _ _ _ _ _ us hl => match us, hl with | [_], _ => rfl), .nil, rfl⟩
  have M_runs : ∀ c dfl G, mt_runs c = some (dfl, G) → MethP P w K mg base ci 1 c "runs" dfl (spP K ci G) := by
    intro c dfl G h
    unfold mt_runs at h
    split at h
    · cases h; exact MM_Letter_runs
    · cases h
  have ok_Letter_contains : FnOk P w K mg base (L2.CX P w) 2 _ fd_Letter_contains ["self", "number"] (spP K ci G_contains) := fnP F_Letter_contains sc_Letter_contains (fun ds o h => by unfold G_contains at h; split at h <;> first | rfl | cases h) (b_Letter_contains T C_is_number_2 A_own_runs) v_contains
  have MM_Letter_contains : MethP P w K mg base ci 2 0 "__contains__" [] (spP K ci G_contains) := ⟨_, fd_Letter_contains, _, [], ok_Letter_contains, cl_Letter, He.meth_ok (c.fact 36 (f := .fa (.meth "Letter" "__contains__")) rfl), (by show ("__contains__" : Str) ∉ at0; decide +kernel), (F_Letter_contains.bindsN fun _ _ _ _ _ _ us hl => match us, hl with | [_, _], _ => rfl), .nil, rfl⟩
  have M_contains := MM_Letter_contains
  have ok_cut : FnR P w K mg base (L2.CX P w) 4 _ (spP K ci (packP 0 G_cut)) := fnSP F_cut sc_cut (b_cut T M_runs M_contains gm_Letter V_GREATEST) (fun kV doc pm an cdv ct rest => match rest with | [] => rfl | _ :: _ => rfl) v_cut
  have CS_cut : CallS P w K mg base ci 4 "cut" G_cutS := ⟨_, ok_cut, g_cut, F_cut.kp⟩
  have ok_l_bag : FnOk P w K mg base (L2.CX P w) 1 _ fd_l_bag ["_law_script"] (spOf K ci fc_bag) := fnM F_l_bag sc_l_bag (fun as S ex Q h => by obtain ⟨k, cs, rfl, _⟩ := h; rfl) (b_l_bag T ) v_bag
  have C_l_bag : CallP P w K mg base ci 1 "_law_bag" [] (spOf K ci fc_bag) := ⟨_, fd_l_bag, _, [], ok_l_bag, g_l_bag, F_l_bag.kp, (F_l_bag.bindsN fun _ _ _ _ _ _ us hl => match us, hl with | [_], _ => rfl), .nil, rfl⟩
  have ok_l_pull : FnOk P w K mg base (L2.CX P w) 1 _ fd_l_pull ["_law_bag_here", "_law_many"] (spOf K ci fc_pull) := fnM F_l_pull sc_l_pull (fun as S ex Q h => by obtain ⟨k, m, many, rfl, _⟩ := h; rfl) (b_l_pull T ) v_pull
  have C_l_pull : CallP P w K mg base ci 1 "_law_pull" [] (spOf K ci fc_pull) := ⟨_, fd_l_pull, _, [], ok_l_pull, g_l_pull, F_l_pull.kp, (F_l_pull.bindsN fun _ _ _ _ _ _ us hl => match us, hl with | [_, _], _ => rfl), .nil, rfl⟩
  have ok_l_pick : FnOk P w K mg base (L2.CX P w) 2 _ fd_l_pick ["_law_bag_here", "_law_rows"] (spOf K ci fc_pick) := fnM F_l_pick sc_l_pick (fun as S ex Q h => by obtain ⟨k, m, rows, l, rfl, _⟩ := h; rfl) (b_l_pick T C_l_pull) v_pick
  have C_l_pick : CallP P w K mg base ci 2 "_law_pick" [] (spOf K ci fc_pick) := ⟨_, fd_l_pick, _, [], ok_l_pick, g_l_pick, F_l_pick.kp, (F_l_pick.bindsN fun _ _ _ _ _ _ us hl => match us, hl with | [_, _], _ => rfl), .nil, rfl⟩
  have bS : Binds K fd_l_same ["_law_found", "_law_due"] [] := F_l_same.bindsN fun _ _ _ _ _ _ us hl => match us, hl with | [_, _], _ => rfl
  have okS : ∀ n : Nat, FnOk P w K mg base (L2.CX P w) (n + 1) (He.ga K "_law_same") fd_l_same ["_law_found", "_law_due"] (spP K ci (G_same n)) := by
    intro n
    induction n with
    | zero =>
      have z : CallP P w K mg base ci 0 "_law_same" [] (spP K ci (G_prev 0)) := ⟨_, fd_l_same, ["_law_found", "_law_due"], [], ⟨fun vs H Q E h => (by obtain ⟨_, _, _, _, _, h, _⟩ := h; cases h), fun A outer s H args us vs Q E hr e b v h => (by obtain ⟨_, _, _, _, _, h, _⟩ := h; cases h)⟩, g_l_same, F_l_same.kp, bS, .nil, rfl⟩
      exact fnP F_l_same sc_l_same (fun ds o h => hlen_same 0 ds o h) (b_l_same (G_prev 0) T z) (v_same 0)
    | succ n ih =>
      have z : CallP P w K mg base ci (n + 1) "_law_same" [] (spP K ci (G_prev (n + 1))) := ⟨_, fd_l_same, _, [], ih, g_l_same, F_l_same.kp, bS, .nil, rfl⟩
      exact fnP F_l_same sc_l_same (fun ds o h => hlen_same (n + 1) ds o h) (b_l_same (G_prev (n + 1)) T z) (v_same (n + 1))
  have C_l_same : CallP P w K mg base ci 4 "_law_same" [] (spP K ci (G_same 3)) := ⟨_, fd_l_same, _, [], okS 3, g_l_same, F_l_same.kp, bS, .nil, rfl⟩
  have ok_l_in : FnOk P w K mg base (L2.CX P w) 1 _ fd_l_in ["_law_number", "_law_spans"] (spP K ci G_in) := fnP F_l_in sc_l_in (fun ds o h => by unfold G_in at h; split at h <;> first | rfl | cases h) (b_l_in T ) v_in
  have C_l_in : CallP P w K mg base ci 1 "_law_in" [] (spP K ci G_in) := ⟨_, fd_l_in, _, [], ok_l_in, g_l_in, F_l_in.kp, (F_l_in.bindsN fun _ _ _ _ _ _ us hl => match us, hl with | [_, _], _ => rfl), .nil, rfl⟩
  have ok_l_runs : FnOk P w K mg base (L2.CX P w) 1 _ fd_l_runs ["_law_spans"] (spP K ci G_joined) := fnP F_l_runs sc_l_runs (fun ds o h => by unfold G_joined at h; split at h <;> first | rfl | cases h) (b_l_runs T ) v_l_runs
  have C_l_runs : CallP P w K mg base ci 1 "_law_runs" [] (spP K ci G_joined) := ⟨_, fd_l_runs, _, [], ok_l_runs, g_l_runs, F_l_runs.kp, (F_l_runs.bindsN fun _ _ _ _ _ _ us hl => match us, hl with | [_], _ => rfl), .nil, rfl⟩
  have ok_l_letter : FnOk P w K mg base (L2.CX P w) 5 _ fd_l_letter ["_law_spans"] (spP K ci G_letter) := fnP F_l_letter sc_l_letter (fun ds o h => by unfold G_letter at h; split at h <;> first | rfl | cases h) (b_l_letter T MS_Letter) v_letter
  have C_l_letter : CallP P w K mg base ci 5 "_law_letter" [] (spP K ci G_letter) := ⟨_, fd_l_letter, _, [], ok_l_letter, g_l_letter, F_l_letter.kp, (F_l_letter.bindsN fun _ _ _ _ _ _ us hl => match us, hl with | [_], _ => rfl), .nil, rfl⟩
  have ok_l_span : FnOk P w K mg base (L2.CX P w) 3 _ fd_l_span ["_law_bag_here", "_law_base"] (spOf K ci fc_span) := fnM F_l_span sc_l_span (fun as S ex Q h => by obtain ⟨k, m, base, rfl, _⟩ := h; rfl) (b_l_span T C_l_pull C_l_pick) v_span
  have C_l_span : CallP P w K mg base ci 3 "_law_span" [] (spOf K ci fc_span) := ⟨_, fd_l_span, _, [], ok_l_span, g_l_span, F_l_span.kp, (F_l_span.bindsN fun _ _ _ _ _ _ us hl => match us, hl with | [_, _], _ => rfl), .nil, rfl⟩
  have ok_l_places : FnOk P w K mg base (L2.CX P w) 2 _ fd_l_places ["_law_number", "_law_rows"] (spP K ci G_places) := fnP F_l_places sc_l_places (fun ds o h => by unfold G_places at h; split at h <;> first | rfl | cases h) (b_l_places T C_l_in) v_places
  have C_l_places : CallP P w K mg base ci 2 "_law_places" [] (spP K ci G_places) := ⟨_, fd_l_places, _, [], ok_l_places, g_l_places, F_l_places.kp, (F_l_places.bindsN fun _ _ _ _ _ _ us hl => match us, hl with | [_, _], _ => rfl), .nil, rfl⟩
  have ok_l_cut : FnOk P w K mg base (L2.CX P w) 3 _ fd_l_cut ["_law_rows"] (spP K ci G_lcut) := fnP F_l_cut sc_l_cut (fun ds o h => by unfold G_lcut at h; split at h <;> first | rfl | cases h) (b_l_cut T C_l_places) v_l_cut
  have C_l_cut : CallP P w K mg base ci 3 "_law_cut" [] (spP K ci G_lcut) := ⟨_, fd_l_cut, _, [], ok_l_cut, g_l_cut, F_l_cut.kp, (F_l_cut.bindsN fun _ _ _ _ _ _ us hl => match us, hl with | [_], _ => rfl), .nil, rfl⟩
  have ok_law : FnOk P w K mg base (L2.CX P w) 7 _ fd_law ["_law_script"] (spOf K ci (fc_law 63)) := fnM F_law sc_law (fun as S ex Q h => by obtain ⟨cs, rfl, _⟩ := h; rfl) (b_law T C_l_bag C_l_pick C_l_pull C_l_span C_l_letter C_l_same C_l_cut C_l_runs MS_Letter CS_cut M_runs) v_law
  exact law_close ok_law
end Hd
open PySem PySem.W PySem.Calls PyProof.Rows
theorem PySem.Challenge.cw_lumplooks_k08_whole_numbers_cut_by_lette_holds : PySem.Challenge.rw_lumplooks_k08_whole_numbers_cut_by_lette.Holds := by
  w_on; o_law
  refine HandSHeadRun.head_any (r := OpenLaw.row PySem.Challenge.rw_lumplooks_k08_whole_numbers_cut_by_lette) (q := view (OpenLaw.row PySem.Challenge.rw_lumplooks_k08_whole_numbers_cut_by_lette).prog [31]) (H := Hd.hk) (ob := Hd.ob) (M := 4000) (loose := Hd.loose) (d := HandSHeadRun.topDef (OpenLaw.row PySem.Challenge.rw_lumplooks_k08_whole_numbers_cut_by_lette).prog 31) (kwd := []) Hd.ob_eq
    (by kernel_rfl) (fun s => by kernel_rfl) Hd.run (by kernel_rfl) (by kernel_rfl) (by kernel_rfl) (by rfl) (by first | assumption | decide +kernel) (by decide +kernel) ⟨rfl, rfl, rfl, rfl, rfl, by decide +kernel⟩ ?hw ?hc
  case hw => w_witness2
  case hc =>
    refine L2.walk_ofE (l := PySem.Challenge.rw_lumplooks_k08_whole_numbers_cut_by_lette) (n := 63) (k := 7) (x := "_law_script") (CX := LP.CXn) rfl (by decide) (by kernel_rfl) ⟨rfl, by decide, by decide⟩ ?F (fun _ _ _ _ z => z)
    intro w mg fa h Y G hmg0
    obtain ⟨K, KX, c⟩ := Y
    have hmg : mg ("law" : PySem.Str) = some (.ref fa) := by
      have e : (HandSHeadRun.topDef (OpenLaw.row PySem.Challenge.rw_lumplooks_k08_whole_numbers_cut_by_lette).prog 31).name = ("law" : PySem.Str) := by kernel_rfl
      rw [← e]
      exact hmg0
    obtain ⟨fd, hb, hF⟩ := Hd.facts (P := (PySem.Challenge.rw_lumplooks_k08_whole_numbers_cut_by_lette).prog) (w := w) KX G hmg c
    exact ⟨K, fd, LP.spLaw K 63, KX, hb, fun H a ns hl _ hS => ⟨a, ns, rfl, hl, hS, fun _ => rfl⟩, hF⟩
