import PyProof.Rows.All
import Wide.All
import OpenK.AllK
import Wide.FinOn
import HandS.ForMost
import HandS.Exc
import HandS.WordsExc
import HandS.Defaults
import HandS.IsInst
import HandS.FStr
import HandS.Lambda
import HandS.ExcInit
import HandS.ExcValue
import KE.KDflt
import HandS.Walk
import HandS.Style
import HandS.Property
import HandS.Zip
import HandS.StrMore
import HandS.More
import HandS.TupAny
import HandS.MakeKwOnly
import HandS.MakeKw
import HandS.Codes
import HandS.OwnEq
import HandS.HeadHook2
import HandS.TupSets
import HandS.Wide
import HandS.Star
import HandS.SlotsOwn
import PyProof.InstNe
import PyProof.Conv_bool
import KE.GoesEnum
import HandS.ClsMeth
import HandS.Small
import HandS.SetFor
import HandS.Strs
import KE.GoesSet
import KE.GoesOver
import HandS.TupLe
import HandS.Iter
import KE.KSuper
import KE.KExcSuper
import KE.KTryMore
import HandS.ExcField
import HandS.HotCalls
import KE.KStateDown
import HandS.Words
import HandS.Head0
import HandS.Head1
import HandS.Head2
import HandS.HeadEnd
import HandS.HeadHook1
import HandS.HeadWalk
import HandS.EndTab
import KE.KUnpackStar
import PyProof.Rows.SetFrom
import HandS.Sort
import HandS.Conv
import HandS.ListEq
import PyProof.NeKinds
import HandS.SetKeys
import HandS.DictTup
import KE.KSortTupAny
import KE.GoesMore
import KE.KExcInit
import HandS.ExcIs
import KE.KExcIs
import PyProof.ExcBaseAll.IndexError
import PyProof.ExcBaseAll.LookupError
import Lean
import PySem.Challenge.RW_lumplooks_k01_errors_by_themselves
set_option Elab.async false
set_option linter.all false
set_option maxRecDepth 100000
namespace LP
open PySem PySem.Spec PyProof.Rows L2
inductive D where
  | non | bl (b : Bool) | int (i : Int) | str (s : Str)
  | tup (l : List D) | lst (l : List D) | ins (c : Nat) (fs : List D) | dic (ks : List Key) (l : List D)
  /-- a function at an address, opaque -/
  | fn (a : Addr)
  /-- an error object held as a value: its class, its attributes -/
  | exc (c : Nat) (ns : List Str) (l : List D)
/-- a slot's value -/
inductive A where
  | d (x : D) | loc (k : Nat)
/-- a lambda's words, the cells that it captured -/
structure LamD where
  params : Arguments
  body : Expr
  scope : Scope
  clos : List (Str × Addr)
/-- a thing that may change -/
inductive MO where
  | lst (l : List A) | ins (c : Nat) (fs : List A) | dK (ks : List Key) (l : List A) | frz (x : D) | scr (l : List D) | gone
  /-- a table of code objects of one name; a caught error: the address, that of its dict, its attributes -/
  | tab (P : Addr) (q : Str) | exo (a dx : Addr) (fs : List (Str × D))
  /-- lambdas at addresses; a frame's slots -/
  | fnl (q : Str) (as : List Addr) (l : List LamD) | slo (σ : L2.St) (Γ : List (Option A))
def MO.live : MO → Bool
  | .lst _ => true | .ins _ _ => true | .dK _ _ => true | .tab _ _ => true | _ => false
/-- an error that was raised: its class, its own attributes -/
structure Er where
  c : Nat
  fs : List (Str × D)
abbrev Ga := List (Option A)
abbrev So := List MO
/-- classes: where each stands, the names of its attributes in their order -/
abbrev Ci := Nat → Addr × List Str
def Lw (K : PySem.W.Frag) (a : Addr) (xs : List V) : Prop :=
    ∃ (o : Obj) (its : Array Value) (n : Nat), K.lookup a = some o ∧ o.cls = .type "list" ∧ o.dict = none ∧ o.data = .seq its n ∧ its.size ≤ sizeLine ∧ Vals xs its.toList
theorem sql_iff {K : PySem.W.Frag} {H : Hp} {a : Addr} {xs : List V} : SqL K H a xs ↔ (Rd H a (.lst xs) ∨ Lw K a xs) := Iff.rfl
def Tw (K : PySem.W.Frag) (a : Addr) (xs : List V) : Prop :=
    ∃ (o : Obj) (its : Array Value) (n : Nat), K.lookup a = some o ∧ o.cls = .type "tuple" ∧ o.data = .seq its n ∧ its.size ≤ sizeLine ∧ Vals xs its.toList
section
variable (K : PySem.W.Frag) (ci : Ci)
mutual
def Rep (M : List Addr) (H : Hp) : D → V → Prop
  | .non, v => v = .non
  | .bl b, v => v = .bl b
  | .int i, v => v = .int i
  | .str s, v => v = .str s
  | .tup l, v => ∃ p vs, v = .ref p ∧ ((Rd H p (.tup vs) ∧ p ∉ M) ∨ Tw K p vs) ∧ Reps M H l vs
  | .lst l, v => ∃ p vs, v = .ref p ∧ (H p = some (.lst vs) ∧ p ∉ M) ∧ Reps M H l vs
  | .ins c fs, v => ∃ p dx vs, v = .ref p ∧ H p = some (.ins (ci c).1 dx ((ci c).2.zip vs)) ∧ p ∉ M ∧ vs.length = (ci c).2.length ∧ Reps M H fs vs
  | .dic ks l, v => ∃ p vs, v = .ref p ∧ Rd H p (.dK (ks.zip vs)) ∧ p ∉ M ∧ vs.length = ks.length ∧ Reps M H l vs
  | .fn a, v => v = .ref a
  | .exc c ns l, v => ∃ p vs, v = .ref p ∧ p ∉ M ∧ ((ns = [] ∧ H p = some (ExO (.ref (ci c).1) p)) ∨ ∃ dx, H p = some (exo p (ci c).1 (some dx)) ∧ H dx = some (exd dx (ns.zip vs)) ∧ dx ∉ M) ∧ vs.length = ns.length ∧ Reps M H l vs
def Reps (M : List Addr) (H : Hp) : List D → List V → Prop
  | [], vs => vs = []
  | d :: ds, vs => ∃ v r, vs = v :: r ∧ Rep M H d v ∧ Reps M H ds r
end
end
section
variable {K : PySem.W.Frag} {ci : Ci} {M M' : List Addr} {H H' : Hp}
theorem rd_mono {p : Addr} {u : HO} (h : ∀ a o, H a = some o → a ∉ M → H' a = some o ∧ a ∉ M') (hp : p ∉ M) (r : Rd H p u) : Rd H' p u ∧ p ∉ M' := by
  rcases r with r | ⟨o, r⟩
  · exact ⟨.inl (h _ _ r hp).1, (h _ _ r hp).2⟩
  · exact ⟨.inr ⟨o, (h _ _ r hp).1⟩, (h _ _ r hp).2⟩
mutual
theorem Rep.mono (h : ∀ a o, H a = some o → a ∉ M → H' a = some o ∧ a ∉ M') : ∀ (d : D) (v : V), Rep K ci M H d v → Rep K ci M' H' d v
  | .non, v, r => r
  | .bl b, v, r => r
  | .int i, v, r => r
  | .str s, v, r => r
  | .tup l, v, r => by
    rw [Rep] at r ⊢
    obtain ⟨p, vs, e, q, rs⟩ := r
    refine ⟨p, vs, e, ?_, Reps.mono h l vs rs⟩
    rcases q with ⟨q, n⟩ | q
    · exact .inl (rd_mono h n q)
    · exact .inr q
  | .lst l, v, r => by
    rw [Rep] at r ⊢
    obtain ⟨p, vs, e, q, rs⟩ := r
    exact ⟨p, vs, e, h _ _ q.1 q.2, Reps.mono h l vs rs⟩
  | .ins c fs, v, r => by
    rw [Rep] at r ⊢
    obtain ⟨p, dx, vs, e, q, n, z, rs⟩ := r
    exact ⟨p, dx, vs, e, (h _ _ q n).1, (h _ _ q n).2, z, Reps.mono h fs vs rs⟩
  | .dic ks l, v, r => by
    rw [Rep] at r ⊢
    obtain ⟨p, vs, e, q, n, z, rs⟩ := r
    exact ⟨p, vs, e, (rd_mono h n q).1, (rd_mono h n q).2, z, Reps.mono h l vs rs⟩
  | .fn a, v, r => by rw [Rep] at r ⊢; exact r
  | .exc c ns l, v, r => by
    rw [Rep] at r ⊢
    obtain ⟨p, vs, e, n, q, z, rs⟩ := r
    have hp : ∃ o, H p = some o := by
      rcases q with ⟨_, q⟩ | ⟨dx, q, _⟩ <;> exact ⟨_, q⟩
    obtain ⟨o, ho⟩ := hp
    refine ⟨p, vs, e, (h _ _ ho n).2, ?_, z, Reps.mono h l vs rs⟩
    rcases q with ⟨e0, q⟩ | ⟨dx, q1, q2, q3⟩
    · exact .inl ⟨e0, (h _ _ q n).1⟩
    · exact .inr ⟨dx, (h _ _ q1 n).1, (h _ _ q2 q3).1, (h _ _ q2 q3).2⟩
theorem Reps.mono (h : ∀ a o, H a = some o → a ∉ M → H' a = some o ∧ a ∉ M') : ∀ (ds : List D) (vs : List V), Reps K ci M H ds vs → Reps K ci M' H' ds vs
  | [], vs, r => by rw [Reps] at r ⊢; exact r
  | d :: ds, vs, r => by
    rw [Reps] at r ⊢
    obtain ⟨v, rr, e, r1, r2⟩ := r
    exact ⟨v, rr, e, Rep.mono h d v r1, Reps.mono h ds rr r2⟩
end
theorem Reps.length : ∀ {ds : List D} {vs : List V}, Reps K ci M H ds vs → ds.length = vs.length
  | [], vs, r => by rw [Reps] at r; subst r; rfl
  | d :: ds, vs, r => by
    rw [Reps] at r
    obtain ⟨v, rr, rfl, r1, r2⟩ := r
    simp [Reps.length r2]
theorem Reps.get : ∀ {ds : List D} {vs : List V} {i : Nat} {v : V}, Reps K ci M H ds vs → vs[i]? = some v → ∃ d, ds[i]? = some d ∧ Rep K ci M H d v
  | [], vs, i, v, r, e => by rw [Reps] at r; rw [r] at e; simp at e
  | d :: ds, vs, i, v, r, e => by
    rw [Reps] at r
    obtain ⟨v0, rr, rfl, r1, r2⟩ := r
    cases i with
    | zero => simp at e; subst e; exact ⟨d, rfl, r1⟩
    | succ i => simp at e; simpa using Reps.get r2 e
theorem Reps.getD : ∀ {ds : List D} {vs : List V} {i : Nat} {d : D}, Reps K ci M H ds vs → ds[i]? = some d → ∃ v, vs[i]? = some v ∧ Rep K ci M H d v := fun {ds vs i d} r e => by
  have hi : i < vs.length := by rw [← r.length]; exact (List.getElem?_eq_some_iff.mp e).1
  obtain ⟨d', e', r'⟩ := r.get (i := i) (v := vs[i]) (by simp [hi])
  rw [e] at e'; cases e'
  exact ⟨_, by simp [hi], r'⟩
theorem Reps.append : ∀ {ds es : List D} {vs ws : List V}, Reps K ci M H ds vs → Reps K ci M H es ws → Reps K ci M H (ds ++ es) (vs ++ ws)
  | [], es, vs, ws, r, q => by rw [Reps] at r; subst r; exact q
  | d :: ds, es, vs, ws, r, q => by
    rw [Reps] at r
    obtain ⟨v0, rr, rfl, r1, r2⟩ := r
    show Reps K ci M H (d :: (ds ++ es)) (v0 :: (rr ++ ws))
    rw [Reps]
    exact ⟨v0, _, rfl, r1, Reps.append r2 q⟩
theorem Reps.take : ∀ (n : Nat) {ds : List D} {vs : List V}, Reps K ci M H ds vs → Reps K ci M H (ds.take n) (vs.take n)
  | 0, ds, vs, r => by simp [Reps]
  | n + 1, [], vs, r => by rw [Reps] at r; subst r; simp [Reps]
  | n + 1, d :: ds, vs, r => by
    rw [Reps] at r
    obtain ⟨v0, rr, rfl, r1, r2⟩ := r
    show Reps K ci M H (d :: ds.take n) (v0 :: rr.take n)
    rw [Reps]
    exact ⟨v0, _, rfl, r1, Reps.take n r2⟩
theorem Reps.drop : ∀ (n : Nat) {ds : List D} {vs : List V}, Reps K ci M H ds vs → Reps K ci M H (ds.drop n) (vs.drop n)
  | 0, ds, vs, r => r
  | n + 1, [], vs, r => by rw [Reps] at r; subst r; simp [Reps]
  | n + 1, d :: ds, vs, r => by
    rw [Reps] at r
    obtain ⟨v0, rr, rfl, r1, r2⟩ := r
    exact Reps.drop n r2
theorem Reps.nil : Reps K ci M H [] [] := by rw [Reps]
theorem Reps.cons {d : D} {v : V} {ds : List D} {vs : List V} (r : Rep K ci M H d v) (q : Reps K ci M H ds vs) : Reps K ci M H (d :: ds) (v :: vs) := by
  rw [Reps]; exact ⟨v, vs, rfl, r, q⟩
end
/-- the object at a is o -/
def FunX (a : Addr) (o : Obj) : HO := .ext fun h => h.get? a = some o
/-- a lambda stands at f -/
def LamAt (M : List Addr) (H : Hp) (q : Str) (f : Addr) (d : LamD) : Prop := ∃ (doc pm ctv dV : Value) (c' : Addr), H f = some (FunX f (PySem.W.kdv_obj "<lambda>" q d.params (.expr d.body) d.scope d.clos dV doc pm c' ctv)) ∧ f ∉ M ∧ H c' = some (LamX.CodeO c' q) ∧ c' ∉ M ∧
  ((d.params.defaults = [] ∧ dV = .none) ∨ (d.params.defaults ≠ [] ∧ ∃ t tk, dV = .ref t ∧ H t = some (FunX t (PySem.W.kdv_tup [.int 0 tk])) ∧ t ∉ M))
def LamsAt (M : List Addr) (H : Hp) (q : Str) : List Addr → List LamD → Prop
  | [], [] => True
  | f :: fs, d :: ds => LamAt M H q f d ∧ LamsAt M H q fs ds
  | _, _ => False
section
variable (K : PySem.W.Frag) (ci : Ci)
def ARep (ρ M : List Addr) (H : Hp) : A → V → Prop
  | .d x, v => Rep K ci M H x v
  | .loc k, v => ∃ p, ρ[k]? = some p ∧ v = .ref p
def AReps (ρ M : List Addr) (H : Hp) : List A → List V → Prop
  | [], vs => vs = []
  | a :: as, vs => ∃ v r, vs = v :: r ∧ ARep K ci ρ M H a v ∧ AReps ρ M H as r
def MRep (ρ M : List Addr) (H : Hp) (p : Addr) : MO → Prop
  | .lst l => ∃ vs, H p = some (.lst vs) ∧ AReps K ci ρ M H l vs
  | .ins c fs => ∃ dx vs, H p = some (.ins (ci c).1 dx ((ci c).2.zip vs)) ∧ vs.length ≤ (ci c).2.length ∧ AReps K ci ρ M H fs vs
  | .dK ks l => ∃ vs, H p = some (.dK (ks.zip vs)) ∧ vs.length = ks.length ∧ AReps K ci ρ M H l vs
  | .frz d => Rep K ci M H d (.ref p)
  | .scr l => ∃ vs, ((Rd H p (.lst vs) ∧ p ∉ M) ∨ Lw K p vs) ∧ Reps K ci M H l vs
  | .gone => True
  | .tab P q => p = P ∧ ∃ ps, H p = some (.tbl ps) ∧ TriplesOk ps.toList ∧ ∀ (pos : Pos) (cv : Value), codeAmong pos ps.toList = some cv → ∃ c, cv = .ref c ∧ H c = some (LamX.CodeO c q) ∧ c ∉ M
  | .exo a dx fs => p = a ∧ ∃ vs, H dx = some (.xd ((fs.map (·.1)).zip vs)) ∧ dx ∉ M ∧ vs.length = fs.length ∧ Reps K ci M H (fs.map (·.2)) vs
  | .fnl q fs l => LamsAt M H q fs l
  | .slo σ Γ => Γ.length = σ.length ∧ ∀ (i : Nat) (a : A), Γ[i]? = some (some a) → ∃ v, σ[i]? = some (some v) ∧ ARep K ci ρ M H a v
end
def mutA : List Addr → So → List Addr
  | p :: ρ, o :: S => if o.live = true then p :: mutA ρ S else mutA ρ S
  | _, _ => []
section
variable {K : PySem.W.Frag} {ci : Ci} {ρ ρ' M M' : List Addr} {H H' : Hp}
theorem ARep.mono (h : ∀ a o, H a = some o → a ∉ M → H' a = some o ∧ a ∉ M') (hρ : ρ <+: ρ') : ∀ {a : A} {v : V}, ARep K ci ρ M H a v → ARep K ci ρ' M' H' a v
  | .d x, v, r => Rep.mono h x v r
  | .loc k, v, ⟨p, e, q⟩ => by
    obtain ⟨t, rfl⟩ := hρ
    refine ⟨p, ?_, q⟩
    rw [List.getElem?_append_left (List.getElem?_eq_some_iff.mp e).1]
    exact e
theorem AReps.mono (h : ∀ a o, H a = some o → a ∉ M → H' a = some o ∧ a ∉ M') (hρ : ρ <+: ρ') : ∀ {as : List A} {vs : List V}, AReps K ci ρ M H as vs → AReps K ci ρ' M' H' as vs
  | [], vs, r => r
  | a :: as, vs, ⟨v, rr, e, r1, r2⟩ => ⟨v, rr, e, r1.mono h hρ, AReps.mono h hρ r2⟩
theorem AReps.length : ∀ {ds : List A} {vs : List V}, AReps K ci ρ M H ds vs → ds.length = vs.length
  | [], vs, r => by rw [AReps] at r; subst r; rfl
  | d :: ds, vs, ⟨v, rr, e, r1, r2⟩ => by subst e; simp [AReps.length r2]
theorem AReps.get : ∀ {ds : List A} {vs : List V} {i : Nat} {v : V}, AReps K ci ρ M H ds vs → vs[i]? = some v → ∃ d, ds[i]? = some d ∧ ARep K ci ρ M H d v
  | [], vs, i, v, r, e => by rw [AReps] at r; rw [r] at e; simp at e
  | d :: ds, vs, i, v, ⟨v0, rr, e0, r1, r2⟩, e => by
    subst e0
    cases i with
    | zero => simp at e; subst e; exact ⟨d, rfl, r1⟩
    | succ i => simp at e; simpa using AReps.get r2 e
theorem AReps.set {a : A} {v : V} (q : ARep K ci ρ M H a v) : ∀ {ds : List A} {vs : List V} (i : Nat), AReps K ci ρ M H ds vs → AReps K ci ρ M H (ds.set i a) (vs.set i v)
  | [], vs, i, r => by rw [AReps] at r; subst r; simp [AReps]
  | d :: ds, vs, 0, ⟨v0, rr, e0, r1, r2⟩ => by subst e0; exact ⟨v, rr, rfl, q, r2⟩
  | d :: ds, vs, i + 1, ⟨v0, rr, e0, r1, r2⟩ => by subst e0; exact ⟨v0, _, rfl, r1, AReps.set q i r2⟩
theorem AReps.append : ∀ {ds es : List A} {vs ws : List V}, AReps K ci ρ M H ds vs → AReps K ci ρ M H es ws → AReps K ci ρ M H (ds ++ es) (vs ++ ws)
  | [], es, vs, ws, r, q => by rw [AReps] at r; subst r; exact q
  | d :: ds, es, vs, ws, ⟨v0, rr, e0, r1, r2⟩, q => by subst e0; exact ⟨v0, _, rfl, r1, AReps.append r2 q⟩
/-- data alone -/
theorem AReps.data : ∀ {ds : List D} {vs : List V}, AReps K ci ρ M H (ds.map A.d) vs → Reps K ci M H ds vs
  | [], vs, r => by rw [Reps]; exact r
  | d :: ds, vs, ⟨v0, rr, e0, r1, r2⟩ => by rw [Reps]; exact ⟨v0, rr, e0, r1, AReps.data r2⟩
theorem LamAt.mono {q : Str} {f : Addr} {d : LamD} (h : ∀ a o, H a = some o → a ∉ M → H' a = some o ∧ a ∉ M') : LamAt M H q f d → LamAt M' H' q f d := by
  rintro ⟨doc, pm, ctv, dV, c', h1, h2, h3, h4, h5⟩
  refine ⟨doc, pm, ctv, dV, c', (h _ _ h1 h2).1, (h _ _ h1 h2).2, (h _ _ h3 h4).1, (h _ _ h3 h4).2, h5.imp id ?_⟩
  rintro ⟨k, t, tk, e, h6, h7⟩
  exact ⟨k, t, tk, e, (h _ _ h6 h7).1, (h _ _ h6 h7).2⟩
theorem LamsAt.mono {q : Str} (h : ∀ a o, H a = some o → a ∉ M → H' a = some o ∧ a ∉ M') : ∀ {fs : List Addr} {ds : List LamD}, LamsAt M H q fs ds → LamsAt M' H' q fs ds
  | [], [], _ => trivial
  | [], _ :: _, z => z.elim
  | _ :: _, [], z => z.elim
  | f :: fs, d :: ds, ⟨a, b⟩ => ⟨a.mono h, b.mono h⟩
theorem MRep.mono (h : ∀ a o, H a = some o → a ∉ M → H' a = some o ∧ a ∉ M') (hρ : ρ <+: ρ') {p : Addr} {o : MO} (hp : o.live = true → H' p = H p) (r : MRep K ci ρ M H p o) : MRep K ci ρ' M' H' p o := by
  cases o with
  | lst l => obtain ⟨vs, e, q⟩ := r; exact ⟨vs, by rw [hp rfl]; exact e, q.mono h hρ⟩
  | ins c fs => obtain ⟨dx, vs, e, z, q⟩ := r; exact ⟨dx, vs, by rw [hp rfl]; exact e, z, q.mono h hρ⟩
  | dK ks l => obtain ⟨vs, e, z, q⟩ := r; exact ⟨vs, by rw [hp rfl]; exact e, z, q.mono h hρ⟩
  | frz d => exact Rep.mono h d _ r
  | scr l =>
    obtain ⟨vs, e, q⟩ := r
    refine ⟨vs, ?_, Reps.mono h l vs q⟩
    rcases e with ⟨e | ⟨o, e⟩, n⟩ | e
    · exact .inl ⟨.inl (h _ _ e n).1, (h _ _ e n).2⟩
    · exact .inl ⟨.inr ⟨o, (h _ _ e n).1⟩, (h _ _ e n).2⟩
    · exact .inr e
  | gone => trivial
  | tab P q =>
    obtain ⟨e0, ps, e, t, z⟩ := r
    refine ⟨e0, ps, by rw [hp rfl]; exact e, t, fun pos cv hc => ?_⟩
    obtain ⟨c, e1, e2, e3⟩ := z pos cv hc
    exact ⟨c, e1, (h _ _ e2 e3).1, (h _ _ e2 e3).2⟩
  | exo a dx fs =>
    obtain ⟨e0, vs, e, n, z, q⟩ := r
    exact ⟨e0, vs, (h _ _ e n).1, (h _ _ e n).2, z, Reps.mono h _ vs q⟩
  | fnl q fs l => exact LamsAt.mono h r
  | slo σ Γ =>
    refine ⟨r.1, fun i a e => ?_⟩
    obtain ⟨v, e1, q⟩ := r.2 i a e
    exact ⟨v, e1, q.mono h hρ⟩
theorem MRep.there {p : Addr} {o : MO} (hl : o.live = true) (r : MRep K ci ρ M H p o) : ∃ u, H p = some u ∧ True := by
  cases o with
  | lst l => obtain ⟨vs, e, q⟩ := r; exact ⟨_, e, trivial⟩
  | ins c fs => obtain ⟨dx, vs, e, z, q⟩ := r; exact ⟨_, e, trivial⟩
  | dK ks l => obtain ⟨vs, e, z, q⟩ := r; exact ⟨_, e, trivial⟩
  | frz d => cases hl
  | scr l => cases hl
  | gone => cases hl
  | tab P q => obtain ⟨_, ps, e, _⟩ := r; exact ⟨_, e, trivial⟩
  | exo a dx fs => cases hl
  | fnl q fs l => cases hl
  | slo σ Γ => cases hl
theorem mem_mutA : ∀ {ρ : List Addr} {S : So} {p : Addr}, p ∈ mutA ρ S → ∃ (k : Nat) (o : MO), ρ[k]? = some p ∧ S[k]? = some o ∧ o.live = true
  | [], _, p, h => by simp [mutA] at h
  | _ :: _, [], p, h => by simp [mutA] at h
  | q :: ρ, o :: S, p, h => by
    unfold mutA at h
    split at h
    · rename_i hl
      rcases List.mem_cons.mp h with rfl | h
      · exact ⟨0, o, rfl, rfl, hl⟩
      · obtain ⟨k, o', e1, e2, e3⟩ := mem_mutA h
        exact ⟨k + 1, o', by simpa using e1, by simpa using e2, e3⟩
    · obtain ⟨k, o', e1, e2, e3⟩ := mem_mutA h
      exact ⟨k + 1, o', by simpa using e1, by simpa using e2, e3⟩
theorem mutA_mem : ∀ {ρ : List Addr} {S : So} {p : Addr} {k : Nat} {o : MO}, ρ[k]? = some p → S[k]? = some o → o.live = true → p ∈ mutA ρ S
  | [], _, p, k, o, e1, e2, h => by simp at e1
  | _ :: _, [], p, k, o, e1, e2, h => by simp at e2
  | q :: ρ, o' :: S, p, k, o, e1, e2, h => by
    unfold mutA
    cases k with
    | zero => simp at e1 e2; subst e1 e2; rw [if_pos h]; exact List.mem_cons_self
    | succ k =>
      have := mutA_mem (p := p) (k := k) (o := o) (ρ := ρ) (S := S) (by simpa using e1) (by simpa using e2) h
      split
      · exact List.mem_cons_of_mem _ this
      · exact this
theorem mutA_append : ∀ {ρ : List Addr} {S : So} {p : Addr} {o : MO}, ρ.length = S.length → mutA (ρ ++ [p]) (S ++ [o]) = mutA ρ S ++ (if o.live = true then [p] else [])
  | [], [], p, o, _ => by simp [mutA]
  | [], _ :: _, p, o, h => by simp at h
  | _ :: _, [], p, o, h => by simp at h
  | q :: ρ, o' :: S, p, o, h => by
    have := mutA_append (ρ := ρ) (S := S) (p := p) (o := o) (by simpa using h)
    simp only [List.cons_append, mutA, this]
    split <;> simp
theorem mutA_set_same : ∀ {ρ : List Addr} {S : So} {k : Nat} {o o' : MO}, S[k]? = some o → o.live = o'.live → mutA ρ (S.set k o') = mutA ρ S
  | [], S, k, o, o', _, _ => by simp [mutA]
  | _ :: _, [], k, o, o', h, _ => by simp at h
  | q :: ρ, a :: S, 0, o, o', h, e => by
    simp at h; subst h
    simp only [List.set_cons_zero, mutA, e]
  | q :: ρ, a :: S, k + 1, o, o', h, e => by
    simp only [List.set_cons_succ, mutA]
    rw [mutA_set_same (k := k) (o := o) (by simpa using h) e]
/-- one thing less that may change -/
theorem mutA_set_sub : ∀ {ρ : List Addr} {S : So} {k : Nat} {o' : MO}, o'.live = false → (mutA ρ (S.set k o')).Sublist (mutA ρ S)
  | [], S, k, o', _ => by simp [mutA]
  | _ :: _, [], k, o', _ => by simp [mutA]
  | q :: ρ, a :: S, 0, o', e => by
    simp only [List.set_cons_zero, mutA, e]
    simp only [Bool.false_eq_true, ↓reduceIte]
    split
    · exact List.sublist_cons_self _ _
    · exact List.Sublist.refl _
  | q :: ρ, a :: S, k + 1, o', e => by
    simp only [List.set_cons_succ, mutA]
    split
    · exact (mutA_set_sub e).cons₂ _
    · exact mutA_set_sub e
theorem mutA_set_gone : ∀ {ρ : List Addr} {S : So} {k : Nat} {p : Addr} {o' : MO}, (mutA ρ S).Nodup → ρ[k]? = some p → o'.live = false → (∃ o, S[k]? = some o ∧ o.live = true) → p ∉ mutA ρ (S.set k o')
  | [], S, k, p, o', _, e, _, _ => by simp at e
  | _ :: _, [], k, p, o', _, _, _, ⟨o, h, _⟩ => by simp at h
  | q :: ρ, a :: S, 0, p, o', nd, e, hl, ⟨o, h, ho⟩ => by
    simp at e h; subst e h
    simp only [List.set_cons_zero, mutA, hl, ho, ↓reduceIte, Bool.false_eq_true] at nd ⊢
    exact (List.nodup_cons.mp nd).1
  | q :: ρ, a :: S, k + 1, p, o', nd, e, hl, ⟨o, h, ho⟩ => by
    have e' : ρ[k]? = some p := by simpa using e
    have h' : S[k]? = some o := by simpa using h
    simp only [List.set_cons_succ, mutA] at nd ⊢
    split at nd
    · rename_i hq
      simp only [hq, ↓reduceIte]
      intro hm
      rcases List.mem_cons.mp hm with r | r
      · subst r; exact (List.nodup_cons.mp nd).1 (mutA_mem e' h' ho)
      · exact mutA_set_gone (List.nodup_cons.mp nd).2 e' hl ⟨o, h', ho⟩ r
    · rename_i hq
      simp only [hq]
      exact mutA_set_gone nd e' hl ⟨o, h', ho⟩
end
end LP
namespace LP
open PySem PySem.Spec PyProof.Rows L2
/-- a def's entry: the heap, the things that may change; ex: things of others that may change, but not here -/
structure Fr (K : PySem.W.Frag) (ci : Ci) where
  H : Hp
  ρ : List Addr
  M : List Addr
  ex : List Addr
abbrev mu {K : PySem.W.Frag} {ci : Ci} (F : Fr K ci) (ρ : List Addr) (S : So) : List Addr := mutA ρ S ++ F.ex
structure RelR {K : PySem.W.Frag} {ci : Ci} (F : Fr K ci) (ρ : List Addr) (T : List (A × V)) (Γ : Ga) (S : So) (σ : L2.St) (H : Hp) : Prop where
  pre : F.ρ <+: ρ
  len : ρ.length = S.length
  nd : (mutA ρ S).Nodup
  st : ∀ (k : Nat) (p : Addr) (o : MO), ρ[k]? = some p → S[k]? = some o → MRep K ci ρ (mu F ρ S) H p o
  gs : Γ.length = σ.length
  gl : ∀ (i : Nat) (a : A), Γ[i]? = some (some a) → ∃ v, σ[i]? = some (some v) ∧ ARep K ci ρ (mu F ρ S) H a v
  tl : ∀ q ∈ T, ARep K ci ρ (mu F ρ S) H q.1 q.2
  ext : ∀ a o, F.H a = some o → a ∉ F.M → H a = some o
  fr : ∀ p ∈ mutA ρ S, p ∈ F.M ∨ F.H p = none
  fo : ∀ p ∈ F.ex, p ∉ F.M ∧ F.H p ≠ none
def Rel {K : PySem.W.Frag} {ci : Ci} (F : Fr K ci) (T : List (A × V)) (Γ : Ga) (S : So) (σ : L2.St) (H : Hp) : Prop := ∃ ρ, RelR F ρ T Γ S σ H
section
variable {K : PySem.W.Frag} {ci : Ci} {F : Fr K ci} {ρ : List Addr} {T : List (A × V)} {Γ : Ga} {S : So} {σ : L2.St} {H H' : Hp} {p : Addr} {o : HO}
theorem RelR.dj (r : RelR F ρ T Γ S σ H) {p : Addr} (h : p ∈ mutA ρ S) : p ∉ F.ex := fun z => by
  rcases r.fr p h with q | q
  · exact (r.fo p z).1 q
  · exact (r.fo p z).2 q
theorem RelR.tracked (r : RelR F ρ T Γ S σ H) {p : Addr} (h : p ∈ mutA ρ S) : ∃ u, H p = some u ∧ True := by
  obtain ⟨k, o, e1, e2, e3⟩ := mem_mutA h
  exact (r.st k p o e1 e2).there e3
theorem RelR.freshM (r : RelR F ρ T Γ S σ H) {p : Addr} (h : H p = none) : p ∉ mutA ρ S := fun hm => by
  obtain ⟨u, e, _⟩ := r.tracked hm
  rw [h] at e; cases e
theorem RelR.fresh (r : RelR F ρ T Γ S σ H) {p : Addr} (h : H p = none) : p ∉ mu F ρ S := fun hm => by
  rcases List.mem_append.mp hm with hm | hm
  · exact r.freshM h hm
  · have := r.fo p hm
    cases e : F.H p with
    | none => exact this.2 e
    | some u => rw [r.ext p u e this.1] at h; cases h
/-- all that the relation says, from one store and heap to another -/
theorem RelR.move (r : RelR F ρ T Γ S σ H) {ρ' : List Addr} {S' : So} (hρ : ρ <+: ρ') (h1 : ρ'.length = S'.length) (h2 : (mutA ρ' S').Nodup)
    (h : ∀ a o, H a = some o → a ∉ mu F ρ S → H' a = some o ∧ a ∉ mu F ρ' S')
    (h3 : ∀ (k : Nat) (p : Addr) (o : MO), ρ'[k]? = some p → S'[k]? = some o → MRep K ci ρ' (mu F ρ' S') H' p o)
    (h4 : ∀ a o, F.H a = some o → a ∉ F.M → H' a = some o) (h5 : ∀ p ∈ mutA ρ' S', p ∈ F.M ∨ F.H p = none) : RelR F ρ' T Γ S' σ H' where
  pre := r.pre.trans hρ
  len := h1
  nd := h2
  st := h3
  gs := r.gs
  gl := fun i a e => by
    obtain ⟨v, e1, e2⟩ := r.gl i a e
    exact ⟨v, e1, e2.mono h hρ⟩
  tl := fun q hq => (r.tl q hq).mono h hρ
  ext := h4
  fr := h5
  fo := r.fo
/-- a new thing that never changes -/
theorem RelR.alloc (r : RelR F ρ T Γ S σ H) (hp : H p = none) : RelR F ρ T Γ S σ (upd H p o) := by
  have hm := r.freshM hp
  have hh : ∀ a u, H a = some u → a ∉ mu F ρ S → (upd H p o) a = some u ∧ a ∉ mu F ρ S := fun a u e n => ⟨by rw [upd_ne (ne_of_none e hp)]; exact e, n⟩
  refine r.move (List.prefix_refl _) r.len r.nd hh (fun k q u e1 e2 => (r.st k q u e1 e2).mono hh (List.prefix_refl _) fun hl => ?_) (fun a u e n => ?_) r.fr
  · rw [upd_ne]
    intro z; subst z
    exact hm (mutA_mem e1 e2 hl)
  · rw [upd_ne (ne_of_none (r.ext a u e n) hp)]
    exact r.ext a u e n
theorem RelR.back (r : RelR F ρ T Γ S σ H) (hp : H p = none) : p ∉ F.M → F.H p = none := fun n => by
  cases e : F.H p with
  | none => rfl
  | some u => rw [r.ext p u e n] at hp; cases hp
theorem mu_app {p : Addr} {mo : MO} (h : ρ.length = S.length) (hl : mo.live = true) {a : Addr} : a ∈ mu F (ρ ++ [p]) (S ++ [mo]) ↔ a ∈ mu F ρ S ∨ a = p := by
  show a ∈ mutA (ρ ++ [p]) (S ++ [mo]) ++ F.ex ↔ a ∈ mutA ρ S ++ F.ex ∨ a = p
  rw [mutA_append h, if_pos hl]
  simp only [List.mem_append, List.mem_cons, List.not_mem_nil, or_false]
  constructor
  · rintro ((h | h) | h)
    · exact .inl (.inl h)
    · exact .inr h
    · exact .inl (.inr h)
  · rintro ((h | h) | h)
    · exact .inl (.inl h)
    · exact .inr h
    · exact .inl (.inr h)
/-- a new thing that may change -/
theorem RelR.allocM (r : RelR F ρ T Γ S σ H) (hp : H p = none) {mo : MO} (hl : mo.live = true)
    (hm : MRep K ci (ρ ++ [p]) (mu F (ρ ++ [p]) (S ++ [mo])) (upd H p o) p mo) : RelR F (ρ ++ [p]) T Γ (S ++ [mo]) σ (upd H p o) := by
  have hf := r.freshM hp
  have em : mutA (ρ ++ [p]) (S ++ [mo]) = mutA ρ S ++ [p] := by rw [mutA_append r.len, if_pos hl]
  have hh : ∀ a u, H a = some u → a ∉ mu F ρ S → (upd H p o) a = some u ∧ a ∉ mu F (ρ ++ [p]) (S ++ [mo]) := fun a u e n => by
    have ne : a ≠ p := ne_of_none e hp
    refine ⟨by rw [upd_ne ne]; exact e, fun z => ?_⟩
    rcases (mu_app (F := F) r.len hl).mp z with z | z
    · exact n z
    · exact ne z
  refine r.move (List.prefix_append _ _) (by simp [r.len]) ?_ hh (fun k q u e1 e2 => ?_) (fun a u e n => ?_) fun q hq => ?_
  · rw [em]
    refine List.nodup_append.mpr ⟨r.nd, by simp, fun a ha b hb => ?_⟩
    simp at hb; subst hb
    intro z; subst z; exact hf ha
  · by_cases hk : k < S.length
    · rw [List.getElem?_append_left (by rw [r.len]; exact hk)] at e1
      rw [List.getElem?_append_left hk] at e2
      refine (r.st k q u e1 e2).mono hh (List.prefix_append _ _) fun hl => ?_
      rw [upd_ne]
      intro z; subst z
      exact hf (mutA_mem e1 e2 hl)
    · have hk2 : k = S.length := by
        have := (List.getElem?_eq_some_iff.mp e2).1
        simp at this
        omega
      subst hk2
      rw [← r.len] at e1
      simp at e1 e2
      subst e1 e2
      exact hm
  · rw [upd_ne (ne_of_none (r.ext a u e n) hp)]
    exact r.ext a u e n
  · rw [em] at hq
    rcases List.mem_append.mp hq with hq | hq
    · exact r.fr q hq
    · simp at hq; subst hq
      by_cases hM : q ∈ F.M
      · exact .inl hM
      · exact .inr (r.back hp hM)
theorem nodup_places : ∀ {ρ : List Addr} {S : So} {p : Addr} {i j : Nat} {o u : MO}, (mutA ρ S).Nodup → ρ[i]? = some p → S[i]? = some o → o.live = true → ρ[j]? = some p → S[j]? = some u → u.live = true → i = j := by
  intro ρ
  induction ρ with
  | nil => intro S p i j o u _ e; simp at e
  | cons q ρ ih =>
    intro S p i j o u nd e1 e2 h1 e3 e4 h2
    cases S with
    | nil => simp at e2
    | cons a S =>
      cases i with
      | zero =>
        cases j with
        | zero => rfl
        | succ j =>
          simp at e1 e2; subst e1 e2
          simp only [mutA, h1, ↓reduceIte] at nd
          exact absurd (mutA_mem (by simpa using e3) (by simpa using e4) h2) (List.nodup_cons.mp nd).1
      | succ i =>
        cases j with
        | zero =>
          simp at e3 e4; subst e3 e4
          simp only [mutA, h2, ↓reduceIte] at nd
          exact absurd (mutA_mem (by simpa using e1) (by simpa using e2) h1) (List.nodup_cons.mp nd).1
        | succ j =>
          have nd' : (mutA ρ S).Nodup := by
            simp only [mutA] at nd
            split at nd
            · exact (List.nodup_cons.mp nd).2
            · exact nd
          rw [ih (S := S) (i := i) (j := j) (p := p) (o := o) (u := u) nd' (by simpa using e1) (by simpa using e2) h1 (by simpa using e3) (by simpa using e4) h2]
/-- a thing changes -/
theorem RelR.write (r : RelR F ρ T Γ S σ H) {k : Nat} {mo mo' : MO} (e1 : ρ[k]? = some p) (e2 : S[k]? = some mo) (hl : mo.live = true) (hl' : mo'.live = true)
    (hm : MRep K ci ρ (mu F ρ S) (upd H p o) p mo') : RelR F ρ T Γ (S.set k mo') σ (upd H p o) := by
  have em : mutA ρ (S.set k mo') = mutA ρ S := mutA_set_same e2 (by rw [hl, hl'])
  have em2 : mu F ρ (S.set k mo') = mu F ρ S := by show mutA _ _ ++ F.ex = mutA _ _ ++ F.ex; rw [em]
  have hp := mutA_mem e1 e2 hl
  have hpm : p ∈ mu F ρ S := List.mem_append_left _ hp
  have hh : ∀ a u, H a = some u → a ∉ mu F ρ S → (upd H p o) a = some u ∧ a ∉ mu F ρ (S.set k mo') := fun a u e n => by
    rw [em2]
    refine ⟨?_, n⟩
    rw [upd_ne]
    · exact e
    · intro z; subst z; exact n hpm
  refine r.move (List.prefix_refl _) (by simp [r.len]) (by rw [em]; exact r.nd) hh (fun j q u q1 q2 => ?_) (fun a u e n => ?_) (by rw [em]; exact r.fr)
  · by_cases hj : j = k
    · subst hj
      rw [e1] at q1; cases q1
      rw [List.getElem?_set_self (List.getElem?_eq_some_iff.mp e2).1] at q2
      cases q2
      rw [em2]
      exact hm
    · rw [List.getElem?_set_ne (fun z => hj z.symm)] at q2
      refine (r.st j q u q1 q2).mono hh (List.prefix_refl _) fun hlu => ?_
      rw [upd_ne]
      intro z; subst z
      exact hj (nodup_places r.nd q1 q2 hlu e1 e2 hl)
  · rw [upd_ne]
    · exact r.ext a u e n
    · intro z; subst z
      rcases r.fr _ hp with h | h
      · exact n h
      · rw [h] at e; cases e
/-- a thing that will not change any more -/
theorem RelR.freeze (r : RelR F ρ T Γ S σ H) {k : Nat} {mo : MO} {d : D} (e1 : ρ[k]? = some p) (e2 : S[k]? = some mo) (hl : mo.live = true)
    (hm : ∀ M', (∀ a o, H a = some o → a ∉ mu F ρ S → H a = some o ∧ a ∉ M') → p ∉ M' → Rep K ci M' H d (.ref p)) : RelR F ρ T Γ (S.set k (.frz d)) σ H ∧ Rep K ci (mu F ρ (S.set k (.frz d))) H d (.ref p) := by
  have hs := mutA_set_sub (ρ := ρ) (S := S) (k := k) (o' := .frz d) rfl
  have hh : ∀ a u, H a = some u → a ∉ mu F ρ S → H a = some u ∧ a ∉ mu F ρ (S.set k (.frz d)) := fun a u e n => ⟨e, fun z => n (by
    rcases List.mem_append.mp z with z | z
    · exact List.mem_append_left _ (hs.subset z)
    · exact List.mem_append_right _ z)⟩
  have hd := hm (mu F ρ (S.set k (.frz d))) hh (fun z => by
    rcases List.mem_append.mp z with z | z
    · exact mutA_set_gone r.nd e1 rfl ⟨mo, e2, hl⟩ z
    · exact r.dj (mutA_mem e1 e2 hl) z)
  refine ⟨r.move (List.prefix_refl _) (by simp [r.len]) (hs.nodup r.nd) hh (fun j q u q1 q2 => ?_) r.ext fun q hq => r.fr q (hs.subset hq), hd⟩
  by_cases hj : j = k
  · subst hj
    rw [e1] at q1; cases q1
    rw [List.getElem?_set_self (List.getElem?_eq_some_iff.mp e2).1] at q2
    cases q2
    exact hd
  · rw [List.getElem?_set_ne (fun z => hj z.symm)] at q2
    exact (r.st j q u q1 q2).mono hh (List.prefix_refl _) fun _ => rfl
theorem RelR.push (r : RelR F ρ T Γ S σ H) {a : A} {v : V} (h : ARep K ci ρ (mu F ρ S) H a v) : RelR F ρ ((a, v) :: T) Γ S σ H := by
  have tl : ∀ q ∈ (a, v) :: T, ARep K ci ρ (mu F ρ S) H q.1 q.2 := fun q hq => by
    rcases List.mem_cons.mp hq with rfl | hq
    · exact h
    · exact r.tl q hq
  exact ⟨r.pre, r.len, r.nd, r.st, r.gs, r.gl, tl, r.ext, r.fr, r.fo⟩
theorem RelR.drop (r : RelR F ρ T Γ S σ H) {T' : List (A × V)} (h : ∀ q ∈ T', q ∈ T) : RelR F ρ T' Γ S σ H := { r with tl := fun q hq => r.tl q (h q hq) }
theorem RelR.top (r : RelR F ρ T Γ S σ H) {a : A} {v : V} (h : (a, v) ∈ T) : ARep K ci ρ (mu F ρ S) H a v := r.tl _ h
/-- a slot is set -/
theorem RelR.put (r : RelR F ρ T Γ S σ H) {a : A} {v : V} (i : Nat) (h : ARep K ci ρ (mu F ρ S) H a v) : RelR F ρ T (Γ.set i (some a)) S (σ.set i (some v)) H := by
  have gl : ∀ (j : Nat) (b : A), (Γ.set i (some a))[j]? = some (some b) → ∃ u, (σ.set i (some v))[j]? = some (some u) ∧ ARep K ci ρ (mu F ρ S) H b u := fun j b e => by
    by_cases hj : i = j
    · subst hj
      by_cases hi : i < Γ.length
      · rw [List.getElem?_set_self hi] at e
        cases e
        exact ⟨v, by rw [List.getElem?_set_self (by rw [← r.gs]; exact hi)], h⟩
      · rw [List.getElem?_eq_none (by simpa using hi)] at e; cases e
    · rw [List.getElem?_set_ne hj] at e
      obtain ⟨u, e1, e2⟩ := r.gl j b e
      exact ⟨u, by rw [List.getElem?_set_ne hj]; exact e1, e2⟩
  exact ⟨r.pre, r.len, r.nd, r.st, by simp [r.gs], gl, r.tl, r.ext, r.fr, r.fo⟩
/-- slots that nobody knows may be forgotten -/
theorem RelR.slots (r : RelR F ρ T Γ S σ H) {Γ' : Ga} {σ' : L2.St} (h1 : Γ'.length = σ'.length) (h2 : ∀ (i : Nat) (a : A), Γ'[i]? = some (some a) → ∃ v, σ'[i]? = some (some v) ∧ ARep K ci ρ (mu F ρ S) H a v) : RelR F ρ T Γ' S σ' H := ⟨r.pre, r.len, r.nd, r.st, h1, h2, r.tl, r.ext, r.fr, r.fo⟩
end
def wpX (X : Cx) (e : Expr) : TE := fun σ H Q => ∀ (pins : List (Addr × Obj)) (s : Shared), Inv X pins σ H s → wpAny (model X.prog X.w) X.A (eval e X.env) (EP X pins σ Q) X.xe s
def wpT (X : Cx) (e : Expr) : TT := fun σ H Q => ∀ (pins : List (Addr × Obj)) (s : Shared), Inv X pins σ H s → wpAny (model X.prog X.w) X.A (isTrue e X.env (eval e X.env)) (TP X pins σ Q) X.xe s
def wpA (X : Cx) (es : List Expr) : TA := fun σ H Q => ∀ (pos : Pos) (pins : List (Addr × Obj)) (s : Shared), Inv X pins σ H s → wpAny (model X.prog X.w) X.A (spliced (backTo pos (starEach es X.env))) (AP X pins σ Q) X.xe s
def wpS (X : Cx) (st : Stmt) : TS := fun D σ H => ∀ (pins : List (Addr × Obj)) (s : Shared), Inv X pins σ H s → wpAny (model X.prog X.w) X.A (exec st X.env) (SP X pins D) X.xe s
def wpSs (X : Cx) (st : List Stmt) : TS := fun D σ H => ∀ (pins : List (Addr × Obj)) (s : Shared), Inv X pins σ H s → wpAny (model X.prog X.w) X.A (execs st X.env) (SP X pins D) X.xe s
section
variable {X : Cx} {e : Expr} {es : List Expr} {st : Stmt} {sts : List Stmt} {σ : L2.St} {H : Hp}
theorem pe_wp : PE X e (wpX X e) := ⟨fun pins s σ H Q I h => h pins s I⟩
theorem pt_wp : PT X e (wpT X e) := ⟨fun pins s σ H Q I h => h pins s I⟩
theorem pa_wp : PA X es (wpA X es) := ⟨fun pos pins s σ H Q I h => h pos pins s I⟩
theorem ps_wp : PS X st (wpS X st) := ⟨fun pins s σ H D I h => h pins s I⟩
theorem pss_wp : PSs X sts (wpSs X sts) := ⟨fun pins s σ H D I h => h pins s I⟩
theorem wpX_of {t : TE} (h : PE X e t) {Q : VK} (q : t σ H Q) : wpX X e σ H Q := fun pins s I => h.run pins s σ H Q I q
theorem wpT_of {t : TT} (h : PT X e t) {Q : Bool → Hp → Prop} (q : t σ H Q) : wpT X e σ H Q := fun pins s I => h.run pins s σ H Q I q
theorem wpA_of {t : TA} (h : PA X es t) {Q : List V → Hp → Prop} (q : t σ H Q) : wpA X es σ H Q := fun pos pins s I => h.run pos pins s σ H Q I q
theorem wpS_of {t : TS} (h : PS X st t) {D : Ends} (q : t D σ H) : wpS X st D σ H := fun pins s I => h.run pins s σ H D I q
theorem wpSs_of {t : TS} (h : PSs X sts t) {D : Ends} (q : t D σ H) : wpSs X sts D σ H := fun pins s I => h.run pins s σ H D I q
/-- with the invariant at hand: a list is short -/
theorem wpX_monoI {Q Q' : VK} (h : wpX X e σ H Q) (k : ∀ v H', (∀ a xs, SqL X.K H' a xs ∨ SqT X.K H' a xs → xs.length ≤ sizeLine) → Q v H' → Q' v H') : wpX X e σ H Q' := fun pins s I => thn (h pins s I) fun _ _ ⟨v, H', I', r, q⟩ => ⟨v, H', I', r, k v H' (fun a xs hs => by
  rcases hs with hs | hs
  · obtain ⟨_, _, _, h⟩ := I'.list hs; exact h
  · obtain ⟨_, _, _, h⟩ := I'.tuple hs; exact h) q⟩
theorem wpX_mono {Q Q' : VK} (h : wpX X e σ H Q) (k : ∀ v H', Q v H' → Q' v H') : wpX X e σ H Q' := fun pins s I => thn (h pins s I) fun _ _ ⟨v, H', I', r, q⟩ => ⟨v, H', I', r, k v H' q⟩
theorem wpT_mono {Q Q' : Bool → Hp → Prop} (h : wpT X e σ H Q) (k : ∀ b H', Q b H' → Q' b H') : wpT X e σ H Q' := fun pins s I => thn (h pins s I) fun _ _ ⟨H', I', q⟩ => ⟨H', I', k _ H' q⟩
theorem wpA_mono {Q Q' : List V → Hp → Prop} (h : wpA X es σ H Q) (k : ∀ v H', Q v H' → Q' v H') : wpA X es σ H Q' := fun pos pins s I => thn (h pos pins s I) fun _ _ ⟨v, H', I', r, q⟩ => ⟨v, H', I', r, k v H' q⟩
end
section
variable {K : PySem.W.Frag} {ci : Ci} {F : Fr K ci} {ρ : List Addr} {T : List (A × V)} {Γ : Ga} {S : So} {σ : L2.St} {H H' : Hp}
/-- from here on -/
def Fr.here (F : Fr K ci) (H : Hp) (ρ : List Addr) (S : So) : Fr K ci := ⟨H, ρ, mutA ρ S, F.ex⟩
theorem RelR.exT (r : RelR F ρ T Γ S σ H) {p : Addr} (h : p ∈ F.ex) : p ∉ mutA ρ S ∧ H p ≠ none := by
  refine ⟨fun z => r.dj z h, fun z => ?_⟩
  have := r.fo p h
  cases e : F.H p with
  | none => exact this.2 e
  | some u => rw [r.ext p u e this.1] at z; cases z
theorem RelR.here (r : RelR F ρ T Γ S σ H) : RelR (F.here H ρ S) ρ T Γ S σ H :=
  ⟨List.prefix_refl _, r.len, r.nd, r.st, r.gs, r.gl, r.tl, fun a o e _ => e, fun p hp => .inl hp, fun p hp => r.exT hp⟩
theorem RelR.there {ρ' : List Addr} {T' : List (A × V)} {Γ' : Ga} {S' : So} {σ' : L2.St} (r : RelR F ρ T Γ S σ H) (q : RelR (F.here H ρ S) ρ' T' Γ' S' σ' H') : RelR F ρ' T' Γ' S' σ' H' := by
  refine ⟨r.pre.trans q.pre, q.len, q.nd, q.st, q.gs, q.gl, q.tl, fun a o e n => ?_, fun p hp => ?_, r.fo⟩
  · refine q.ext a o (r.ext a o e n) fun hm => ?_
    rcases r.fr a hm with h | h
    · exact n h
    · rw [h] at e; cases e
  · rcases q.fr p hp with h | h
    · exact r.fr p h
    · by_cases hM : p ∈ F.M
      · exact .inl hM
      · exact .inr (r.back h hM)
/-- .. where something of ours is a thing of others: L -/
def Fr.hide (F : Fr K ci) (H : Hp) (ρ : List Addr) (S : So) (L : Addr) : Fr K ci := ⟨H, ρ, mutA ρ S, L :: F.ex⟩
theorem RelR.hideIn (r : RelR F ρ T Γ S σ H) {p : Addr} {o : HO} (hp : H p = none) : RelR (F.hide (upd H p o) ρ S p) ρ T Γ S σ (upd H p o) := by
  have hh : ∀ a u, H a = some u → a ∉ mu F ρ S → (upd H p o) a = some u ∧ a ∉ mu (F.hide (upd H p o) ρ S p) ρ S := fun a u e n => by
    have ne : a ≠ p := ne_of_none e hp
    refine ⟨by rw [upd_ne ne]; exact e, fun z => ?_⟩
    rcases List.mem_append.mp z with z | z
    · exact n (List.mem_append_left _ z)
    · rcases List.mem_cons.mp z with z | z
      · exact ne z
      · exact n (List.mem_append_right _ z)
  refine ⟨List.prefix_refl _, r.len, r.nd, fun k q u e1 e2 => (r.st k q u e1 e2).mono hh (List.prefix_refl _) fun hl => ?_, r.gs, fun i a e => ?_, fun q hq => (r.tl q hq).mono hh (List.prefix_refl _), fun a u e _ => e, fun q hq => .inl hq, fun q hq => ?_⟩
  · rw [upd_ne]
    intro z; subst z
    exact r.freshM hp (mutA_mem e1 e2 hl)
  · obtain ⟨v, e1, h⟩ := r.gl i a e
    exact ⟨v, e1, h.mono hh (List.prefix_refl _)⟩
  · rcases List.mem_cons.mp hq with rfl | hq
    · exact ⟨r.freshM hp, by show upd H q o q ≠ none; rw [upd_same]; intro z; cases z⟩
    · refine ⟨(r.exT hq).1, ?_⟩
      show upd H p o q ≠ none
      by_cases hqp : q = p
      · subst hqp; rw [upd_same]; intro z; cases z
      · rw [upd_ne hqp]; exact (r.exT hq).2
/-- a heap without p -/
def less (H : Hp) (p : Addr) : Hp := fun b => if b = p then none else H b
theorem less_same {p : Addr} : less H p p = none := by unfold less; rw [if_pos rfl]
theorem less_ne {p b : Addr} (h : b ≠ p) : less H p b = H b := by unfold less; rw [if_neg h]
theorem upd_less {p : Addr} {o : HO} : upd H p o = upd (less H p) p o := by
  funext b
  by_cases h : b = p
  · subst h; rw [upd_same, upd_same]
  · rw [upd_ne h, upd_ne h, less_ne h]
theorem RelR.hideOut (r : RelR F ρ T Γ S σ H) {p : Addr} {o : HO} (hp : H p = none) {ρ' : List Addr} {T' : List (A × V)} {Γ' : Ga} {S' : So} {σ' : L2.St} (q : RelR (F.hide (upd H p o) ρ S p) ρ' T' Γ' S' σ' H') :
    H' p = some o ∧ RelR F ρ' T' Γ' S' σ' (less H' p) := by
  have hm := r.freshM hp
  refine ⟨q.ext p o (by show upd H p o p = some o; exact upd_same) hm, ?_⟩
  have hpe : p ∈ (F.hide (upd H p o) ρ S p).ex := List.mem_cons_self
  have hh : ∀ a u, H' a = some u → a ∉ mu (F.hide (upd H p o) ρ S p) ρ' S' → less H' p a = some u ∧ a ∉ mu F ρ' S' := fun a u e n => by
    have ne : a ≠ p := fun z => n (List.mem_append_right _ (by rw [z]; exact hpe))
    refine ⟨by rw [less_ne ne]; exact e, fun z => n ?_⟩
    rcases List.mem_append.mp z with z | z
    · exact List.mem_append_left _ z
    · exact List.mem_append_right _ (List.mem_cons_of_mem _ z)
  refine ⟨r.pre.trans q.pre, q.len, q.nd, fun k b u e1 e2 => (q.st k b u e1 e2).mono hh (List.prefix_refl _) fun hl => ?_, q.gs, fun i a e => ?_, fun b hb => (q.tl b hb).mono hh (List.prefix_refl _), fun a u e n => ?_, fun b hb => ?_, r.fo⟩
  · rw [less_ne]
    intro z; subst z
    exact q.dj (mutA_mem e1 e2 hl) hpe
  · obtain ⟨v, e1, h⟩ := q.gl i a e
    exact ⟨v, e1, h.mono hh (List.prefix_refl _)⟩
  · have e1 := r.ext a u e n
    have ne : a ≠ p := ne_of_none e1 hp
    rw [less_ne ne]
    refine q.ext a u (by show upd H p o a = some u; rw [upd_ne ne]; exact e1) fun hmm => ?_
    rcases r.fr a hmm with h | h
    · exact n h
    · rw [h] at e; cases e
  · rcases q.fr b hb with h | h
    · exact r.fr b h
    · by_cases hM : b ∈ F.M
      · exact .inl hM
      · refine .inr (r.back ?_ hM)
        have h' : upd H p o b = none := h
        by_cases hb2 : b = p
        · subst hb2; exact hp
        · rw [upd_ne hb2] at h'; exact h'
/-- what the slots hold, as temporaries -/
theorem RelR.keep (r : RelR F ρ T Γ S σ H) : ∃ U : List (A × V), (∀ (i : Nat) (a : A), Γ[i]? = some (some a) → ∃ v, σ[i]? = some (some v) ∧ (a, v) ∈ U) ∧ RelR F ρ (U ++ T) Γ S σ H := by
  refine ⟨(Γ.zip σ).filterMap fun p => match p with | (some a, some v) => some (a, v) | _ => none, fun i a e => ?_, { r with tl := fun q hq => ?_ }⟩
  · obtain ⟨v, e1, _⟩ := r.gl i a e
    refine ⟨v, e1, List.mem_filterMap.mpr ⟨(some a, some v), ?_, rfl⟩⟩
    exact List.mem_of_getElem? (i := i) (by rw [List.getElem?_zip_eq_some]; exact ⟨e, e1⟩)
  · rcases List.mem_append.mp hq with hq | hq
    · obtain ⟨p, hp, e⟩ := List.mem_filterMap.mp hq
      obtain ⟨i, hi⟩ := List.mem_iff_getElem?.mp hp
      split at e
      · rename_i a v
        cases e
        rw [List.getElem?_zip_eq_some] at hi
        obtain ⟨w, e1, h⟩ := r.gl i a hi.1
        have e2 : σ[i]? = some (some v) := hi.2
        rw [e2] at e1
        cases e1
        exact h
      · cases e
    · exact r.tl q hq
def wipeG (Γ : Ga) : List Nat → Ga
  | [] => Γ
  | v :: vs => (wipeG Γ vs).set v none
theorem RelR.wipe (r : RelR F ρ T Γ S σ H) : ∀ vs : List Nat, RelR F ρ T (wipeG Γ vs) S (wipe σ vs) H
  | [] => r
  | v :: vs => by
    have q := RelR.wipe r vs
    refine q.slots (by rw [wipeG, L2.wipe, List.length_set, List.length_set, q.gs]) fun i a e => ?_
    rw [wipeG] at e
    by_cases hi : v = i
    · subst hi
      by_cases hl : v < (wipeG Γ vs).length
      · rw [List.getElem?_set_self hl] at e; cases e
      · rw [List.getElem?_eq_none (by simpa using hl)] at e; cases e
    · rw [List.getElem?_set_ne hi] at e
      obtain ⟨u, e1, h⟩ := q.gl i a e
      exact ⟨u, by rw [L2.wipe, List.getElem?_set_ne hi]; exact e1, h⟩
theorem wipe_set {σ : L2.St} {v : Option V} {i : Nat} : ∀ {vs : List Nat}, i ∈ vs → L2.wipe (σ.set i v) vs = L2.wipe σ vs
  | [], h => by cases h
  | w :: vs, h => by
    rw [L2.wipe, L2.wipe]
    by_cases hw : i ∈ vs
    · rw [wipe_set hw]
    · have : i = w := by
        rcases List.mem_cons.mp h with h | h
        · exact h
        · exact absurd h hw
      subst this
      have e : ∀ vs : List Nat, i ∉ vs → L2.wipe (σ.set i v) vs = (L2.wipe σ vs).set i v := by
        intro vs
        induction vs with
        | nil => intro _; rfl
        | cons u us ih =>
          intro hn
          rw [L2.wipe, L2.wipe, ih (fun z => hn (List.mem_cons_of_mem _ z)), List.set_comm _ _ (fun z => hn (by rw [z]; exact List.mem_cons_self))]
      rw [e vs hw, List.set_set]
theorem wipe_idem {σ : L2.St} : ∀ vs ws : List Nat, (∀ v ∈ ws, v ∈ vs) → L2.wipe (L2.wipe σ ws) vs = L2.wipe σ vs
  | vs, [], _ => rfl
  | vs, w :: ws, h => by
    rw [show L2.wipe σ (w :: ws) = (L2.wipe σ ws).set w none from rfl, wipe_set (h w List.mem_cons_self), wipe_idem vs ws fun v hv => h v (List.mem_cons_of_mem _ hv)]
end
end LP
namespace LP
open PySem PySem.Spec PyProof.Rows L2
section
variable {K : PySem.W.Frag} {ci : Ci} {F : Fr K ci} {T : List (A × V)} {Γ : Ga} {S : So} {σ : L2.St} {H : Hp}
theorem Rel.drop {T' : List (A × V)} (r : Rel F T Γ S σ H) (h : ∀ q ∈ T', q ∈ T) : Rel F T' Γ S σ H := let ⟨ρ, r⟩ := r; ⟨ρ, r.drop h⟩
theorem Rel.tail {q : A × V} (r : Rel F (q :: T) Γ S σ H) : Rel F T Γ S σ H := r.drop fun x hx => List.mem_cons_of_mem _ hx
theorem Rel.alloc {p : Addr} {o : HO} (r : Rel F T Γ S σ H) (hp : H p = none) : Rel F T Γ S σ (upd H p o) := let ⟨ρ, r⟩ := r; ⟨ρ, r.alloc hp⟩
theorem Rel.pushS (r : Rel F T Γ S σ H) {d : D} {v : V} (h : ∀ M, Rep K ci M H d v) : Rel F ((.d d, v) :: T) Γ S σ H := let ⟨ρ, r⟩ := r; ⟨ρ, r.push (h _)⟩
theorem Rel.int (r : Rel F T Γ S σ H) (i : Int) : Rel F ((.d (.int i), .int i) :: T) Γ S σ H := r.pushS fun M => by rw [Rep]
theorem Rel.str (r : Rel F T Γ S σ H) (s : Str) : Rel F ((.d (.str s), .str s) :: T) Γ S σ H := r.pushS fun M => by rw [Rep]
theorem Rel.bl (r : Rel F T Γ S σ H) (b : Bool) : Rel F ((.d (.bl b), .bl b) :: T) Γ S σ H := r.pushS fun M => by rw [Rep]
theorem Rel.non (r : Rel F T Γ S σ H) : Rel F ((.d .non, .non) :: T) Γ S σ H := r.pushS fun M => by rw [Rep]
theorem Rel.asInt (r : Rel F T Γ S σ H) {i : Int} {v : V} (h : (A.d (.int i), v) ∈ T) : v = .int i := by
  obtain ⟨ρ, r⟩ := r; have := r.top h; rw [ARep, Rep] at this; exact this
theorem Rel.asStr (r : Rel F T Γ S σ H) {i : Str} {v : V} (h : (A.d (.str i), v) ∈ T) : v = .str i := by
  obtain ⟨ρ, r⟩ := r; have := r.top h; rw [ARep, Rep] at this; exact this
theorem Rel.asBl (r : Rel F T Γ S σ H) {i : Bool} {v : V} (h : (A.d (.bl i), v) ∈ T) : v = .bl i := by
  obtain ⟨ρ, r⟩ := r; have := r.top h; rw [ARep, Rep] at this; exact this
theorem Rel.asNon (r : Rel F T Γ S σ H) {v : V} (h : (A.d .non, v) ∈ T) : v = .non := by
  obtain ⟨ρ, r⟩ := r; have := r.top h; rw [ARep, Rep] at this; exact this
end
def A.toD : A → Option D
  | .d x => some x
  | .loc _ => none
def dataOf : List A → Option (List D)
  | [] => some []
  | .d x :: r => (dataOf r).map (x :: ·)
  | .loc _ :: _ => none
theorem dataOf_eq : ∀ {as : List A} {l : List D}, dataOf as = some l → as = l.map A.d
  | [], l, h => by cases h; rfl
  | .d x :: r, l, h => by
    rw [dataOf] at h
    cases e : dataOf r with
    | none => rw [e] at h; cases h
    | some m => rw [e] at h; cases h; rw [List.map_cons, dataOf_eq e]
  | .loc _ :: _, l, h => by cases h
def viewL (S : So) : A → Option (List D)
  | .d (.lst l) => some l
  | .loc k => match S[k]? with
    | some (.lst as) => dataOf as
    | some (.frz (.lst l)) => some l
    | some (.scr l) => some l
    | _ => none
  | _ => none
def viewT : A → Option (List D)
  | .d (.tup l) => some l
  | _ => none
def viewQ (S : So) (a : A) : Option (List D) := match a with
  | .d (.tup l) => some l
  | a => viewL S a
section
variable {K : PySem.W.Frag} {ci : Ci} {F : Fr K ci} {ρ : List Addr} {T : List (A × V)} {Γ : Ga} {S : So} {σ : L2.St} {H : Hp} {a : A} {v : V} {l : List D}
theorem sq_rd {K : PySem.W.Frag} {M : List Addr} {p : Addr} {vs : List V} (h : H p = some (.lst vs) ∧ p ∉ M) : SqL K H p vs := .inl (.inl h.1)
theorem st_rd {K : PySem.W.Frag} {M : List Addr} {p : Addr} {vs : List V} (h : (Rd H p (.tup vs) ∧ p ∉ M) ∨ Tw K p vs) : SqT K H p vs := h.elim (fun h => .inl h.1) .inr
theorem RelR.viewL (r : RelR F ρ T Γ S σ H) (h : ARep K ci ρ (mu F ρ S) H a v) (e : viewL S a = some l) : ∃ p vs, v = .ref p ∧ SqL K H p vs ∧ Reps K ci (mu F ρ S) H l vs := by
  unfold LP.viewL at e
  split at e
  · cases e
    rw [ARep, Rep] at h
    obtain ⟨p, vs, e1, q, rs⟩ := h
    exact ⟨p, vs, e1, sq_rd q, rs⟩
  · rename_i k
    obtain ⟨p, hp, rfl⟩ := h
    split at e
    · rename_i as hs
      obtain ⟨vs, e1, q⟩ := r.st k p _ hp hs
      rw [dataOf_eq e] at q
      exact ⟨p, vs, rfl, SqL.of e1, q.data⟩
    · rename_i l' hs
      cases e
      have := r.st k p _ hp hs
      rw [MRep, Rep] at this
      obtain ⟨p', vs, e1, q, rs⟩ := this
      cases e1
      exact ⟨p, vs, rfl, sq_rd q, rs⟩
    · rename_i l' hs
      cases e
      obtain ⟨vs, q, rs⟩ := r.st k p _ hp hs
      exact ⟨p, vs, rfl, sql_iff.mpr (q.imp And.left id), rs⟩
    · cases e
  · cases e
theorem RelR.viewT (h : ARep K ci ρ (mu F ρ S) H a v) (e : viewT a = some l) : ∃ p vs, v = .ref p ∧ SqT K H p vs ∧ Reps K ci (mu F ρ S) H l vs := by
  unfold LP.viewT at e
  split at e
  · cases e
    rw [ARep, Rep] at h
    obtain ⟨p, vs, e1, q, rs⟩ := h
    exact ⟨p, vs, e1, st_rd q, rs⟩
  · cases e
theorem RelR.viewQ (r : RelR F ρ T Γ S σ H) (h : ARep K ci ρ (mu F ρ S) H a v) (e : viewQ S a = some l) : ∃ p vs, v = .ref p ∧ (SqL K H p vs ∨ SqT K H p vs) ∧ Reps K ci (mu F ρ S) H l vs := by
  unfold LP.viewQ at e
  split at e
  · cases e
    obtain ⟨p, vs, e1, q, rs⟩ := RelR.viewT (a := .d (.tup _)) h rfl
    exact ⟨p, vs, e1, .inr q, rs⟩
  · obtain ⟨p, vs, e1, q, rs⟩ := r.viewL h e
    exact ⟨p, vs, e1, .inl q, rs⟩
theorem RelR.newL (r : RelR F ρ T Γ S σ H) {p : Addr} {vs : List V} {ds : List D} (hp : H p = none) (q : Reps K ci (mu F ρ S) H ds vs) : RelR F ρ ((.d (.lst ds), .ref p) :: T) Γ S σ (upd H p (.lst vs)) := by
  refine (r.alloc hp).push ?_
  rw [ARep, Rep]
  refine ⟨p, vs, rfl, ⟨upd_same, r.fresh hp⟩, q.mono (fun a o e n => ⟨?_, n⟩)⟩
  rw [upd_ne (ne_of_none e hp)]
  exact e
theorem RelR.newT (r : RelR F ρ T Γ S σ H) {p : Addr} {vs : List V} {ds : List D} (hp : H p = none) (q : Reps K ci (mu F ρ S) H ds vs) : RelR F ρ ((.d (.tup ds), .ref p) :: T) Γ S σ (upd H p (.tup vs)) := by
  refine (r.alloc hp).push ?_
  rw [ARep, Rep]
  refine ⟨p, vs, rfl, .inl ⟨.inl upd_same, r.fresh hp⟩, q.mono (fun a o e n => ⟨?_, n⟩)⟩
  rw [upd_ne (ne_of_none e hp)]
  exact e
end
abbrev QF := Ga → So → Option A
def RP (ci : Ci) (X : Cx) (e : Expr) (f : QF) : Prop := ∀ (F : Fr X.K ci) T Γ S σ H a, Rel F T Γ S σ H → f Γ S = some a → wpX X e σ H (fun v H' => Rel F ((a, v) :: T) Γ S σ H')
abbrev QFs := Ga → So → Option (List A)
def RPs (ci : Ci) (X : Cx) (es : List Expr) (f : QFs) : Prop := (∀ Γ S as, f Γ S = some as → as.length = es.length) ∧ ∀ (F : Fr X.K ci) T Γ S σ H as, Rel F T Γ S σ H → f Γ S = some as → wpA X es σ H (fun vs H' => as.length = vs.length ∧ Rel F ((as.zip vs) ++ T) Γ S σ H')
abbrev QB := Ga → So → Option Bool
def RB (ci : Ci) (X : Cx) (e : Expr) (f : QB) : Prop := ∀ (F : Fr X.K ci) T Γ S σ H b, Rel F T Γ S σ H → f Γ S = some b → wpT X e σ H (fun c H' => c = b ∧ Rel F T Γ S σ H')
def OpG (ci : Ci) (X : Cx) (fv : Value → Value → Sem Value) (g : So → A → A → Option D) : Prop :=
  ∃ r, OpR X fv r ∧ ∀ (F : Fr X.K ci) T Γ S σ H x y a b d, Rel F T Γ S σ H → (a, x) ∈ T → (b, y) ∈ T → g S a b = some d → ∀ Q : VK, (∀ v H', Rel F ((.d d, v) :: T) Γ S σ H' → Q v H') → r x y H Q
def CallG (ci : Ci) (X : Cx) (f : Value) (g : So → List A → Option D) : Prop :=
  ∃ r, CallR X f r ∧ ∀ (F : Fr X.K ci) T Γ S σ H as vs d, Rel F T Γ S σ H → as.length = vs.length → (∀ q ∈ as.zip vs, q ∈ T) → g S as = some d → ∀ Q : VK, (∀ v H', Rel F ((.d d, v) :: T) Γ S σ H' → Q v H') → r vs H Q
def fV (i : Nat) : QF := fun Γ _ => match Γ[i]? with | some (some a) => some a | _ => none
def fC (d : D) : QF := fun _ _ => some (.d d)
def fOp (g : So → A → A → Option D) (fa fb : QF) : QF := fun Γ S => (fa Γ S).bind fun x => (fb Γ S).bind fun y => (g S x y).map A.d
def fNil : QFs := fun _ _ => some []
def fCons (f : QF) (fs : QFs) : QFs := fun Γ S => (f Γ S).bind fun x => (fs Γ S).map (x :: ·)
def fCall (g : So → List A → Option D) (fs : QFs) : QF := fun Γ S => (fs Γ S).bind fun as => (g S as).map A.d
def fTup (fs : QFs) : QF := fun Γ S => (fs Γ S).bind fun as => (dataOf as).map fun l => .d (.tup l)
def fLst (fs : QFs) : QF := fun Γ S => (fs Γ S).bind fun as => (dataOf as).map fun l => .d (.lst l)
def fIf (b : QB) (f g : QF) : QF := fun Γ S => (b Γ S).bind fun c => if c = true then f Γ S else g Γ S
def bV (f : QF) : QB := fun Γ S => (f Γ S).bind fun a => match a with | .d (.bl b) => some b | _ => none
def bNot (f : QB) : QB := fun Γ S => (f Γ S).map (!·)
def bAnd (f g : QB) : QB := fun Γ S => (f Γ S).bind fun c => if c = true then g Γ S else some false
def bOr (f g : QB) : QB := fun Γ S => (f Γ S).bind fun c => if c = true then some true else g Γ S
theorem op_some {g : So → A → A → Option D} {fa fb : QF} {Γ : Ga} {S : So} {a : A} (h : fOp g fa fb Γ S = some a) : ∃ x y d, fa Γ S = some x ∧ fb Γ S = some y ∧ g S x y = some d ∧ a = .d d := by
  unfold fOp at h
  cases e1 : fa Γ S with
  | none => rw [e1] at h; cases h
  | some x =>
    cases e2 : fb Γ S with
    | none => rw [e1, e2] at h; cases h
    | some y =>
      rw [e1, e2] at h
      cases e3 : g S x y with
      | none => rw [Option.bind_some, Option.bind_some, e3] at h; cases h
      | some d => rw [Option.bind_some, Option.bind_some, e3] at h; cases h; exact ⟨x, y, d, rfl, rfl, e3, rfl⟩
section
variable {ci : Ci} {X : Cx}
theorem RP.imp {e : Expr} {f f' : QF} (h : RP ci X e f) (k : ∀ Γ S a, f' Γ S = some a → f Γ S = some a) : RP ci X e f' := fun F T Γ S σ H a r q => h F T Γ S σ H a r (k _ _ _ q)
theorem gl_of {X : Cx} {x : Str} (h : X.env.kindOf x = some .globalImplicit) : Gl X x := h
def locB (sc : Scope) (x : Str) : Bool := match sc.names.lookup x with | some .local => true | some .cell => true | _ => false
theorem loc_of {sc : Scope} {x : Str} (h : locB sc x = true) : Loc sc x := by
  unfold locB at h
  split at h
  · exact .inl (by assumption)
  · exact .inr (by assumption)
  · cases h
def visB (sc : Scope) (x : Str) : Bool := match sc.names.lookup x with | some .local => true | some .cell => true | some .free => true | _ => false
theorem vis_of {sc : Scope} {x : Str} (h : visB sc x = true) : Vis sc x := by
  unfold visB at h
  split at h
  · exact .inl (by assumption)
  · exact .inr (.inl (by assumption))
  · exact .inr (.inr (by assumption))
  · cases h
def fnB (b : Bool) (sc : Scope) (x : Str) : Bool := b || (match sc.names.lookup x with | some .local => true | _ => false)
theorem fn_of {b : Bool} {sc : Scope} {x : Str} (h : fnB b sc x = true) : b = true ∨ sc.names.lookup x = some .local := by
  unfold fnB at h
  rcases Bool.or_eq_true_iff.mp h with h | h
  · exact .inl h
  · split at h
    · exact .inr (by assumption)
    · cases h
theorem rp_v (i : Nat) {x : Str} {pos : Pos} (hN : X.N[i]? = some x := by rfl) (hv : Vis X.env.scope x := by exact vis_of (by kernel_rfl)) (hd : (x == ("__debug__" : Str)) = false := by decide +kernel)
    (hcd : (x == ("__classdict__" : Str)) = false := by decide +kernel) : RP ci X (.Name x pos) (fV i) := fun F T Γ S σ H a r q => by
  unfold fV at q
  split at q
  · rename_i b e
    cases q
    obtain ⟨ρ, r⟩ := r
    obtain ⟨v, e1, h⟩ := r.gl i a e
    exact wpX_of (pe_var hN hv hd hcd) ⟨v, e1, ρ, r.push h⟩
  · cases q
theorem rp_int {i j pos} : RP ci X (.Constant (.int i) j pos) (fC (.int i)) := fun F T Γ S σ H a r q => by
  cases q; exact wpX_of pe_int (r.int i)
theorem rp_str {i j pos} : RP ci X (.Constant (.str i) j pos) (fC (.str i)) := fun F T Γ S σ H a r q => by
  cases q; exact wpX_of pe_str (r.str i)
theorem rp_bl {i j pos} : RP ci X (.Constant (.bool i) j pos) (fC (.bl i)) := fun F T Γ S σ H a r q => by
  cases q; exact wpX_of pe_bl (r.bl i)
theorem rp_non {j pos} : RP ci X (.Constant .none j pos) (fC .non) := fun F T Γ S σ H a r q => by
  cases q; exact wpX_of pe_non r.non
/-- two expressions in a row -/
theorem two {a b : Expr} {fa fb : QF} (ha : RP ci X a fa) (hb : RP ci X b fb) {F : Fr X.K ci} {T : List (A × V)} {Γ : Ga} {S : So} {σ : L2.St} {H : Hp} {x y : A} (r : Rel F T Γ S σ H) (e1 : fa Γ S = some x) (e2 : fb Γ S = some y) :
    wpX X a σ H fun v H1 => wpX X b σ H1 fun u H2 => Rel F ((y, u) :: (x, v) :: T) Γ S σ H2 :=
  wpX_mono (ha F T Γ S σ H x r e1) fun v H1 r1 => hb F _ Γ S σ H1 y r1 e2
theorem drop3 {q a b : A × V} {T : List (A × V)} : ∀ x ∈ q :: T, x ∈ q :: a :: b :: T := fun x hx => by
  rcases List.mem_cons.mp hx with rfl | hx
  · exact List.mem_cons_self
  · exact List.mem_cons_of_mem _ (List.mem_cons_of_mem _ (List.mem_cons_of_mem _ hx))
theorem drop2 {q a : A × V} {T : List (A × V)} : ∀ x ∈ q :: T, x ∈ q :: a :: T := fun x hx => by
  rcases List.mem_cons.mp hx with rfl | hx
  · exact List.mem_cons_self
  · exact List.mem_cons_of_mem _ (List.mem_cons_of_mem _ hx)
theorem rp_op {op : Operator} {a b : Expr} {pos : Pos} {g : So → A → A → Option D} {fa fb : QF} (ho : OpG ci X (binaryOp op) g) (ha : RP ci X a fa) (hb : RP ci X b fb) : RP ci X (.BinOp a op b pos) (fOp g fa fb) := fun F T Γ S σ H z r q => by
  obtain ⟨x, y, d, e1, e2, e3, rfl⟩ := op_some q
  obtain ⟨rr, hr, hk⟩ := ho
  refine wpX_of (pe_op hr pe_wp pe_wp) (wpX_mono (two ha hb r e1 e2) fun v H1 h1 => wpX_mono h1 fun u H2 h2 => ?_)
  exact hk F _ Γ S σ H2 v u x y d h2 (by simp) (by simp) e3 _ fun w H3 h3 => h3.drop drop3
theorem rp_cmp {op : CmpOp} {a b : Expr} {pos : Pos} {g : So → A → A → Option D} {fa fb : QF} (ho : OpG ci X (compareOp op) g) (ha : RP ci X a fa) (hb : RP ci X b fb) (hm : behindInMarks op b = false) : RP ci X (.Compare a [op] [b] pos) (fOp g fa fb) := fun F T Γ S σ H z r q => by
  obtain ⟨x, y, d, e1, e2, e3, rfl⟩ := op_some q
  obtain ⟨rr, hr, hk⟩ := ho
  refine wpX_of (pe_cmpR hr pe_wp pe_wp hm) (wpX_mono (two ha hb r e1 e2) fun v H1 h1 => wpX_mono h1 fun u H2 h2 => ?_)
  exact hk F _ Γ S σ H2 v u x y d h2 (by simp) (by simp) e3 _ fun w H3 h3 => h3.drop drop3
theorem bv_some {f : QF} {Γ : Ga} {S : So} {b : Bool} (h : bV f Γ S = some b) : f Γ S = some (.d (.bl b)) := by
  unfold bV at h
  cases e : f Γ S with
  | none => rw [e] at h; cases h
  | some a =>
    rw [e, Option.bind_some] at h
    split at h
    · cases h; rfl
    · cases h
/-- a comparison as a test -/
theorem rb_cmp {op : CmpOp} {a b : Expr} {pos : Pos} {g : So → A → A → Option D} {fa fb : QF} (ho : OpG ci X (compareOp op) g) (ha : RP ci X a fa) (hb : RP ci X b fb) (hm : behindInMarks op b = false) : RB ci X (.Compare a [op] [b] pos) (bV (fOp g fa fb)) := fun F T Γ S σ H z r q => by
  obtain ⟨x, y, d, e1, e2, e3, e4⟩ := op_some (bv_some q)
  cases e4
  obtain ⟨rr, hr, hk⟩ := ho
  refine wpT_of (pt_cmpR hr pe_wp pe_wp hm) (wpX_mono (two ha hb r e1 e2) fun v H1 h1 => wpX_mono h1 fun u H2 h2 => ?_)
  refine hk F _ Γ S σ H2 v u x y _ h2 (by simp) (by simp) e3 _ fun w H3 h3 => ?_
  exact ⟨z, h3.asBl List.mem_cons_self, rfl, h3.drop fun q hq => by simp [hq]⟩
theorem rb_v {e : Expr} {f : QF} (h : RP ci X e f) (he : ∀ whole, isTrue e X.env whole = (do let v ← whole; standAt e.pos; holding [v] (truthy v)) := by intro _; rfl) : RB ci X e (bV f) := fun F T Γ S σ H b r q => by
  refine wpT_of (pt_val pe_wp he) (wpX_mono (h F T Γ S σ H _ r (bv_some q)) fun v H' h' => ?_)
  exact ⟨b, h'.asBl List.mem_cons_self, rfl, h'.tail⟩
theorem rb_not {a : Expr} {f : QB} {pos : Pos} (h : RB ci X a f) : RB ci X (.UnaryOp .Not a pos) (bNot f) := fun F T Γ S σ H b r q => by
  unfold bNot at q
  cases e : f Γ S with
  | none => rw [e] at q; cases q
  | some c =>
    rw [e] at q
    refine wpT_of (pt_not pt_wp) (wpT_mono (h F T Γ S σ H c r e) fun v H' h' => ?_)
    obtain ⟨rfl, h'⟩ := h'
    exact ⟨Option.some.inj q, h'⟩
def wpW (X : Cx) (e : Expr) : TT := fun σ H Q => ∀ (whole : Sem Value) (pins : List (Addr × Obj)) (s : Shared), Inv X pins σ H s → wpAny (model X.prog X.w) X.A (isTrue e X.env whole) (TP X pins σ Q) X.xe s
theorem pw_wp {e : Expr} : PW X e (wpW X e) := ⟨fun whole pins s σ H Q I h => h whole pins s I⟩
theorem wpW_of {e : Expr} {t : TT} {σ : L2.St} {H : Hp} (h : PW X e t) {Q : Bool → Hp → Prop} (q : t σ H Q) : wpW X e σ H Q := fun whole pins s I => h.run whole pins s σ H Q I q
/-- a chain of and, or -/
def RW (ci : Ci) (X : Cx) (e : Expr) (f : QB) : Prop := ∀ (F : Fr X.K ci) T Γ S σ H b, Rel F T Γ S σ H → f Γ S = some b → wpW X e σ H (fun c H' => c = b ∧ Rel F T Γ S σ H')
theorem rw_and1 {a : Expr} {f : QB} {pos : Pos} (h : RB ci X a f) : RW ci X (.BoolOp .And [a] pos) f := fun F T Γ S σ H b r q => wpW_of (pw_and1 pt_wp) (h F T Γ S σ H b r q)
theorem rw_or1 {a : Expr} {f : QB} {pos : Pos} (h : RB ci X a f) : RW ci X (.BoolOp .Or [a] pos) f := fun F T Γ S σ H b r q => wpW_of (pw_or1 pt_wp) (h F T Γ S σ H b r q)
theorem rw_and {a b : Expr} {rest : List Expr} {f g : QB} {pos : Pos} (h : RB ci X a f) (h2 : RW ci X (.BoolOp .And (b :: rest) pos) g) : RW ci X (.BoolOp .And (a :: b :: rest) pos) (bAnd f g) := fun F T Γ S σ H c r q => by
  unfold bAnd at q
  cases e : f Γ S with
  | none => rw [e] at q; cases q
  | some d =>
    rw [e, Option.bind_some] at q
    refine wpW_of (pw_and pt_wp pw_wp) (wpT_mono (h F T Γ S σ H d r e) fun v H' h' => ?_)
    obtain ⟨rfl, h'⟩ := h'
    cases v with
    | true => exact iteT (h2 F T Γ S σ H' c h' q)
    | false => cases q; exact iteF ⟨rfl, h'⟩
theorem rw_or {a b : Expr} {rest : List Expr} {f g : QB} {pos : Pos} (h : RB ci X a f) (h2 : RW ci X (.BoolOp .Or (b :: rest) pos) g) : RW ci X (.BoolOp .Or (a :: b :: rest) pos) (bOr f g) := fun F T Γ S σ H c r q => by
  unfold bOr at q
  cases e : f Γ S with
  | none => rw [e] at q; cases q
  | some d =>
    rw [e, Option.bind_some] at q
    refine wpW_of (pw_or pt_wp pw_wp) (wpT_mono (h F T Γ S σ H d r e) fun v H' h' => ?_)
    obtain ⟨rfl, h'⟩ := h'
    cases v with
    | true => cases q; exact iteT ⟨rfl, h'⟩
    | false => exact iteF (h2 F T Γ S σ H' c h' q)
theorem rb_w {e : Expr} {f : QB} (h : RW ci X e f) : RB ci X e f := fun F T Γ S σ H b r q => wpT_of pw_wp.pt (h F T Γ S σ H b r q)
/-- and, or, not as values that are True or False -/
def fAnd (f g : QF) : QF := fun Γ S => (bV f Γ S).bind fun c => if c = true then g Γ S else some (.d (.bl false))
def fOr (f g : QF) : QF := fun Γ S => (bV f Γ S).bind fun c => if c = true then some (.d (.bl true)) else g Γ S
def fNot (f : QF) : QF := fun Γ S => (bV f Γ S).map fun c => .d (.bl (!c))
theorem rp_one {op : BoolOp} {a : Expr} {f : QF} {pos : Pos} (h : RP ci X a f) : RP ci X (.BoolOp op [a] pos) f := fun F T Γ S σ H z r q => wpX_of (L2.pe_one pe_wp) (h F T Γ S σ H z r q)
theorem rp_and {a b : Expr} {rest : List Expr} {f g : QF} {pos : Pos} (h : RP ci X a f) (h2 : RP ci X (.BoolOp .And (b :: rest) pos) g) : RP ci X (.BoolOp .And (a :: b :: rest) pos) (fAnd f g) := fun F T Γ S σ H z r q => by
  unfold fAnd at q
  cases e : bV f Γ S with
  | none => rw [e] at q; cases q
  | some d =>
    rw [e, Option.bind_some] at q
    refine wpX_of (L2.pe_and pe_wp pe_wp) (wpX_mono (h F T Γ S σ H _ r (bv_some e)) fun v H' h' => ⟨d, h'.asBl List.mem_cons_self, ?_⟩)
    cases d with
    | true => exact iteT (h2 F T Γ S σ H' z h'.tail q)
    | false => cases q; exact iteF (h'.tail.bl false)
theorem rp_not {a : Expr} {f : QF} {pos : Pos} (h : RP ci X a f) : RP ci X (.UnaryOp .Not a pos) (fNot f) := fun F T Γ S σ H z r q => by
  unfold fNot at q
  cases e : bV f Γ S with
  | none => rw [e] at q; cases q
  | some d =>
    rw [e] at q
    cases q
    exact wpX_of (L2.pe_not pe_wp) (wpX_mono (h F T Γ S σ H _ r (bv_some e)) fun v H' h' => ⟨d, h'.asBl List.mem_cons_self, h'.tail.bl _⟩)
theorem rp_ife {c a b : Expr} {fc : QB} {fa fb : QF} {pos : Pos} (hc : RB ci X c fc) (ha : RP ci X a fa) (hb : RP ci X b fb) : RP ci X (.IfExp c a b pos) (fIf fc fa fb) := fun F T Γ S σ H z r q => by
  unfold fIf at q
  cases e : fc Γ S with
  | none => rw [e] at q; cases q
  | some d =>
    rw [e, Option.bind_some] at q
    refine wpX_of (pe_ifExp pt_wp pe_wp pe_wp) (wpT_mono (hc F T Γ S σ H d r e) fun v H' h' => ?_)
    obtain ⟨rfl, h'⟩ := h'
    cases v with
    | true => exact iteT (ha F T Γ S σ H' z h' q)
    | false => exact iteF (hb F T Γ S σ H' z h' q)
theorem cons_some {f : QF} {fs : QFs} {Γ : Ga} {S : So} {as : List A} (h : fCons f fs Γ S = some as) : ∃ a r, f Γ S = some a ∧ fs Γ S = some r ∧ as = a :: r := by
  unfold fCons at h
  cases e1 : f Γ S with
  | none => rw [e1] at h; cases h
  | some a =>
    rw [e1, Option.bind_some] at h
    cases e2 : fs Γ S with
    | none => rw [e2] at h; cases h
    | some r => rw [e2] at h; cases h; exact ⟨a, r, rfl, rfl, rfl⟩
theorem rps_nil : RPs ci X [] fNil := ⟨fun Γ S as q => by cases q; rfl, fun F T Γ S σ H as r q => by
  cases q
  exact wpA_of pa_nil ⟨rfl, r⟩⟩
theorem rps_cons {e : Expr} {es : List Expr} {f : QF} {fs : QFs} (h : RP ci X e f) (hs : RPs ci X es fs) (hst : starEach (e :: es) X.env = (false, eval e X.env) :: starEach es X.env := by kernel_rfl) : RPs ci X (e :: es) (fCons f fs) := by
  refine ⟨fun Γ S as q => ?_, fun F T Γ S σ H as r q => ?_⟩
  · obtain ⟨a, as', e1, e2, rfl⟩ := cons_some q
    rw [List.length_cons, List.length_cons, hs.1 Γ S as' e2]
  · obtain ⟨a, as', e1, e2, rfl⟩ := cons_some q
    refine wpA_of (pa_cons pe_wp pa_wp hst) (wpX_mono (h F T Γ S σ H _ r e1) fun v H' h' => wpA_mono (hs.2 F _ Γ S σ H' _ h' e2) fun vs H2 h2 => ?_)
    obtain ⟨hl, h2⟩ := h2
    refine ⟨by simp [hl], h2.drop fun x hx => ?_⟩
    rw [List.zip_cons_cons] at hx
    simp only [List.cons_append, List.mem_cons, List.mem_append] at hx ⊢
    rcases hx with hx | hx | hx <;> simp [hx]
theorem reps_of {K : PySem.W.Frag} {F : Fr K ci} {ρ : List Addr} {T : List (A × V)} {Γ : Ga} {S : So} {σ : L2.St} {H : Hp} (r : RelR F ρ T Γ S σ H) : ∀ {l : List D} {vs : List V}, l.length = vs.length → (∀ q ∈ (l.map A.d).zip vs, q ∈ T) → Reps K ci (mu F ρ S) H l vs
  | [], [], _, _ => .nil
  | [], _ :: _, h, _ => by cases h
  | _ :: _, [], h, _ => by cases h
  | d :: l, v :: vs, h, k => by
    have := r.tl _ (k (.d d, v) (by simp))
    exact .cons this (reps_of r (by simpa using h) fun q hq => k q (by rw [List.map_cons, List.zip_cons_cons]; exact List.mem_cons_of_mem _ hq))
theorem bind_data {f : QFs} {Γ : Ga} {S : So} {a : A} {k : List D → A} (h : ((f Γ S).bind fun as => (dataOf as).map k) = some a) : ∃ l, f Γ S = some (l.map A.d) ∧ a = k l := by
  cases e1 : f Γ S with
  | none => rw [e1] at h; cases h
  | some as =>
    rw [e1, Option.bind_some] at h
    cases e2 : dataOf as with
    | none => rw [e2] at h; cases h
    | some l => rw [e2] at h; cases h; rw [dataOf_eq e2]; exact ⟨l, rfl, rfl⟩
theorem small_len {n m : Nat} (h : n = m) (hl : Nat.ble m 1000 = true) : n ≤ sizeLine := by
  rw [h]
  exact Nat.le_trans (Nat.le_of_ble_eq_true hl) (by decide)
theorem rp_tup {es : List Expr} {fs : QFs} {x1 : Nat} {pos : Pos} (h : RPs ci X es fs) (hl : Nat.ble es.length 1000 = true := by kernel_rfl) : RP ci X (.Tuple es x1 pos) (fTup fs) := fun F T Γ S σ H a r q => by
  obtain ⟨l, e1, rfl⟩ := bind_data q
  refine wpX_of (pe_tup pa_wp) (wpA_mono (h.2 F T Γ S σ H _ r e1) fun vs H' h' => ?_)
  obtain ⟨hz, ρ, h'⟩ := h'
  have hz' : l.length = vs.length := by rw [← hz, List.length_map]
  refine ⟨small_len (hz.symm.trans (h.1 _ _ _ e1)) hl, fun p hp => ?_⟩
  have R := reps_of h' hz' fun q hq => List.mem_append_left _ hq
  exact ⟨ρ, (h'.newT hp R).drop fun q hq => by
    rcases List.mem_cons.mp hq with rfl | hq
    · exact List.mem_cons_self
    · exact List.mem_cons_of_mem _ (List.mem_append_right _ hq)⟩
theorem rp_lst {es : List Expr} {fs : QFs} {pos : Pos} (h : RPs ci X es fs) (hl : Nat.ble es.length 1000 = true := by kernel_rfl) : RP ci X (.List es pos) (fLst fs) := fun F T Γ S σ H a r q => by
  obtain ⟨l, e1, rfl⟩ := bind_data q
  refine wpX_of (pe_lst pa_wp) (wpA_mono (h.2 F T Γ S σ H _ r e1) fun vs H' h' => ?_)
  obtain ⟨hz, ρ, h'⟩ := h'
  have hz' : l.length = vs.length := by rw [← hz, List.length_map]
  refine ⟨small_len (hz.symm.trans (h.1 _ _ _ e1)) hl, fun p hp => ?_⟩
  have R := reps_of h' hz' fun q hq => List.mem_append_left _ hq
  exact ⟨ρ, (h'.newL hp R).drop fun q hq => by
    rcases List.mem_cons.mp hq with rfl | hq
    · exact List.mem_cons_self
    · exact List.mem_cons_of_mem _ (List.mem_append_right _ hq)⟩
theorem call_some {g : So → List A → Option D} {fs : QFs} {Γ : Ga} {S : So} {a : A} (h : fCall g fs Γ S = some a) : ∃ as d, fs Γ S = some as ∧ g S as = some d ∧ a = .d d := by
  unfold fCall at h
  cases e1 : fs Γ S with
  | none => rw [e1] at h; cases h
  | some as =>
    rw [e1, Option.bind_some] at h
    cases e2 : g S as with
    | none => rw [e2] at h; cases h
    | some d => rw [e2] at h; cases h; exact ⟨as, d, rfl, e2, rfl⟩
theorem dropA {q : A × V} {U T : List (A × V)} : ∀ x ∈ q :: T, x ∈ q :: (U ++ T) := fun x hx => by
  rcases List.mem_cons.mp hx with rfl | hx
  · exact List.mem_cons_self
  · exact List.mem_cons_of_mem _ (List.mem_append_right _ hx)
theorem rp_callB {id : String} {x : Str} {p pos : Pos} {e : Expr} {es : List Expr} {g : So → List A → Option D} {fs : QFs} (hc : CallG ci X (.builtin id) g) (hg : Gl X x) (hm : X.mg x = none) (hv : bootBuiltins x = some (.builtin id)) (ha : RPs ci X (e :: es) fs) (hn : x ≠ "__name__" := by decide +kernel) (hdb : (x == ("__debug__" : Str)) = false := by decide +kernel)
    (he : starEach (e :: es) X.env = (false, eval e X.env) :: starEach es X.env := by rfl) (hpl : (backTo pos (starEach es X.env)).any (·.1) = false := by kernel_rfl) : RP ci X (.Call (.Name x p) (e :: es) [] pos) (fCall g fs) := fun F T Γ S σ H a r q => by
  obtain ⟨as, d, e1, e2, rfl⟩ := call_some q
  obtain ⟨rr, hr, hk⟩ := hc
  refine wpX_of (pe_callB hr hg hm hv pa_wp hn hdb he hpl) (wpA_mono (ha.2 F T Γ S σ H _ r e1) fun vs H' h' => ?_)
  obtain ⟨hz, h'⟩ := h'
  exact hk F _ Γ S σ H' as vs d h' hz (fun q hq => List.mem_append_left _ hq) e2 _ fun v H2 h2 => h2.drop dropA
theorem rp_callTy {id : String} {x : Str} {p pos : Pos} {e : Expr} {es : List Expr} {g : So → List A → Option D} {fs : QFs} (hc : CallG ci X (.type id) g) (hg : Gl X x) (hm : X.mg x = none) (hv : bootBuiltins x = some (.type id)) (ha : RPs ci X (e :: es) fs) (hn : x ≠ "__name__" := by decide +kernel) (hdb : (x == ("__debug__" : Str)) = false := by decide +kernel)
    (he : starEach (e :: es) X.env = (false, eval e X.env) :: starEach es X.env := by rfl) (hpl : (backTo pos (starEach es X.env)).any (·.1) = false := by kernel_rfl) : RP ci X (.Call (.Name x p) (e :: es) [] pos) (fCall g fs) := fun F T Γ S σ H a r q => by
  obtain ⟨as, d, e1, e2, rfl⟩ := call_some q
  obtain ⟨rr, hr, hk⟩ := hc
  refine wpX_of (pe_callTy hr hg hm hv pa_wp hn hdb he hpl) (wpA_mono (ha.2 F T Γ S σ H _ r e1) fun vs H' h' => ?_)
  obtain ⟨hz, h'⟩ := h'
  exact hk F _ Γ S σ H' as vs d h' hz (fun q hq => List.mem_append_left _ hq) e2 _ fun v H2 h2 => h2.drop dropA
end
section
variable {ci : Ci} {X : Cx}
def gAdd (_ : So) : A → A → Option D
  | .d (.int i), .d (.int j) => some (.int (i + j))
  | .d (.str s), .d (.str t) => if s.length + t.length ≤ sizeLine then some (.str (s ++ t)) else none
  | _, _ => none
theorem o_add : OpG ci X (binaryOp .Add) gAdd := ⟨_, op_add.or op_add_str, fun F T Γ S σ H x y a b d r hx hy e Q k => by
  unfold gAdd at e
  split at e
  · cases e; exact .inl ⟨_, _, r.asInt hx, r.asInt hy, k _ _ (r.int _)⟩
  · split at e
    · rename_i hl
      cases e; exact .inr ⟨_, _, r.asStr hx, r.asStr hy, hl, k _ _ (r.str _)⟩
    · cases e
  · cases e⟩
def gI (p : Int → Int → Bool) (f : Int → Int → D) (_ : So) : A → A → Option D
  | .d (.int i), .d (.int j) => if p i j = true then some (f i j) else none
  | _, _ => none
theorem gi_some {p : Int → Int → Bool} {f : Int → Int → D} {S : So} {a b : A} {d : D} (h : gI p f S a b = some d) : ∃ i j, a = .d (.int i) ∧ b = .d (.int j) ∧ p i j = true ∧ d = f i j := by
  unfold gI at h
  split at h
  · split at h
    · rename_i hp
      cases h; exact ⟨_, _, rfl, rfl, hp, rfl⟩
    · cases h
  · cases h
abbrev gSub := gI (fun _ _ => true) fun i j => .int (i - j)
theorem o_sub : OpG ci X (binaryOp .Sub) gSub := ⟨_, op_sub, fun F T Γ S σ H x y a b d r hx hy e Q k => by
  obtain ⟨i, j, rfl, rfl, _, rfl⟩ := gi_some e
  exact ⟨_, _, r.asInt hx, r.asInt hy, k _ _ (r.int _)⟩⟩
abbrev gMul := gI (fun i j => decide ((-(2 ^ 64) < i ∧ i < 2 ^ 64) ∨ (-(2 ^ 64) < j ∧ j < 2 ^ 64))) fun i j => .int (i * j)
theorem o_mul : OpG ci X (binaryOp .Mult) gMul := ⟨_, op_mul, fun F T Γ S σ H x y a b d r hx hy e Q k => by
  obtain ⟨i, j, rfl, rfl, hp, rfl⟩ := gi_some e
  exact ⟨_, _, r.asInt hx, r.asInt hy, (by have := of_decide_eq_true hp; exact this), k _ _ (r.int _)⟩⟩
abbrev gFdiv := gI (fun _ j => decide (0 < j ∧ j < 1073741824)) fun i j => .int (i / j)
abbrev gMod := gI (fun _ j => decide (0 < j)) fun i j => .int (i % j)
theorem o_mod : OpG ci X (binaryOp .Mod) gMod := ⟨_, op_mod, fun F T Γ S σ H x y a b d r hx hy e Q k => by
  obtain ⟨i, j, rfl, rfl, hp, rfl⟩ := gi_some e
  exact ⟨_, _, r.asInt hx, r.asInt hy, (by have := of_decide_eq_true hp; exact this), k _ _ (r.int _)⟩⟩
abbrev gPow := gI (fun i j => decide (0 ≤ j ∧ j ≤ 1000000 ∧ i.natAbs < 2 ^ 64)) fun i j => .int (i ^ j.toNat)
theorem o_pow : OpG ci X (binaryOp .Pow) gPow := ⟨_, op_pow, fun F T Γ S σ H x y a b d r hx hy e Q k => by
  obtain ⟨i, j, rfl, rfl, hp, rfl⟩ := gi_some e
  exact ⟨_, _, r.asInt hx, r.asInt hy, (by have := of_decide_eq_true hp; exact this), k _ _ (r.int _)⟩⟩
abbrev gLt := gI (fun _ _ => true) fun i j => .bl (decide (i < j))
theorem o_lt : OpG ci X (compareOp .Lt) gLt := ⟨_, op_lt, fun F T Γ S σ H x y a b d r hx hy e Q k => by
  obtain ⟨i, j, rfl, rfl, _, rfl⟩ := gi_some e
  exact ⟨_, _, r.asInt hx, r.asInt hy, k _ _ (r.bl _)⟩⟩
abbrev gLe := gI (fun _ _ => true) fun i j => .bl (decide (i ≤ j))
abbrev gGt := gI (fun _ _ => true) fun i j => .bl (decide (j < i))
theorem o_gt : OpG ci X (compareOp .Gt) gGt := ⟨_, op_gt, fun F T Γ S σ H x y a b d r hx hy e Q k => by
  obtain ⟨i, j, rfl, rfl, _, rfl⟩ := gi_some e
  exact ⟨_, _, r.asInt hx, r.asInt hy, k _ _ (r.bl _)⟩⟩
abbrev gGe := gI (fun _ _ => true) fun i j => .bl (decide (j ≤ i))
theorem o_ge : OpG ci X (compareOp .GtE) gGe := ⟨_, op_ge, fun F T Γ S σ H x y a b d r hx hy e Q k => by
  obtain ⟨i, j, rfl, rfl, _, rfl⟩ := gi_some e
  exact ⟨_, _, r.asInt hx, r.asInt hy, k _ _ (r.bl _)⟩⟩
end
end LP
namespace LP
open PySem PySem.Spec PyProof.Rows L2
section
variable {ci : Ci} {X : Cx}
def D.v : D → V
  | .non => .non | .bl b => .bl b | .int i => .int i | .str s => .str s | _ => .ref 0
def D.flat : D → Bool
  | .non => true | .bl _ => true | .int _ => true | .str _ => true | _ => false
theorem Rep.flat {K : PySem.W.Frag} {M : List Addr} {H : Hp} : ∀ {d : D} {v : V}, d.flat = true → Rep K ci M H d v → v = d.v
  | .non, v, _, r => by rw [Rep] at r; exact r
  | .bl _, v, _, r => by rw [Rep] at r; exact r
  | .int _, v, _, r => by rw [Rep] at r; exact r
  | .str _, v, _, r => by rw [Rep] at r; exact r
  | .tup _, v, h, r => by cases h
  | .lst _, v, h, r => by cases h
  | .ins _ _, v, h, r => by cases h
  | .dic _ _, v, h, r => by cases h
  | .fn _, v, h, r => by cases h
  | .exc _ _ _, v, h, r => by cases h
theorem D.flat_v : ∀ {d : D}, d.flat = true → flatV d.v = true
  | .non, _ => rfl
  | .bl _, _ => rfl
  | .int _, _ => rfl
  | .str _, _ => rfl
  | .tup _, h => by cases h
  | .lst _, h => by cases h
  | .ins _ _, h => by cases h
  | .dic _ _, h => by cases h
  | .fn _, h => by cases h
  | .exc _ _ _, h => by cases h
theorem Reps.flat {K : PySem.W.Frag} {M : List Addr} {H : Hp} : ∀ {l : List D} {vs : List V}, l.all D.flat = true → Reps K ci M H l vs → vs = l.map D.v
  | [], vs, _, r => by rw [Reps] at r; exact r
  | d :: l, vs, h, r => by
    rw [Reps] at r
    obtain ⟨v, rr, rfl, r1, r2⟩ := r
    rw [List.all_cons, Bool.and_eq_true] at h
    rw [List.map_cons, r1.flat h.1, Reps.flat h.2 r2]
theorem all_flat {l : List D} (h : l.all D.flat = true) : (l.map D.v).all flatV = true := by
  rw [List.all_map]
  exact List.all_eq_true.mpr fun x hx => D.flat_v (List.all_eq_true.mp h x hx)
theorem Rel.flat {F : Fr X.K ci} {T : List (A × V)} {Γ : Ga} {S : So} {σ : L2.St} {H : Hp} (r : Rel F T Γ S σ H) {d : D} {v : V} (h : (A.d d, v) ∈ T) (hf : d.flat = true) : v = d.v := by
  obtain ⟨ρ, r⟩ := r
  exact Rep.flat hf (r.top h)
/-- Python's == of flat data -/
def feq : D → D → Bool
  | .non, .non => true
  | .bl a, .bl b => a == b
  | .bl a, .int b => (if a then 1 else 0) == b
  | .int a, .bl b => a == (if b then 1 else 0)
  | .int a, .int b => a == b
  | .str a, .str b => decide (a = b)
  | _, _ => false
theorem feq_eqV {x y : D} (hx : x.flat = true) (hy : y.flat = true) : eqV x.v y.v = feq x y := by
  cases x <;> cases hx <;> cases y <;> first | rfl | cases hy
/-- x in xs (flat things) -/
def gIn (neg : Bool) (S : So) (a b : A) : Option D := match a with
  | .d x => (viewQ S b).bind fun l => if x.flat && l.all D.flat then some (.bl (if neg then !(l.any fun y => feq y x) else l.any fun y => feq y x)) else none
  | _ => none
theorem in_any {l : List D} {x : D} (hx : x.flat = true) (hl : l.all D.flat = true) : inV x.v (l.map D.v) = l.any fun y => feq y x := by
  unfold inV
  rw [List.any_map]
  induction l with
  | nil => rfl
  | cons y l ih =>
    rw [List.all_cons, Bool.and_eq_true] at hl
    rw [List.any_cons, List.any_cons, ih hl.2]
    show (eqV y.v x.v || _) = _
    rw [feq_eqV hl.1 hx]
theorem gIn_ok {neg : Bool} {F : Fr X.K ci} {T : List (A × V)} {Γ : Ga} {S : So} {σ : L2.St} {H : Hp} {x y : V} {a b : A} {d : D} (r : Rel F T Γ S σ H) (hx : (a, x) ∈ T) (hy : (b, y) ∈ T) (e : gIn neg S a b = some d) :
    ∃ p xs, y = .ref p ∧ (SqL X.K H p xs ∨ SqT X.K H p xs) ∧ flatV x = true ∧ xs.all flatV = true ∧ d = .bl (if neg then !inV x xs else inV x xs) := by
  unfold gIn at e
  split at e
  · rename_i u
    cases e1 : viewQ S b with
    | none => rw [e1] at e; cases e
    | some l =>
      rw [e1, Option.bind_some] at e
      split at e
      · rename_i hf
        rw [Bool.and_eq_true] at hf
        cases e
        obtain ⟨ρ, r⟩ := r
        obtain ⟨p, vs, rfl, hq, R⟩ := r.viewQ (r.top hy) e1
        have hv := Reps.flat hf.2 R
        subst hv
        have hu := Rep.flat hf.1 (r.top hx)
        subst hu
        exact ⟨p, _, rfl, hq, D.flat_v hf.1, all_flat hf.2, by rw [in_any hf.1 hf.2]⟩
      · cases e
  · cases e
theorem o_in : OpG ci X (compareOp .In) (gIn false) := ⟨_, op_in_seq, fun F T Γ S σ H x y a b d r hx hy e Q k => by
  obtain ⟨p, xs, rfl, hq, f1, f2, rfl⟩ := gIn_ok r hx hy e
  exact ⟨p, xs, rfl, hq, f1, f2, k _ _ (r.bl _)⟩⟩
/-- c in s: a sign in a text -/
def gInS (neg : Bool) (_ : So) (a b : A) : Option D := match a, b with
  | .d (.str x), .d (.str z) => if neg then some (.bl (!(!(Builtin.Str.occurrences z x 0 z.length 1).isEmpty))) else some (.bl (!(Builtin.Str.occurrences z x 0 z.length 1).isEmpty))
  | _, _ => none
theorem o_inS : OpG ci X (compareOp .In) (gInS false) := ⟨_, op_in_str, fun F T Γ S σ H x y a b d r hx hy e Q k => by
  unfold gInS at e
  split at e
  · cases e
    exact ⟨_, _, r.asStr hx, r.asStr hy, k _ _ (r.bl _)⟩
  · cases e⟩
mutual
def D.py : D → Option PyData
  | .non => some .none
  | .bl b => some (.bool b)
  | .int i => some (.int i)
  | .str s => some (.str s)
  | .tup l => (D.pys l).map .tuple
  | .lst l => (D.pys l).map .list
  | _ => none
def D.pys : List D → Option (List PyData)
  | [] => some []
  | d :: l => (D.py d).bind fun x => (D.pys l).map (x :: ·)
end
mutual
theorem Rep.dp {K : PySem.W.Frag} {M : List Addr} {H : Hp} : ∀ (d : D) (v : V) (x : PyData), d.py = some x → Rep K ci M H d v → Dp K H v x
  | .non, v, x, h, r => by rw [D.py] at h; cases h; rw [Rep] at r; subst r; exact .non
  | .bl _, v, x, h, r => by rw [D.py] at h; cases h; rw [Rep] at r; subst r; exact .bl _
  | .int _, v, x, h, r => by rw [D.py] at h; cases h; rw [Rep] at r; subst r; exact .int _
  | .str _, v, x, h, r => by rw [D.py] at h; cases h; rw [Rep] at r; subst r; exact .str _
  | .tup l, v, x, h, r => by
    rw [D.py] at h
    cases e : D.pys l with
    | none => rw [e] at h; cases h
    | some xs =>
      rw [e] at h; cases h
      rw [Rep] at r
      obtain ⟨p, vs, rfl, q, R⟩ := r
      exact .tup (st_rd q) (Reps.dp l vs xs e R)
  | .lst l, v, x, h, r => by
    rw [D.py] at h
    cases e : D.pys l with
    | none => rw [e] at h; cases h
    | some xs =>
      rw [e] at h; cases h
      rw [Rep] at r
      obtain ⟨p, vs, rfl, q, R⟩ := r
      exact .lst (sq_rd q) (Reps.dp l vs xs e R)
  | .ins _ _, v, x, h, r => by rw [D.py] at h <;> first | cases h | (intros; intro z; cases z)
  | .dic _ _, v, x, h, r => by rw [D.py] at h <;> first | cases h | (intros; intro z; cases z)
  | .fn _, v, x, h, r => by rw [D.py] at h <;> first | cases h | (intros; intro z; cases z)
  | .exc _ _ _, v, x, h, r => by rw [D.py] at h <;> first | cases h | (intros; intro z; cases z)
theorem Reps.dp {K : PySem.W.Frag} {M : List Addr} {H : Hp} : ∀ (l : List D) (vs : List V) (xs : List PyData), D.pys l = some xs → Reps K ci M H l vs → DpAll K H vs xs
  | [], vs, xs, h, r => by rw [D.pys] at h; cases h; rw [Reps] at r; subst r; exact .nil
  | d :: l, vs, xs, h, r => by
    rw [D.pys] at h
    cases e1 : D.py d with
    | none => rw [e1] at h; cases h
    | some x =>
      rw [e1, Option.bind_some] at h
      cases e2 : D.pys l with
      | none => rw [e2] at h; cases h
      | some ys =>
        rw [e2] at h; cases h
        rw [Reps] at r
        obtain ⟨v, rr, rfl, r1, r2⟩ := r
        exact .cons (Rep.dp d v x e1 r1) (Reps.dp l rr ys e2 r2)
end
/-- a slot's data -/
def valD (S : So) : A → Option D
  | .d x => some x
  | .loc k => (viewL S (.loc k)).map .lst
theorem valD_dp {F : Fr X.K ci} {ρ : List Addr} {T : List (A × V)} {Γ : Ga} {S : So} {σ : L2.St} {H : Hp} {x : V} {a : A} {d : D} {y : PyData} (r : RelR F ρ T Γ S σ H) (hx : (a, x) ∈ T) (e : valD S a = some d) (ey : d.py = some y) : Dp X.K H x y := by
  cases a with
  | d u => cases e; exact Rep.dp _ _ _ ey (r.top hx)
  | loc k =>
    rw [valD] at e
    cases e1 : viewL S (.loc k) with
    | none => rw [e1] at e; cases e
    | some l =>
      rw [e1] at e; cases e
      obtain ⟨p, vs, rfl, hq, R⟩ := r.viewL (r.top hx) e1
      rw [D.py] at ey
      cases e2 : D.pys l with
      | none => rw [e2] at ey; cases ey
      | some xs => rw [e2] at ey; cases ey; exact .lst hq (Reps.dp l vs xs e2 R)
def deq (x y : D) : Option Bool := x.py.bind fun a => y.py.bind fun b => if SeqAt.shaped a && SeqAt.shaped b then some (PyData.eqv a b) else none
def gEq (neg : Bool) (S : So) (a b : A) : Option D := (valD S a).bind fun x => (valD S b).bind fun y => (deq x y).map fun c => .bl (if neg then !c else c)
theorem gEq_ok {neg : Bool} {F : Fr X.K ci} {T : List (A × V)} {Γ : Ga} {S : So} {σ : L2.St} {H : Hp} {x y : V} {a b : A} {d : D} (r : Rel F T Γ S σ H) (hx : (a, x) ∈ T) (hy : (b, y) ∈ T) (e : gEq neg S a b = some d) :
    ∃ u w, Dp X.K H x u ∧ Dp X.K H y w ∧ SeqAt.shaped u = true ∧ SeqAt.shaped w = true ∧ d = .bl (if neg then !PyData.eqv u w else PyData.eqv u w) := by
  unfold gEq at e
  cases e1 : valD S a with
  | none => rw [e1] at e; cases e
  | some x' =>
    rw [e1, Option.bind_some] at e
    cases e2 : valD S b with
    | none => rw [e2] at e; cases e
    | some y' =>
      rw [e2, Option.bind_some] at e
      unfold deq at e
      cases e3 : x'.py with
      | none => rw [e3] at e; cases e
      | some u =>
        rw [e3, Option.bind_some] at e
        cases e4 : y'.py with
        | none => rw [e4] at e; cases e
        | some w =>
          rw [e4, Option.bind_some] at e
          by_cases hs : (SeqAt.shaped u && SeqAt.shaped w) = true
          · rw [if_pos hs] at e
            rw [Bool.and_eq_true] at hs
            cases e
            obtain ⟨ρ, r⟩ := r
            exact ⟨u, w, valD_dp r hx e1 e3, valD_dp r hy e2 e4, hs.1, hs.2, rfl⟩
          · rw [if_neg hs] at e; cases e
theorem o_eq (hu : X.A.units + 64 < cLine) : OpG ci X (compareOp .Eq) (gEq false) := ⟨_, op_eqD hu, fun F T Γ S σ H x y a b d r hx hy e Q k => by
  obtain ⟨u, w, h1, h2, h3, h4, rfl⟩ := gEq_ok r hx hy e
  exact ⟨u, w, h1, h2, h3, h4, k _ _ (r.bl _)⟩⟩
theorem o_ne (hu : X.A.units + 64 < cLine) : OpG ci X (compareOp .NotEq) (gEq true) := ⟨_, op_neD hu, fun F T Γ S σ H x y a b d r hx hy e Q k => by
  obtain ⟨u, w, h1, h2, h3, h4, rfl⟩ := gEq_ok r hx hy e
  exact ⟨u, w, h1, h2, h3, h4, k _ _ (r.bl _)⟩⟩
/-- x is None -/
def gIsN (neg : Bool) (_ : So) (a b : A) : Option D := match a, b with
  | .d .non, .d .non => some (.bl (!neg))
  | .d _, .d .non => some (.bl neg)
  | .loc _, .d .non => some (.bl neg)
  | _, _ => none
theorem Rep.notNon {K : PySem.W.Frag} {M : List Addr} {H : Hp} : ∀ {d : D} {v : V}, d ≠ .non → Rep K ci M H d v → v ≠ .non
  | .non, v, h, _ => absurd rfl h
  | .bl _, v, _, r => by rw [Rep] at r; subst r; intro z; cases z
  | .int _, v, _, r => by rw [Rep] at r; subst r; intro z; cases z
  | .str _, v, _, r => by rw [Rep] at r; subst r; intro z; cases z
  | .tup _, v, _, r => by rw [Rep] at r; obtain ⟨_, _, rfl, _⟩ := r; intro z; cases z
  | .lst _, v, _, r => by rw [Rep] at r; obtain ⟨_, _, rfl, _⟩ := r; intro z; cases z
  | .ins _ _, v, _, r => by rw [Rep] at r; obtain ⟨_, _, _, rfl, _⟩ := r; intro z; cases z
  | .dic _ _, v, _, r => by rw [Rep] at r; obtain ⟨_, _, rfl, _⟩ := r; intro z; cases z
  | .fn _, v, _, r => by rw [Rep] at r; subst r; intro z; cases z
  | .exc _ _ _, v, _, r => by rw [Rep] at r; obtain ⟨_, _, rfl, _⟩ := r; intro z; cases z
theorem gIsN_ok {neg : Bool} {F : Fr X.K ci} {T : List (A × V)} {Γ : Ga} {S : So} {σ : L2.St} {H : Hp} {x y : V} {a b : A} {d : D} (r : Rel F T Γ S σ H) (hx : (a, x) ∈ T) (hy : (b, y) ∈ T) (e : gIsN neg S a b = some d) :
    y = .non ∧ d = .bl (if neg then !decide (x = .non) else decide (x = .non)) := by
  unfold gIsN at e
  split at e
  · cases e
    rw [r.asNon hx]
    exact ⟨r.asNon hy, by cases neg <;> rfl⟩
  · rename_i u hu
    cases e
    obtain ⟨ρ, r'⟩ := id r
    have : x ≠ .non := Rep.notNon (fun z => hu (by rw [z])) (r'.top hx)
    exact ⟨r.asNon hy, by rw [decide_eq_false this]; cases neg <;> rfl⟩
  · cases e
    obtain ⟨ρ, r'⟩ := id r
    obtain ⟨p, _, rfl⟩ := r'.top hx
    exact ⟨r.asNon hy, by cases neg <;> rfl⟩
  · cases e
theorem o_is : OpG ci X (compareOp .Is) (gIsN false) := ⟨_, op_isN, fun F T Γ S σ H x y a b d r hx hy e Q k => by
  obtain ⟨h1, rfl⟩ := gIsN_ok r hx hy e
  exact ⟨h1, k _ _ (r.bl _)⟩⟩
end
end LP
namespace LP
open PySem PySem.Spec PyProof.Rows L2
section
variable {ci : Ci} {X : Cx}
def gIx (S : So) (a b : A) : Option D := match b with
  | .d (.int i) => match a with
    | .d (.str s) => if s.length ≤ sizeLine then (atI s.cps.toList i).map fun c => .str ⟨#[c]⟩ else none
    | a => (viewQ S a).bind fun l => atI l i
  | _ => none
theorem atI_reps {K : PySem.W.Frag} {M : List Addr} {H : Hp} {l : List D} {vs : List V} {i : Int} {d : D} (R : Reps K ci M H l vs) (e : atI l i = some d) : ∃ v, atI vs i = some v ∧ Rep K ci M H d v := by
  unfold atI at e ⊢
  rw [← R.length]
  cases e1 : ixN l.length i with
  | none => rw [e1] at e; cases e
  | some j =>
    rw [e1, Option.bind_some] at e
    rw [Option.bind_some]
    exact R.getD e
theorem rp_ix {a b : Expr} {pos : Pos} {fa fb : QF} (ha : RP ci X a fa) (hb : RP ci X b fb) (hs : PlainIx b := by exact fun _ _ => rfl) : RP ci X (.Subscript a b pos) (fOp gIx fa fb) := fun F T Γ S σ H z r q => by
  obtain ⟨x, y, d, e1, e2, e3, rfl⟩ := op_some q
  refine wpX_of (pe_ix ix_seq pe_wp pe_wp hs) (wpX_mono (two ha hb r e1 e2) fun v H1 h1 => wpX_mono h1 fun u H2 h2 => ?_)
  unfold gIx at e3
  split at e3
  · rename_i i
    have hu := h2.asInt (v := u) List.mem_cons_self
    split at e3
    · rename_i s
      have hv := h2.asStr (v := v) (i := s) (by simp)
      split at e3
      · rename_i hl
        cases e4 : atI s.cps.toList i with
        | none => rw [e4] at e3; cases e3
        | some c =>
          rw [e4] at e3; cases e3
          exact .inr (.inr ⟨s, i, c, hv, hu, hl, e4, (h2.drop fun q hq => by simp [hq] : Rel F T Γ S σ H2).str _⟩)
      · cases e3
    · cases e4 : viewQ S x with
      | none => rw [e4] at e3; cases e3
      | some l =>
        rw [e4, Option.bind_some] at e3
        obtain ⟨ρ, r2⟩ := h2
        obtain ⟨p, vs, rfl, hq, R⟩ := r2.viewQ (r2.top (a := x) (v := v) (by simp)) e4
        obtain ⟨w, hw, rw'⟩ := atI_reps R e3
        have fin : Rel F ((.d d, w) :: T) Γ S σ H2 := ⟨ρ, (r2.push (a := .d d) (v := w) rw').drop drop3⟩
        rcases hq with hq | hq
        · exact .inl ⟨p, vs, i, w, rfl, hu, hq, hw, fin⟩
        · exact .inr (.inl ⟨p, vs, i, w, rfl, hu, hq, hw, fin⟩)
  · cases e3
/-- a part of a slice -/
abbrev QO := Ga → So → Option (Option Int)
def wpO (X : Cx) (e : Option Expr) : TO := fun σ H Q => ∀ (pins : List (Addr × Obj)) (s : Shared), Inv X pins σ H s → wpAny (model X.prog X.w) X.A (evalPart e X.env) (fun u s' => ∃ o H', Inv X pins σ H' s' ∧ IsPart u o ∧ Q o H') X.xe s
theorem po_wp {e : Option Expr} : PO X e (wpO X e) := ⟨fun pins s σ H Q I h => h pins s I⟩
theorem wpO_of {e : Option Expr} {t : TO} {σ : L2.St} {H : Hp} (h : PO X e t) {Q : Option Int → Hp → Prop} (q : t σ H Q) : wpO X e σ H Q := fun pins s I => h.run pins s σ H Q I q
theorem wpO_mono {e : Option Expr} {σ : L2.St} {H : Hp} {Q Q' : Option Int → Hp → Prop} (h : wpO X e σ H Q) (k : ∀ b H', Q b H' → Q' b H') : wpO X e σ H Q' := fun pins s I => thn (h pins s I) fun _ _ ⟨o, H', I', p, q⟩ => ⟨o, H', I', p, k _ H' q⟩
def RO (ci : Ci) (X : Cx) (e : Option Expr) (f : QO) : Prop := ∀ (F : Fr X.K ci) T Γ S σ H o, Rel F T Γ S σ H → f Γ S = some o → wpO X e σ H (fun c H' => c = o ∧ Rel F T Γ S σ H')
def oN : QO := fun _ _ => some none
def oS (f : QF) : QO := fun Γ S => (f Γ S).bind fun a => match a with | .d (.int i) => some (some i) | _ => none
theorem ro_n : RO ci X none oN := fun F T Γ S σ H o r q => by
  cases q; exact wpO_of po_none ⟨rfl, r⟩
theorem ro_s {e : Expr} {f : QF} (h : RP ci X e f) : RO ci X (some e) (oS f) := fun F T Γ S σ H o r q => by
  unfold oS at q
  cases e1 : f Γ S with
  | none => rw [e1] at q; cases q
  | some a =>
    rw [e1, Option.bind_some] at q
    split at q
    · cases q
      exact wpO_of (po_some pe_wp) (wpX_mono (h F T Γ S σ H _ r e1) fun v H' h' => ⟨_, h'.asInt List.mem_cons_self, rfl, h'.tail⟩)
    · cases q
def cutD (l : List D) (lo hi : Option Int) : List D := (l.drop (HT.sIx l.length 0 lo)).take (HT.sIx l.length l.length hi - HT.sIx l.length 0 lo)
theorem cut_reps {K : PySem.W.Frag} {M : List Addr} {H : Hp} {l : List D} {vs : List V} {lo hi : Option Int} (R : Reps K ci M H l vs) : Reps K ci M H (cutD l lo hi) (cutV vs lo hi) := by
  unfold cutD cutV
  rw [R.length]
  exact (R.drop _).take _
theorem sl_some {f : QF} {lo hi : QO} {k : A → Option Int → Option Int → Option A} {Γ : Ga} {S : So} {z : A} (h : ((f Γ S).bind fun a => (lo Γ S).bind fun l => (hi Γ S).bind fun u => k a l u) = some z) : ∃ a l u, f Γ S = some a ∧ lo Γ S = some l ∧ hi Γ S = some u ∧ k a l u = some z := by
  cases e1 : f Γ S with
  | none => rw [e1] at h; cases h
  | some a =>
    cases e2 : lo Γ S with
    | none => rw [e1, e2] at h; cases h
    | some l =>
      cases e3 : hi Γ S with
      | none => rw [e1, e2, e3] at h; cases h
      | some u => rw [e1, e2, e3] at h; exact ⟨a, l, u, rfl, rfl, rfl, h⟩
theorem slice_run {e : Expr} {lo hi : Option Expr} {f : QF} {fl fh : QO} (he : RP ci X e f) (hl : RO ci X lo fl) (hh : RO ci X hi fh) {F : Fr X.K ci} {T : List (A × V)} {Γ : Ga} {S : So} {σ : L2.St} {H : Hp} {a : A} {l u : Option Int} (r : Rel F T Γ S σ H) (e1 : f Γ S = some a) (e2 : fl Γ S = some l) (e3 : fh Γ S = some u)
    {R : V → Option Int → Option Int → Hp → Prop} (k : ∀ v H', Rel F ((a, v) :: T) Γ S σ H' → R v l u H') : wpX X e σ H fun v H1 => wpO X lo σ H1 fun c H2 => wpO X hi σ H2 fun d H3 => R v c d H3 :=
  wpX_mono (he F T Γ S σ H a r e1) fun v H1 r1 => wpO_mono (hl F _ Γ S σ H1 l r1 e2) fun c H2 ⟨q2, r2⟩ => wpO_mono (hh F _ Γ S σ H2 u r2 e3) fun d H3 ⟨q3, r3⟩ => by
    subst q2 q3; exact k v H3 r3
theorem as1 {K : PySem.W.Frag} {F : Fr K ci} {T : List (A × V)} {a : A} {vs : List V} (hl : [a].length = vs.length) (h : ∀ q ∈ [a].zip vs, q ∈ T) : ∃ v, vs = [v] ∧ (a, v) ∈ T := by
  match vs, hl with
  | [v], _ => exact ⟨v, rfl, h _ (by simp)⟩
def gLen (S : So) : List A → Option D
  | [.d (.str s)] => if s.length ≤ sizeLine then some (.int s.length) else none
  | [.d (.ins _ _)] => none
  | [a] => (viewQ S a).map fun l => .int l.length
  | _ => none
theorem c_len : CallG ci X (.builtin "len") gLen := ⟨_, call_len, fun F T Γ S σ H as vs d r hl hT e Q k => by
  unfold gLen at e
  split at e
  · split at e
    · rename_i hs
      obtain ⟨v, rfl, hv⟩ := as1 (F := F) hl hT
      have := r.asStr hv
      subst this
      cases e
      exact ⟨_, _, rfl, ⟨hs, rfl⟩, k _ _ (r.int _)⟩
    · cases e
  · cases e
  · rename_i a _ _
    obtain ⟨v, rfl, hv⟩ := as1 (F := F) hl hT
    cases e1 : viewQ S a with
    | none => rw [e1] at e; cases e
    | some l =>
      rw [e1] at e; cases e
      obtain ⟨ρ, r'⟩ := id r
      obtain ⟨p, vs, rfl, hq, R⟩ := r'.viewQ (r'.top hv) e1
      refine ⟨_, vs.length, rfl, ?_, ?_⟩
      · rcases hq with hq | hq
        · exact .inl ⟨vs, hq, rfl⟩
        · exact .inr ⟨vs, hq, rfl⟩
      · rw [← R.length]; exact k _ _ (r.int _)
  · cases e⟩
def gInt (_ : So) : List A → Option D
  | [.d (.int i)] => some (.int i)
  | [.d (.bl b)] => some (.int (if b then 1 else 0))
  | _ => none
theorem c_int : CallG ci X (.type "int") gInt := ⟨_, call_int1, fun F T Γ S σ H as vs d r hl hT e Q k => by
  unfold gInt at e
  split at e
  · obtain ⟨v, rfl, hv⟩ := as1 (F := F) hl hT
    cases e
    exact .inl ⟨_, by rw [r.asInt hv], k _ _ (r.int _)⟩
  · obtain ⟨v, rfl, hv⟩ := as1 (F := F) hl hT
    cases e
    exact .inr ⟨_, by rw [r.asBl hv], k _ _ (r.int _)⟩
  · cases e⟩
/-- max, min of two dInts -/
def g2 (f : Int → Int → Int) (_ : So) : List A → Option D
  | [.d (.int i), .d (.int j)] => some (.int (f i j))
  | _ => none
def dBools : List D → Option (List Bool)
  | [] => some []
  | .bl b :: l => (dBools l).map (b :: ·)
  | _ => none
theorem bools_reps {K : PySem.W.Frag} {M : List Addr} {H : Hp} : ∀ {l : List D} {vs : List V} {bs : List Bool}, dBools l = some bs → Reps K ci M H l vs → vs = bs.map V.bl
  | [], vs, bs, h, r => by cases h; rw [Reps] at r; exact r
  | d :: l, vs, bs, h, r => by
    cases d <;> first | (simp [dBools] at h; done) | skip
    rename_i b
    rw [dBools] at h
    cases e : dBools l with
    | none => rw [e] at h; cases h
    | some cs =>
      rw [e] at h; cases h
      rw [Reps] at r
      obtain ⟨v, rr, rfl, r1, r2⟩ := r
      rw [Rep] at r1
      rw [List.map_cons, r1, bools_reps e r2]
def gBools (f : List Bool → Bool) (S : So) : List A → Option D
  | [a] => (viewL S a).bind fun l => (dBools l).map fun bs => .bl (f bs)
  | _ => none
theorem gBools_ok {f : List Bool → Bool} {F : Fr X.K ci} {T : List (A × V)} {Γ : Ga} {S : So} {σ : L2.St} {H : Hp} {as : List A} {vs : List V} {d : D} (r : Rel F T Γ S σ H) (hl : as.length = vs.length) (hT : ∀ q ∈ as.zip vs, q ∈ T) (e : gBools f S as = some d) :
    ∃ a bs, vs = [V.ref a] ∧ SqL X.K H a (bs.map V.bl) ∧ d = .bl (f bs) := by
  unfold gBools at e
  split at e
  · rename_i a
    obtain ⟨v, rfl, hv⟩ := as1 (F := F) hl hT
    cases e1 : viewL S a with
    | none => rw [e1] at e; cases e
    | some l =>
      rw [e1, Option.bind_some] at e
      cases e2 : dBools l with
      | none => rw [e2] at e; cases e
      | some bs =>
        rw [e2] at e; cases e
        obtain ⟨ρ, r⟩ := r
        obtain ⟨p, vs, rfl, hq, R⟩ := r.viewL (r.top hv) e1
        have := bools_reps e2 R
        subst this
        exact ⟨p, bs, rfl, hq, rfl⟩
  · cases e
theorem c_all (hc : X.calm = true) : CallG ci X (.builtin "all") (gBools fun l => l.all id) := ⟨_, cr_all hc, fun F T Γ S σ H as vs d r hl hT e Q k => by
  obtain ⟨a, bs, rfl, hq, rfl⟩ := gBools_ok r hl hT e
  exact ⟨a, bs, rfl, hq, k _ _ (r.bl _)⟩⟩
end
end LP
namespace LP
open PySem PySem.Spec PyProof.Rows L2
def gWp (X : Cx) (tg : Expr) : TG := fun v σ H Q => ∀ (pins : List (Addr × Obj)) (s : Shared) (u : Value), Inv X pins σ H s → RelV v u → wpAny (model X.prog X.w) X.A (assign tg X.env u) (fun _ s' => ∃ σ' H', Inv X pins σ' H' s' ∧ Q σ' H') X.xe s
theorem pg_wp {X : Cx} {tg : Expr} : PG X tg (gWp X tg) := ⟨fun pins s σ H v u Q I r h => h pins s u I r⟩
theorem gWp_of {X : Cx} {tg : Expr} {t : TG} (h : PG X tg t) {v : V} {σ : L2.St} {H : Hp} {Q : L2.St → Hp → Prop} (q : t v σ H Q) : gWp X tg v σ H Q := fun pins s u I r => h.run pins s σ H v u Q I r q
theorem gWp_mono {X : Cx} {tg : Expr} {v : V} {σ : L2.St} {H : Hp} {Q Q' : L2.St → Hp → Prop} (h : gWp X tg v σ H Q) (k : ∀ σ' H', Q σ' H' → Q' σ' H') : gWp X tg v σ H Q' := fun pins s u I r => thn (h pins s u I r) fun _ _ ⟨σ', H', I', q⟩ => ⟨σ', H', I', k _ _ q⟩
abbrev TgF := Ga → D → Option Ga
def RG (ci : Ci) (X : Cx) (tg : Expr) (t : TgF) (vs : List Nat) : Prop := ∀ (F : Fr X.K ci) T Γ S σ H d x Γ', Rel F T Γ S σ H → (A.d d, x) ∈ T → t Γ d = some Γ' →
  gWp X tg x σ H (fun σ' H' => (∀ us : List Nat, (∀ i ∈ vs, i ∈ us) → L2.wipe σ' us = L2.wipe σ us) ∧ Rel F T Γ' S σ' H')
def tgN (i : Nat) : TgF := fun Γ d => some (Γ.set i (some (.d d)))
def setAll (Γ : Ga) : List Nat → List D → Ga
  | i :: is, d :: ds => setAll (Γ.set i (some (.d d))) is ds
  | _, _ => Γ
def tgT (is : List Nat) : TgF := fun Γ d => match d with
  | .tup l => if l.length = is.length then some (setAll Γ is l) else none
  | _ => none
section
variable {ci : Ci} {X : Cx}
theorem Rel.put {K : PySem.W.Frag} {F : Fr K ci} {T : List (A × V)} {Γ : Ga} {S : So} {σ : L2.St} {H : Hp} (r : Rel F T Γ S σ H) {a : A} {v : V} (i : Nat) (h : (a, v) ∈ T) : Rel F T (Γ.set i (some a)) S (σ.set i (some v)) H := by
  obtain ⟨ρ, r⟩ := r
  exact ⟨ρ, r.put i (r.top h)⟩
theorem rg_n (i : Nat) {x : Str} {pos : Pos} (hN : X.N.Nodup) (hi : X.N[i]? = some x) (hx : Loc X.env.scope x) (hf : X.fn x = true ∨ X.env.scope.names.lookup x = some .local := by exact fn_of (by kernel_rfl)) : RG ci X (.Name x pos) (tgN i) [i] := fun F T Γ S σ H d x Γ' r h q => by
  cases q
  exact gWp_of (pg_name hN hi hx hf) ⟨fun us hu => wipe_set (hu i List.mem_cons_self), r.put i h⟩
/-- several names -/
def RGs (ci : Ci) (X : Cx) (es : List Expr) (is : List Nat) : Prop := ∃ t, PGs X es t ∧ ∀ (F : Fr X.K ci) T Γ S σ H ds xs, Rel F T Γ S σ H → ds.length = xs.length → ds.length = is.length → (∀ q ∈ (ds.map A.d).zip xs, q ∈ T) →
  ∀ Q : L2.St → Hp → Prop, (∀ σ' H', (∀ us : List Nat, (∀ i ∈ is, i ∈ us) → L2.wipe σ' us = L2.wipe σ us) → Rel F T (setAll Γ is ds) S σ' H' → Q σ' H') → t xs σ H Q
theorem rgs_nil : RGs ci X [] [] := ⟨_, pgs_nil, fun F T Γ S σ H ds xs r h1 h2 _ Q k => by
  cases ds with
  | cons d l => cases h2
  | nil =>
    cases xs with
    | cons v l => cases h1
    | nil => exact ⟨rfl, k _ _ (fun _ _ => rfl) r⟩⟩
theorem rgs_n (i : Nat) {x : Str} {pos : Pos} {es : List Expr} {is : List Nat} (hN : X.N.Nodup) (hi : X.N[i]? = some x) (hx : Loc X.env.scope x) (h : RGs ci X es is) (hf : X.fn x = true ∨ X.env.scope.names.lookup x = some .local := by exact fn_of (by kernel_rfl))
    (he : (assignEach (.Name x pos :: es) X.env).map (·.2) = assign (.Name x pos) X.env :: (assignEach es X.env).map (·.2) := by rfl) : RGs ci X (.Name x pos :: es) (i :: is) := by
  obtain ⟨t, ht, hk⟩ := h
  refine ⟨_, pgs_cons (pg_name hN hi hx hf) ht he, fun F T Γ S σ H ds xs r h1 h2 hT Q k => ?_⟩
  cases ds with
  | nil => cases h2
  | cons d ds =>
    cases xs with
    | nil => cases h1
    | cons v xs =>
      refine ⟨v, xs, rfl, hk F T _ S _ H ds xs (r.put i (a := .d d) (v := v) (hT _ (by simp))) (by simpa using h1) (by simpa using h2) (fun q hq => hT q (by rw [List.map_cons, List.zip_cons_cons]; exact List.mem_cons_of_mem _ hq)) Q fun σ' H' w r' => k σ' H' (fun us hu => ?_) r'⟩
      rw [w us (fun j hj => hu j (List.mem_cons_of_mem _ hj)), wipe_set (hu i List.mem_cons_self)]
theorem rg_t {es : List Expr} {k : Nat} {pos : Pos} {is : List Nat} (hc : X.calm = true) (h : RGs ci X es is) (hn : (assignEach es X.env).length = is.length := by kernel_rfl) (hst : (assignEach es X.env).findIdx? (·.1) = none := by kernel_rfl) : RG ci X (.Tuple es k pos) (tgT is) is := fun F T Γ S σ H d x Γ' r hd q => by
  obtain ⟨t, ht, hk⟩ := h
  unfold tgT at q
  split at q
  · rename_i l
    split at q
    · rename_i hl
      cases q
      obtain ⟨ρ, r⟩ := r
      obtain ⟨p, vs, rfl, hq, R⟩ := RelR.viewT (r.top hd) rfl
      have hz : l.length = vs.length := R.length
      refine gWp_of (pg_tup hc ht hn hst) ⟨p, vs, rfl, hq, by rw [← hz, hl], ?_⟩
      have r2 : Rel F ((l.map A.d).zip vs ++ T) Γ S σ H := ⟨ρ, by
        have := r.tl
        refine { r with tl := fun q hq => ?_ }
        rcases List.mem_append.mp hq with hq | hq
        · obtain ⟨i, hi⟩ := List.mem_iff_getElem?.mp hq
          rw [List.getElem?_zip_eq_some, List.getElem?_map] at hi
          obtain ⟨hi1, hi2⟩ := hi
          obtain ⟨d', hd', rd⟩ := R.get hi2
          rw [hd'] at hi1
          cases q
          simp at hi1
          subst hi1
          exact rd
        · exact this q hq⟩
      exact hk F _ Γ S σ H l vs r2 hz hl (fun q hq => List.mem_append_left _ hq) _ fun σ' H' w r' => ⟨w, r'.drop fun q hq => List.mem_append_right _ hq⟩
    · cases q
  · cases q
def wpI (X : Cx) (tg iter : Expr) : TI := fun σ H R => ∀ (pins : List (Addr × Obj)) (s : Shared), Inv X pins σ H s → wpAny (model X.prog X.w) X.A (eval iter X.env) (fun v s1 => wpAny (model X.prog X.w) X.A (pyIter v) (PIE X pins σ tg R) X.xe s1) X.xe s
theorem pi_wp {tg iter : Expr} : PI X tg iter (wpI X tg iter) := ⟨fun pins s σ H R I h => h pins s I⟩
theorem wpI_of {tg iter : Expr} {t : TI} (h : PI X tg iter t) {σ : L2.St} {H : Hp} {R : It → Hp → Prop} (q : t σ H R) : wpI X tg iter σ H R := fun pins s I => h.run pins s σ H R I q
theorem wpI_mono {tg iter : Expr} {σ : L2.St} {H : Hp} {R R' : It → Hp → Prop} (h : wpI X tg iter σ H R) (k : ∀ J H', R J H' → R' J H') : wpI X tg iter σ H R' := fun pins s I => thn (h pins s I) fun _ _ h1 => thn h1 fun _ _ ⟨it, fp, tn, J, H', e, I', T, t0, f, q⟩ => ⟨it, fp, tn, J, H', e, I', T, t0, f, k _ _ q⟩
def ItSpec (K : PySem.W.Frag) (ci : Ci) (J : It) (U : List (A × V)) (it : So → Option (List D)) (ds : List D) : Prop :=
  ds.length ≤ sizeLine ∧ ∃ G Y, Walk J ds.length G Y ∧ ∀ (F : Fr K ci) T Γ S σ H, Rel F T Γ S σ H → (∀ q ∈ U, q ∈ T) → it S = some ds → G H ∧ ∀ i x H', i < ds.length → Y i H x H' → ∃ d, ds[i]? = some d ∧ Rel F ((.d d, x) :: T) Γ S σ H'
abbrev QI := Ga → So → Option (So → Option (List D))
def RI (ci : Ci) (X : Cx) (tg iter : Expr) (fi : QI) : Prop := ∀ (F : Fr X.K ci) T Γ S σ H it ds, Rel F T Γ S σ H → fi Γ S = some it → it S = some ds → wpI X tg iter σ H (fun J H' => ∃ U, ItSpec X.K ci J U it ds ∧ Rel F (U ++ T) Γ S σ H')
def iL (f : QF) : QI := fun Γ S => (f Γ S).map fun a S' => viewL S' a
theorem ri_list {tg e : Expr} {f : QF} (h : RP ci X e f) : RI ci X tg e (iL f) := fun F T Γ S σ H it ds r q1 q2 => by
  unfold iL at q1
  cases e1 : f Γ S with
  | none => rw [e1] at q1; cases q1
  | some a =>
    rw [e1] at q1; cases q1
    refine wpI_of (pi_list pe_wp) (wpX_monoI (h F T Γ S σ H _ r e1) fun v H' hz h' => ?_)
    obtain ⟨ρ, h'⟩ := id h'
    obtain ⟨p, vs, rfl, hq, R⟩ := h'.viewL (h'.top List.mem_cons_self) q2
    refine ⟨p, rfl, ⟨vs, hq⟩, [(a, .ref p)], ⟨by rw [R.length]; exact hz p vs (.inl hq), fun H => ∃ xs, SqL X.K H p xs ∧ xs.length = ds.length, fun i H x H' => H' = H ∧ ∀ xs, SqL X.K H p xs → xs[i]? = some x, ⟨?_, ?_, ?_⟩, ?_⟩, ⟨ρ, h'⟩⟩
    · rintro i H hi ⟨xs, hs, hl⟩
      exact ⟨xs, xs[i]'(by omega), hs, by simp⟩
    · rintro H ⟨xs, hs, hl⟩
      exact ⟨xs, hs, by omega⟩
    · rintro i H x H' hi _ ⟨h1, h2⟩
      exact ⟨h1, h2⟩
    · intro F T Γ S σ H r hU hS
      obtain ⟨ρ, r⟩ := r
      have hm : (a, V.ref p) ∈ T := hU _ List.mem_cons_self
      obtain ⟨p', vs', e, hq', R'⟩ := r.viewL (r.top hm) hS
      cases e
      refine ⟨⟨vs', hq', R'.length.symm⟩, ?_⟩
      rintro i x H' hi ⟨rfl, h2⟩
      obtain ⟨d, hd, rd⟩ := R'.get (h2 vs' hq')
      exact ⟨d, hd, ρ, r.push rd⟩
/-- lo, lo + 1, .. -/
def rangeD (lo : Int) (n : Nat) : List D := (List.range n).map fun (i : Nat) => .int (lo + (i : Int))
def iR1 (f : QF) : QI := fun Γ S => (f Γ S).bind fun a => match a with
  | .d (.int j) => if -(2 ^ 62) ≤ j ∧ j ≤ 16777216 then some fun _ => some (rangeD 0 j.toNat) else none
  | _ => none
def compL {α β : Type} (h : α → Option (Option β)) : List α → Option (List β)
  | [] => some []
  | x :: xs => (h x).bind fun o => (compL h xs).map fun r => match o with | some y => y :: r | none => r
theorem compL_snoc {α β : Type} {h : α → Option (Option β)} {y : α} : ∀ {xs : List α} {r : List β} {o : Option β}, compL h xs = some r → h y = some o → compL h (xs ++ [y]) = some (match o with | some z => r ++ [z] | none => r)
  | [], r, o, e, e2 => by cases e; simp only [List.nil_append, compL, e2]; cases o <;> rfl
  | x :: xs, r, o, e, e2 => by
    simp only [List.cons_append, compL] at e ⊢
    cases e1 : h x with
    | none => rw [e1] at e; cases e
    | some p =>
      rw [e1, Option.bind_some] at e
      cases e3 : compL h xs with
      | none => rw [e3] at e; cases e
      | some r' =>
        rw [e3] at e; cases e
        rw [Option.bind_some, compL_snoc e3 e2]
        cases p <;> cases o <;> rfl
theorem compL_at {α β : Type} {h : α → Option (Option β)} : ∀ {xs : List α} {r : List β} {i : Nat} {x : α}, compL h xs = some r → xs[i]? = some x → ∃ o, h x = some o
  | [], r, i, x, e, hx => by simp at hx
  | y :: xs, r, i, x, e, hx => by
    simp only [compL] at e
    cases e1 : h y with
    | none => rw [e1] at e; cases e
    | some p =>
      rw [e1, Option.bind_some] at e
      cases e3 : compL h xs with
      | none => rw [e3] at e; cases e
      | some r' =>
        cases i with
        | zero => simp at hx; subst hx; exact ⟨p, e1⟩
        | succ i => exact compL_at e3 (by simpa using hx)
theorem compL_len {α β : Type} {h : α → Option (Option β)} : ∀ {xs : List α} {r : List β}, compL h xs = some r → r.length ≤ xs.length
  | [], r, e => by cases e; simp
  | y :: xs, r, e => by
    simp only [compL] at e
    cases e1 : h y with
    | none => rw [e1] at e; cases e
    | some p =>
      rw [e1, Option.bind_some] at e
      cases e3 : compL h xs with
      | none => rw [e3] at e; cases e
      | some r' =>
        rw [e3] at e; cases e
        have := compL_len e3
        cases p <;> simp <;> omega
theorem compL_map {α β γ : Type} {h : β → Option (Option γ)} {f : α → β} : ∀ {xs : List α}, compL h (xs.map f) = compL (fun x => h (f x)) xs
  | [] => rfl
  | x :: xs => by simp only [List.map_cons, compL, compL_map]
theorem compL_some {α β : Type} {f : α → β} : ∀ {xs : List α}, compL (fun x => some (some (f x))) xs = some (xs.map f)
  | [] => rfl
  | x :: xs => by simp only [List.map_cons, compL, compL_some]; rfl
theorem compL_congr {α β : Type} {h h' : α → Option (Option β)} : ∀ {xs : List α}, (∀ x ∈ xs, h x = h' x) → compL h xs = compL h' xs
  | [], _ => rfl
  | x :: xs, k => by
    simp only [compL]
    rw [k x List.mem_cons_self, compL_congr fun y hy => k y (List.mem_cons_of_mem _ hy)]
/-- within the block of a comprehension, whatever it is made of -/
abbrev BlkX (X : Cx) (scope : Scope) (P : Cx → Prop) : Prop := ∀ (s : Shared) (H : Hp) (C : Addr) (cl : List (Str × Addr)) (fp : List Addr), P (X.blk s H scope (compEnvC scope cl C X.env) fp)
/-- its tests -/
def RC (ci : Ci) (X : Cx) (ifs : List Expr) (b : QB) : Prop := (ifs = [] ∧ b = fun _ _ => some true) ∨ ∃ e, ifs = [e] ∧ RB ci X e b
theorem rc_nil : RC ci X [] (fun _ _ => some true) := .inl ⟨rfl, rfl⟩
theorem rc_one {e : Expr} {b : QB} (h : RB ci X e b) : RC ci X [e] b := .inr ⟨e, rfl, h⟩
def eltF (t : TgF) (vs : List Nat) (b : QB) (f : QF) (Γ : Ga) (S : So) (d : D) : Option (Option D) := (t (wipeG Γ vs) d).bind fun Γ' => (b Γ' S).bind fun c => if c = true then ((f Γ' S).bind A.toD).map some else some none
def fComp (fi : QI) (t : TgF) (vs : List Nat) (b : QB) (f : QF) : QF := fun Γ S => (fi Γ S).bind fun it => (it S).bind fun ds => (compL (eltF t vs b f Γ S) ds).map fun l => .d (.lst l)
def wpC (X : Cx) (ifs : List Expr) : TT := fun σ H Q => ∀ (pins : List (Addr × Obj)) (s : Shared), Inv X pins σ H s →
    wpAny (model X.prog X.w) X.A (forIn ifs true fun c r => if r = true then do let ok ← isTrue c X.env (eval c X.env); pure (ForInStep.yield ok) else pure (ForInStep.yield r)) (TP X pins σ Q) X.xe s
theorem wpC_of {Y : Cx} {ifs : List Expr} {t : TT} (h : PTs Y ifs t) {σ : L2.St} {H : Hp} {Q : Bool → Hp → Prop} (q : t σ H Q) : wpC Y ifs σ H Q := fun pins s I => h.run pins s σ H Q I q
theorem wpC_mono {Y : Cx} {ifs : List Expr} {σ : L2.St} {H : Hp} {Q Q' : Bool → Hp → Prop} (h : wpC Y ifs σ H Q) (k : ∀ b H', Q b H' → Q' b H') : wpC Y ifs σ H Q' := fun pins s I => thn (h pins s I) fun _ _ ⟨H', I', q⟩ => ⟨H', I', k _ H' q⟩
def gB (X : Cx) (scope : Scope) (tg : Expr) : TG := fun v σ H Q => BlkX X scope fun Y => gWp Y tg v σ H Q
def tB' (X : Cx) (scope : Scope) (ifs : List Expr) : TT := fun σ H Q => BlkX X scope fun Y => wpC Y ifs σ H Q
def eB (X : Cx) (scope : Scope) (e : Expr) : TE := fun σ H Q => BlkX X scope fun Y => wpX Y e σ H Q
/-- the reading of a comprehension -/
theorem comp_run {elt tg iter : Expr} {ifs : List Expr} {scope : Scope} {vs : List Nat} {fi : QI} {t : TgF} {ws : List Nat} {b : QB} {f : QF} (hi : RI ci X tg iter fi) (hg : BlkX X scope fun Y => RG ci Y tg t ws) (hw : ∀ i ∈ ws, i ∈ vs) (hb : BlkX X scope fun Y => RC ci Y ifs b) (hf : BlkX X scope fun Y => RP ci Y elt f)
    {F : Fr X.K ci} {T : List (A × V)} {Γ : Ga} {S : So} {σ : L2.St} {H : Hp} {a : A} (r : Rel F T Γ S σ H) (q : fComp fi t vs b f Γ S = some a) {Q : VK} (k : ∀ p H', Rel F ((a, .ref p) :: T) Γ S σ H' → Q (.ref p) H') :
    tLc (wpI X tg iter) (gB X scope tg) (tB' X scope ifs) (eB X scope elt) vs σ H Q := by
  unfold fComp at q
  cases e1 : fi Γ S with
  | none => rw [e1] at q; cases q
  | some it =>
    rw [e1, Option.bind_some] at q
    cases e2 : it S with
    | none => rw [e2] at q; cases q
    | some ds =>
      rw [e2, Option.bind_some] at q
      cases e3 : compL (eltF t vs b f Γ S) ds with
      | none => rw [e3] at q; cases q
      | some res =>
        rw [e3] at q; cases q
        refine wpI_mono (hi F T Γ S σ H it ds r e1 e2) fun J H1 ⟨U, ⟨hsz, G, Y, W, spec⟩, r1⟩ Dl hD => ?_
        obtain ⟨ρ1, r1⟩ := r1
        obtain ⟨V', hV, r1⟩ := r1.keep
        have hgs := r1.gs
        let T1 := V' ++ (U ++ T)
        let Pv : Nat → Hp → Prop := fun i H' => ∃ acc vs' Hb ρ, compL (eltF t vs b f Γ S) (ds.take i) = some acc ∧ Hb Dl = none ∧ H' = upd Hb Dl (.lst vs') ∧ acc.length = vs'.length ∧ RelR F ρ ((acc.map A.d).zip vs' ++ T1) Γ S σ Hb
        refine lc_it W Pv ⟨[], [], H1, ρ1, by simp [compL], hD, rfl, rfl, r1⟩ ?_ ?_ ?_
        · rintro i H' _ ⟨acc, vs', Hb, ρ, h1, h2, rfl, h3, h4⟩
          exact (spec F _ Γ S σ _ ⟨ρ, h4.alloc h2⟩ (fun q hq => by simp [T1, hq]) e2).1
        · rintro i x H2 H3 hlt ⟨acc, vs', Hb, ρ, h1, h2, rfl, h3, h4⟩ hy
          have rin := h4.hideIn (o := .lst vs') h2
          obtain ⟨d, hd, r3⟩ := (spec _ _ Γ S σ _ ⟨ρ, rin⟩ (fun q hq => by simp [T1, hq]) e2).2 i x H3 hlt hy
          obtain ⟨o, ho⟩ := compL_at e3 hd
          have hacc := compL_snoc h1 ho
          have htk : ds.take (i + 1) = ds.take i ++ [d] := by rw [List.take_succ, hd]; rfl
          rw [← htk] at hacc
          have hlen : vs'.length < sizeLine := by
            have a1 := compL_len h1
            have a2 : (ds.take i).length ≤ i := by rw [List.length_take]; omega
            omega
          unfold eltF at ho
          cases e4 : t (wipeG Γ vs) d with
          | none => rw [e4] at ho; cases ho
          | some Γ' =>
            rw [e4, Option.bind_some] at ho
            cases e5 : b Γ' S with
            | none => rw [e5] at ho; cases ho
            | some c =>
              rw [e5, Option.bind_some] at ho
              obtain ⟨ρ3, r3⟩ := r3
              intro s0 H0 C cl fp
              refine gWp_mono (hg s0 H0 C cl fp _ _ (wipeG Γ vs) S (wipe σ vs) H3 d x Γ' ⟨ρ3, r3.wipe vs⟩ List.mem_cons_self e4) fun σ2 H4 ⟨w1, r4⟩ => ?_
              refine ⟨by rw [w1 vs hw, wipe_idem vs vs fun _ h => h], ?_⟩
              have back : ∀ {ρ5 : List Addr} {T5 : List (A × V)} {H5 : Hp}, RelR (F.hide (upd Hb Dl (.lst vs')) ρ S Dl) ρ5 (T5 ++ ((acc.map A.d).zip vs' ++ T1)) Γ' S σ2 H5 → H5 Dl = some (.lst vs') ∧ RelR F ρ5 (T5 ++ ((acc.map A.d).zip vs' ++ T1)) Γ S σ (less H5 Dl) := fun {ρ5 T5 H5} r5 => by
                obtain ⟨q1, q2⟩ := h4.hideOut h2 r5
                refine ⟨q1, q2.slots hgs fun j a e => ?_⟩
                obtain ⟨v, v1, v2⟩ := hV j a e
                exact ⟨v, v1, q2.tl (a, v) (by simp [T1, v2])⟩
              intro s0 H0 C cl fp
              have tst : wpC (X.blk s0 H0 scope (compEnvC scope cl C X.env) fp) ifs σ2 H4 (fun c' H' => c' = c ∧ Rel (F.hide (upd Hb Dl (.lst vs')) ρ S Dl) ((.d d, x) :: ((acc.map A.d).zip vs' ++ T1)) Γ' S σ2 H') := by
                rcases hb s0 H0 C cl fp with ⟨rfl, rfl⟩ | ⟨e0, rfl, hbb⟩
                · cases e5
                  exact wpC_of pts_nil ⟨rfl, r4⟩
                · exact wpC_of (pts_one pt_wp) (hbb _ _ Γ' S σ2 H4 c r4 e5)
              refine wpC_mono tst fun c' H5 ⟨hc', r5⟩ => ?_
              subst hc'
              cases c' with
              | false =>
                rw [if_neg Bool.false_ne_true] at ho
                cases ho
                refine iteF ?_
                obtain ⟨ρ5, r5⟩ := r5
                obtain ⟨q1, q2⟩ := back (T5 := [_]) r5
                refine ⟨acc, vs', less H5 Dl, ρ5, hacc, less_same, ?_, h3, q2.drop fun q hq => List.mem_cons_of_mem _ hq⟩
                rw [← upd_less]
                funext z
                by_cases hz : z = Dl
                · subst hz; rw [upd_same, q1]
                · rw [upd_ne hz]
              | true =>
                rw [if_pos rfl] at ho
                cases e6 : f Γ' S with
                | none => rw [e6] at ho; cases ho
                | some a6 =>
                  cases a6 with
                  | loc k6 => rw [e6] at ho; cases ho
                  | d d6 =>
                    rw [e6] at ho
                    cases ho
                    refine iteT ?_
                    intro s0 H0 C cl fp
                    refine wpX_mono (hf s0 H0 C cl fp _ _ Γ' S σ2 H5 _ r5 e6) fun y H6 r6 => ?_
                    obtain ⟨ρ6, r6⟩ := r6
                    obtain ⟨q1, q2⟩ := back (T5 := [_, _]) r6
                    refine ⟨vs', q1, hlen, acc ++ [d6], vs' ++ [y], less H6 Dl, ρ6, hacc, less_same, upd_less, by simp [h3], ?_⟩
                    refine q2.drop fun q hq => ?_
                    have e7 : ((acc ++ [d6]).map A.d).zip (vs' ++ [y]) = (acc.map A.d).zip vs' ++ [(A.d d6, y)] := by
                      rw [List.map_append, List.zip_append (by simp [h3])]; rfl
                    rw [e7] at hq
                    simp only [List.mem_append, List.mem_cons, List.not_mem_nil, or_false, List.cons_append, List.nil_append] at hq ⊢
                    rcases hq with (hq | hq) | hq
                    · exact .inr (.inr (.inl hq))
                    · exact .inl hq
                    · exact .inr (.inr (.inr hq))
        · rintro H' ⟨acc, vs', Hb, ρ, h1, h2, rfl, h3, h4⟩
          rw [List.take_length, e3] at h1
          cases h1
          refine k Dl _ ⟨ρ, ?_⟩
          have R := reps_of h4 h3 fun q hq => List.mem_append_left _ hq
          exact (h4.newL h2 R).drop fun q hq => by
            rcases List.mem_cons.mp hq with rfl | hq
            · exact List.mem_cons_self
            · simp [T1, hq]
theorem rp_lc {elt tg iter : Expr} {ifs : List Expr} {scope : Scope} {own : List (Str × Nat)} {pos : Pos} {fi : QI} {t : TgF} {ws : List Nat} {b : QB} {f : QF} (hc : X.calm = true) (hN : X.N.Nodup) (hi : RI ci X tg iter fi) (ok : BlkOk X.N X.env.scope scope own)
    (hg : BlkX X scope fun Y => RG ci Y tg t ws) (hb : BlkX X scope fun Y => RC ci Y ifs b) (hf : BlkX X scope fun Y => RP ci Y elt f) (hw : ∀ i ∈ ws, i ∈ own.map (·.2) := by decide) (hs : ∀ x, foldedSetIterable iter X.env x = pure x := by intro _; rfl) :
    RP ci X (.ListComp elt [⟨tg, iter, ifs, 0⟩] scope pos) (fComp fi t (own.map (·.2)) b f) := fun F T Γ S σ H a r q =>
  wpX_of (pe_lc (te := eB X scope elt) (tt := tB' X scope ifs) (g := gB X scope tg) hc hN pi_wp ok (fun s H C cl fp => ⟨fun pins s' σ H' v u Q I r h => h s H C cl fp pins s' u I r⟩)
    (fun s H C cl fp => ⟨fun pins s' σ H' Q I h => h s H C cl fp pins s' I⟩) (fun s H C cl fp => ⟨fun pins s' σ H' Q I h => h s H C cl fp pins s' I⟩) hs) (comp_run hi hg hw hb hf r q fun p H' h => h)
end
end LP
namespace LP
open PySem PySem.Spec PyProof.Rows L2
abbrev EK := Er → So → Prop
abbrev AK := A → So → Prop
def ErrRep {K : PySem.W.Frag} (ci : Ci) (F : Fr K ci) (ρ : List Addr) (S : So) (er : Er) (cls : Value) (d : Option Addr) (H : Hp) : Prop :=
  cls = .ref (ci er.c).1 ∧ ∃ dx vs, d = some dx ∧ H dx = some (.xd ((er.fs.map (·.1)).zip vs)) ∧ dx ∉ mu F ρ S ∧ vs.length = er.fs.length ∧ Reps K ci (mu F ρ S) H (er.fs.map (·.2)) vs
def ExW {K : PySem.W.Frag} {ci : Ci} (F : Fr K ci) (ex : EK) : Value → Option Addr → Hp → Prop := fun cls d H => ∃ er S ρ, RelR F ρ [] [] S [] H ∧ ErrRep ci F ρ S er cls d H ∧ ex er S
def Xok (X : Cx) {ci : Ci} (F : Fr X.K ci) (ex : EK) : Prop := Takes X fun cls d _ H => ExW F ex cls d H
abbrev WE := Ga → So → EK → AK → Prop
abbrev WT := Ga → So → EK → (Bool → So → Prop) → Prop
abbrev WAs := Ga → So → EK → (List A → So → Prop) → Prop
structure Dn where
  nx : Ga → So → Prop
  rt : AK
  bk : Ga → So → Prop := fun _ _ => False
  ct : Ga → So → Prop := fun _ _ => False
  ex : EK
abbrev WS := Ga → So → Dn → Prop
def VEnd {K : PySem.W.Frag} {ci : Ci} (F : Fr K ci) (T : List (A × V)) (Γ : Ga) (σ : L2.St) (Q : AK) : VK := fun v H' => ∃ a S', Rel F ((a, v) :: T) Γ S' σ H' ∧ Q a S'
def TEnd {K : PySem.W.Frag} {ci : Ci} (F : Fr K ci) (T : List (A × V)) (Γ : Ga) (σ : L2.St) (Q : Bool → So → Prop) : Bool → Hp → Prop := fun b H' => ∃ S', Rel F T Γ S' σ H' ∧ Q b S'
def AEnd {K : PySem.W.Frag} {ci : Ci} (F : Fr K ci) (n : Nat) (T : List (A × V)) (Γ : Ga) (σ : L2.St) (Q : List A → So → Prop) : List V → Hp → Prop := fun vs H' => ∃ as S', as.length = vs.length ∧ as.length = n ∧ Rel F ((as.zip vs) ++ T) Γ S' σ H' ∧ Q as S'
def SEnd {K : PySem.W.Frag} {ci : Ci} (F : Fr K ci) (T : List (A × V)) (D : Dn) : Ends where
  nx := fun σ' H' => ∃ Γ' S', Rel F T Γ' S' σ' H' ∧ D.nx Γ' S'
  rt := fun v H' => ∃ a S', Rel F [(a, v)] [] S' [] H' ∧ D.rt a S'
  bk := fun σ' H' => ∃ Γ' S', Rel F T Γ' S' σ' H' ∧ D.bk Γ' S'
  ct := fun σ' H' => ∃ Γ' S', Rel F T Γ' S' σ' H' ∧ D.ct Γ' S'
def RE (ci : Ci) (X : Cx) (e : Expr) (w : WE) : Prop := ∀ (F : Fr X.K ci) ex, Xok X F ex → ∀ T Γ S σ H Q, Rel F T Γ S σ H → w Γ S ex Q → wpX X e σ H (VEnd F T Γ σ Q)
def RT (ci : Ci) (X : Cx) (e : Expr) (w : WT) : Prop := ∀ (F : Fr X.K ci) ex, Xok X F ex → ∀ T Γ S σ H Q, Rel F T Γ S σ H → w Γ S ex Q → wpT X e σ H (TEnd F T Γ σ Q)
def RA (ci : Ci) (X : Cx) (es : List Expr) (w : WAs) : Prop := ∀ (F : Fr X.K ci) ex, Xok X F ex → ∀ T Γ S σ H Q, Rel F T Γ S σ H → w Γ S ex Q → wpA X es σ H (AEnd F es.length T Γ σ Q)
def RS (ci : Ci) (X : Cx) (st : Stmt) (w : WS) : Prop := ∀ (F : Fr X.K ci) (D : Dn), Xok X F D.ex → ∀ T Γ S σ H, Rel F T Γ S σ H → w Γ S D → wpS X st (SEnd F T D) σ H
def RSs (ci : Ci) (X : Cx) (st : List Stmt) (w : WS) : Prop := ∀ (F : Fr X.K ci) (D : Dn), Xok X F D.ex → ∀ T Γ S σ H, Rel F T Γ S σ H → w Γ S D → wpSs X st (SEnd F T D) σ H
section
variable {K : PySem.W.Frag} {ci : Ci} {F : Fr K ci} {ρ : List Addr} {T : List (A × V)} {Γ : Ga} {S : So} {σ : L2.St} {H H' : Hp}
theorem RelR.bare (r : RelR F ρ T Γ S σ H) : RelR F ρ T [] S [] H := ⟨r.pre, r.len, r.nd, r.st, rfl, fun i a e => by simp at e, r.tl, r.ext, r.fr, r.fo⟩
theorem Rel.bare (r : Rel F T Γ S σ H) : Rel F T [] S [] H := let ⟨ρ, r⟩ := r; ⟨ρ, r.bare⟩
/-- behind a frame within: the old slots and temporaries stand -/
theorem RelR.after (r : RelR F ρ T Γ S σ H) {ρ' : List Addr} {T' : List (A × V)} {Γ' : Ga} {S' : So} {σ' : L2.St} (q : RelR (F.here H ρ S) ρ' T' Γ' S' σ' H') : RelR F ρ' (T' ++ T) Γ S' σ H' := by
  have hh : ∀ a o, H a = some o → a ∉ mu F ρ S → H' a = some o ∧ a ∉ mu F ρ' S' := fun a o e n => by
    refine ⟨q.ext a o e fun z => n (List.mem_append_left _ z), fun z => ?_⟩
    rcases List.mem_append.mp z with z | z
    · rcases q.fr a z with h | h
      · exact n (List.mem_append_left _ h)
      · have h' : H a = none := h
        rw [h'] at e; cases e
    · exact n (List.mem_append_right _ z)
  have g := r.there q
  refine ⟨g.pre, g.len, g.nd, g.st, r.gs, fun i a e => ?_, fun b hb => ?_, g.ext, g.fr, g.fo⟩
  · obtain ⟨v, e1, h⟩ := r.gl i a e
    exact ⟨v, e1, h.mono hh q.pre⟩
  · rcases List.mem_append.mp hb with hb | hb
    · exact g.tl b hb
    · exact (r.tl b hb).mono hh q.pre
/-- a callee that sees nothing that may change -/
def Fr.shut (F : Fr K ci) (H : Hp) (ρ : List Addr) (S : So) : Fr K ci := ⟨H, [], [], mu F ρ S⟩
theorem ARep.dd {ρ ρ' M : List Addr} {d : D} {v : V} (h : ARep K ci ρ M H (.d d) v) : ARep K ci ρ' M H (.d d) v := h
theorem RelR.shut (r : RelR F ρ T Γ S σ H) {U : List (A × V)} (hU : ∀ q ∈ U, q ∈ T) (hd : ∀ q ∈ U, ∃ d, q.1 = A.d d) : RelR (F.shut H ρ S) [] U [] [] [] H := by
  have em : mu (F.shut H ρ S) [] ([] : So) = mu F ρ S := by show mutA [] [] ++ mu F ρ S = mu F ρ S; rfl
  refine ⟨List.prefix_refl _, rfl, by simp [mutA], fun k p o e => (by simp at e), rfl, fun i a e => (by simp at e), fun q hq => ?_, fun a o e _ => e, fun p hp => (by simp [mutA] at hp), fun p hp => ⟨(by intro z; cases z), ?_⟩⟩
  · rw [em]
    have := r.tl q (hU q hq)
    obtain ⟨d, hd⟩ := hd q hq
    rw [hd] at this ⊢
    exact this.dd
  · intro z
    have z' : H p = none := z
    exact r.fresh z' hp
theorem RelR.unshut (r : RelR F ρ T Γ S σ H) {ρ' : List Addr} {d : D} {v : V} {Γ' : Ga} {S' : So} {σ' : L2.St} {T' : List (A × V)} (q : RelR (F.shut H ρ S) ρ' T' Γ' S' σ' H') (hq : (A.d d, v) ∈ T') : RelR F ρ ((.d d, v) :: T) Γ S σ H' := by
  have h0 : ∀ a o, H a = some o → H' a = some o := fun a o e => q.ext a o e (by intro z; cases z)
  have hh : ∀ a o, H a = some o → a ∉ mu F ρ S → H' a = some o ∧ a ∉ mu F ρ S := fun a o e n => ⟨h0 a o e, n⟩
  have g : RelR F ρ T Γ S σ H' := r.move (List.prefix_refl _) r.len r.nd hh (fun k p o e1 e2 => (r.st k p o e1 e2).mono hh (List.prefix_refl _) fun hl => by
    obtain ⟨u, hu, _⟩ := (r.st k p o e1 e2).there hl
    rw [h0 p u hu, hu]) (fun a o e n => h0 a o (r.ext a o e n)) r.fr
  refine g.push ?_
  have := q.tl _ hq
  exact Rep.mono (fun a o e n => ⟨e, fun z => n (List.mem_append_right _ z)⟩) d v this
/-- a callee's error -/
theorem RelR.unshutE (r : RelR F ρ T Γ S σ H) {ρ' : List Addr} {S' : So} {er : Er} {cls : Value} {dd : Option Addr} (q : RelR (F.shut H ρ S) ρ' [] [] S' [] H') (hq : ErrRep ci (F.shut H ρ S) ρ' S' er cls dd H') : RelR F ρ T Γ S σ H' ∧ ErrRep ci F ρ S er cls dd H' := by
  have h0 : ∀ a o, H a = some o → H' a = some o := fun a o e => q.ext a o e (by intro z; cases z)
  have hh : ∀ a o, H a = some o → a ∉ mu F ρ S → H' a = some o ∧ a ∉ mu F ρ S := fun a o e n => ⟨h0 a o e, n⟩
  refine ⟨r.move (List.prefix_refl _) r.len r.nd hh (fun k p o e1 e2 => (r.st k p o e1 e2).mono hh (List.prefix_refl _) fun hl => by
    obtain ⟨u, hu, _⟩ := (r.st k p o e1 e2).there hl
    rw [h0 p u hu, hu]) (fun a o e n => h0 a o (r.ext a o e n)) r.fr, ?_⟩
  obtain ⟨h1, dx, vs, h2, h3, h4, h5, h6⟩ := hq
  exact ⟨h1, dx, vs, h2, h3, fun z => h4 (List.mem_append_right _ z), h5, h6.mono fun a o e n => ⟨e, fun z => n (List.mem_append_right _ z)⟩⟩
end
def frz (S : So) : A → Option (D × So)
  | .d x => some (x, S)
  | .loc k => match S[k]? with
    | some (.lst as) => (dataOf as).map fun l => (.lst l, S.set k (.frz (.lst l)))
    | some (.dK ks as) => (dataOf as).map fun l => (.dic ks l, S.set k (.frz (.dic ks l)))
    | some (.frz d) => some (d, S)
    | _ => none
theorem Rel.frz {K : PySem.W.Frag} {ci : Ci} {F : Fr K ci} {T : List (A × V)} {Γ : Ga} {S S' : So} {σ : L2.St} {H : Hp} {a : A} {v : V} {d : D} (r : Rel F ((a, v) :: T) Γ S σ H) (e : frz S a = some (d, S')) : Rel F ((.d d, v) :: T) Γ S' σ H := by
  obtain ⟨ρ, r⟩ := r
  unfold LP.frz at e
  split at e
  · cases e; exact ⟨ρ, r⟩
  · rename_i k
    obtain ⟨p, hp, rfl⟩ := r.top (a := .loc k) (v := v) List.mem_cons_self
    split at e
    · rename_i as hs
      cases e1 : dataOf as with
      | none => rw [e1] at e; cases e
      | some l =>
        rw [e1] at e; cases e
        obtain ⟨vs, e2, q⟩ := r.st k p _ hp hs
        rw [dataOf_eq e1] at q
        have := r.freeze (d := .lst l) hp hs rfl fun M' hM hn => by
          rw [Rep]
          exact ⟨p, vs, rfl, ⟨e2, hn⟩, q.data.mono hM⟩
        exact ⟨ρ, (this.1.drop fun x hx => List.mem_cons_of_mem _ hx).push this.2⟩
    · rename_i ks as hs
      cases e1 : dataOf as with
      | none => rw [e1] at e; cases e
      | some l =>
        rw [e1] at e; cases e
        obtain ⟨vs, e2, hz, q⟩ := r.st k p _ hp hs
        rw [dataOf_eq e1] at q
        have := r.freeze (d := .dic ks l) hp hs rfl fun M' hM hn => by
          rw [Rep]
          exact ⟨p, vs, rfl, .inl e2, hn, hz, q.data.mono hM⟩
        exact ⟨ρ, (this.1.drop fun x hx => List.mem_cons_of_mem _ hx).push this.2⟩
    · rename_i d' hs
      cases e
      have := r.st k p _ hp hs
      exact ⟨ρ, (r.drop fun x hx => List.mem_cons_of_mem _ hx).push this⟩
    · cases e
def wP (f : QF) : WE := fun Γ S _ Q => ∃ a, f Γ S = some a ∧ Q a S
def wB (f : QB) : WT := fun Γ S _ Q => ∃ b, f Γ S = some b ∧ Q b S
def wPs (f : QFs) : WAs := fun Γ S _ Q => ∃ a, f Γ S = some a ∧ Q a S
def wOp (g : So → A → A → Option D) (wa wb : WE) : WE := fun Γ S ex Q => wa Γ S ex fun x S1 => wb Γ S1 ex fun y S2 => ∃ d, g S2 x y = some d ∧ Q (.d d) S2
def wNil : WAs := fun _ S _ Q => Q [] S
def wCons (w : WE) (ws : WAs) : WAs := fun Γ S ex Q => w Γ S ex fun a S1 => ws Γ S1 ex fun as S2 => Q (a :: as) S2
def wFrz (w : WE) : WE := fun Γ S ex Q => w Γ S ex fun a S1 => ∃ d S2, frz S1 a = some (d, S2) ∧ Q (.d d) S2
section
variable {ci : Ci} {X : Cx}
theorem re_p {e : Expr} {f : QF} (h : RP ci X e f) : RE ci X e (wP f) := fun F ex _ T Γ S σ H Q r ⟨a, e1, q⟩ => wpX_mono (h F T Γ S σ H a r e1) fun v H' h' => ⟨a, S, h', q⟩
theorem rt_b {e : Expr} {f : QB} (h : RB ci X e f) : RT ci X e (wB f) := fun F ex _ T Γ S σ H Q r ⟨b, e1, q⟩ => wpT_mono (h F T Γ S σ H b r e1) fun v H' ⟨h1, h'⟩ => ⟨S, h', by rw [h1]; exact q⟩
theorem ra_p {es : List Expr} {f : QFs} (h : RPs ci X es f) : RA ci X es (wPs f) := fun F ex _ T Γ S σ H Q r ⟨a, e1, q⟩ => wpA_mono (h.2 F T Γ S σ H a r e1) fun v H' ⟨hz, h'⟩ => ⟨a, S, hz, h.1 _ _ _ e1, h', q⟩
theorem re_op {op : Operator} {a b : Expr} {pos : Pos} {g : So → A → A → Option D} {wa wb : WE} (ho : OpG ci X (binaryOp op) g) (ha : RE ci X a wa) (hb : RE ci X b wb) : RE ci X (.BinOp a op b pos) (wOp g wa wb) := fun F ex xo T Γ S σ H Q r q => by
  obtain ⟨rr, hr, hk⟩ := ho
  refine wpX_of (pe_op hr pe_wp pe_wp) (wpX_mono (ha F ex xo T Γ S σ H _ r q) fun v H1 ⟨x, S1, r1, q1⟩ => wpX_mono (hb F ex xo _ Γ S1 σ H1 _ r1 q1) fun u H2 ⟨y, S2, r2, d, e, q2⟩ => ?_)
  exact hk F _ Γ S2 σ H2 v u x y d r2 (by simp) (by simp) e _ fun w H3 h3 => ⟨.d d, S2, h3.drop drop3, q2⟩
theorem ra_nil : RA ci X [] wNil := fun F ex _ T Γ S σ H Q r q => wpA_of pa_nil ⟨[], S, rfl, rfl, r, q⟩
theorem ra_cons {e : Expr} {es : List Expr} {w : WE} {ws : WAs} (h : RE ci X e w) (hs : RA ci X es ws) (hst : starEach (e :: es) X.env = (false, eval e X.env) :: starEach es X.env := by kernel_rfl) : RA ci X (e :: es) (wCons w ws) := fun F ex xo T Γ S σ H Q r q => by
  refine wpA_of (pa_cons pe_wp pa_wp hst) (wpX_mono (h F ex xo T Γ S σ H _ r q) fun v H1 ⟨a, S1, r1, q1⟩ => wpA_mono (hs F ex xo _ Γ S1 σ H1 _ r1 q1) fun vs H2 ⟨as, S2, hz, hn, r2, q2⟩ => ?_)
  refine ⟨a :: as, S2, by simp [hz], by simp [hn], r2.drop fun x hx => ?_, q2⟩
  rw [List.zip_cons_cons] at hx
  simp only [List.cons_append, List.mem_cons, List.mem_append] at hx ⊢
  rcases hx with hx | hx | hx <;> simp [hx]
/-- displays: data alone (a thing that may change is frozen first, by wFrz) -/
def wTup (ws : WAs) : WE := fun Γ S ex Q => ws Γ S ex fun as S1 => ∃ l, dataOf as = some l ∧ Q (.d (.tup l)) S1
def wLst (ws : WAs) : WE := fun Γ S ex Q => ws Γ S ex fun as S1 => ∃ l, dataOf as = some l ∧ Q (.d (.lst l)) S1
/-- a list that may change -/
def wNewL (ws : WAs) : WE := fun Γ S ex Q => ws Γ S ex fun as S1 => Q (.loc S1.length) (S1 ++ [.lst as])
theorem re_lst {es : List Expr} {ws : WAs} {pos : Pos} (h : RA ci X es ws) (hl : Nat.ble es.length 1000 = true := by kernel_rfl) : RE ci X (.List es pos) (wLst ws) := fun F ex xo T Γ S σ H Q r q => by
  refine wpX_of (pe_lst pa_wp) (wpA_mono (h F ex xo T Γ S σ H _ r q) fun vs H1 ⟨as, S1, hz, hn, r1, l, e, q1⟩ => ?_)
  refine ⟨small_len (hz.symm.trans hn) hl, fun p hp => ?_⟩
  obtain ⟨ρ, r1⟩ := r1
  rw [dataOf_eq e] at r1 hz
  have R := reps_of r1 (by simpa using hz) fun q hq => List.mem_append_left _ hq
  exact ⟨_, S1, ⟨ρ, (r1.newL hp R).drop dropA⟩, q1⟩
theorem areps_of {K : PySem.W.Frag} {F : Fr K ci} {ρ : List Addr} {T : List (A × V)} {Γ : Ga} {S : So} {σ : L2.St} {H : Hp} (r : RelR F ρ T Γ S σ H) : ∀ {l : List A} {vs : List V}, l.length = vs.length → (∀ q ∈ l.zip vs, q ∈ T) → AReps K ci ρ (mu F ρ S) H l vs
  | [], [], _, _ => rfl
  | [], _ :: _, h, _ => by cases h
  | _ :: _, [], h, _ => by cases h
  | d :: l, v :: vs, h, k => ⟨v, vs, rfl, r.tl _ (k (d, v) (by simp)), areps_of r (by simpa using h) fun q hq => k q (by rw [List.zip_cons_cons]; exact List.mem_cons_of_mem _ hq)⟩
theorem RelR.newLM {K : PySem.W.Frag} {F : Fr K ci} {ρ : List Addr} {T : List (A × V)} {Γ : Ga} {S : So} {σ : L2.St} {H : Hp} (r : RelR F ρ T Γ S σ H) {as : List A} {vs : List V} {p : Addr} (hp : H p = none) (R : AReps K ci ρ (mu F ρ S) H as vs) : Rel F ((.loc S.length, .ref p) :: T) Γ (S ++ [.lst as]) σ (upd H p (.lst vs)) := by
  have hm : ∀ a o, H a = some o → a ∉ mu F ρ S → (upd H p (.lst vs)) a = some o ∧ a ∉ mu F (ρ ++ [p]) (S ++ [.lst as]) := fun a o e n => by
    have ne : a ≠ p := ne_of_none e hp
    refine ⟨by rw [upd_ne ne]; exact e, fun z => ?_⟩
    rcases (mu_app (F := F) r.len rfl).mp z with z | z
    · exact n z
    · exact ne z
  refine ⟨ρ ++ [p], (r.allocM (mo := .lst as) hp rfl ⟨vs, upd_same, R.mono hm (List.prefix_append _ _)⟩).push ⟨p, ?_, rfl⟩⟩
  rw [← r.len]; simp
theorem re_newL {es : List Expr} {ws : WAs} {pos : Pos} (h : RA ci X es ws) (hl : Nat.ble es.length 1000 = true := by kernel_rfl) : RE ci X (.List es pos) (wNewL ws) := fun F ex xo T Γ S σ H Q r q => by
  refine wpX_of (pe_lst pa_wp) (wpA_mono (h F ex xo T Γ S σ H _ r q) fun vs H1 ⟨as, S1, hz, hn, r1, q1⟩ => ?_)
  refine ⟨small_len (hz.symm.trans hn) hl, fun p hp => ?_⟩
  obtain ⟨ρ, r1⟩ := r1
  have R := areps_of r1 hz fun q hq => List.mem_append_left _ hq
  exact ⟨_, _, (r1.newLM hp R).drop dropA, q1⟩
end
end LP
namespace LP
open PySem PySem.Spec PyProof.Rows L2
section
variable {ci : Ci} {X : Cx}
theorem wpS_mono {st : Stmt} {σ : L2.St} {H : Hp} {D D' : Ends} (h : wpS X st D σ H) (k1 : ∀ σ' H', D.nx σ' H' → D'.nx σ' H') (k2 : ∀ v H', D.rt v H' → D'.rt v H') (k3 : ∀ σ' H', D.bk σ' H' → D'.bk σ' H') (k4 : ∀ σ' H', D.ct σ' H' → D'.ct σ' H') : wpS X st D' σ H := fun pins s I => thn (h pins s I) fun f s' q => by
  cases f with
  | next => obtain ⟨σ', H', I', q⟩ := q; exact ⟨σ', H', I', k1 _ _ q⟩
  | brk => obtain ⟨σ', H', I', q⟩ := q; exact ⟨σ', H', I', k3 _ _ q⟩
  | cont => obtain ⟨σ', H', I', q⟩ := q; exact ⟨σ', H', I', k4 _ _ q⟩
  | ret u => obtain ⟨v, σ', H', I', r, q⟩ := q; exact ⟨v, σ', H', I', r, k2 _ _ q⟩
def tV (w : WE) : WT := fun Γ S ex Q => w Γ S ex fun a S1 => ∃ b, a = .d (.bl b) ∧ Q b S1
def tNot' (w : WT) : WT := fun Γ S ex Q => w Γ S ex fun b S1 => Q (!b) S1
/-- items, calls of built-ins -/
theorem ix_end {F : Fr X.K ci} {T : List (A × V)} {Γ : Ga} {S : So} {σ : L2.St} {H : Hp} {x y : A} {v u : V} {d : D} (r : Rel F ((y, u) :: (x, v) :: T) Γ S σ H) (e3 : gIx S x y = some d) {Q : VK} (k : ∀ w, Rel F ((.d d, w) :: T) Γ S σ H → Q w H) : rIx X.K v u H Q := by
  unfold gIx at e3
  split at e3
  · rename_i i
    have hu := r.asInt (v := u) List.mem_cons_self
    split at e3
    · rename_i s
      have hv := r.asStr (v := v) (i := s) (by simp)
      split at e3
      · rename_i hl
        cases e4 : atI s.cps.toList i with
        | none => rw [e4] at e3; cases e3
        | some c =>
          rw [e4] at e3; cases e3
          exact .inr (.inr ⟨s, i, c, hv, hu, hl, e4, k _ ((r.drop fun q hq => by simp [hq] : Rel F T Γ S σ H).str _)⟩)
      · cases e3
    · cases e4 : viewQ S x with
      | none => rw [e4] at e3; cases e3
      | some l =>
        rw [e4, Option.bind_some] at e3
        obtain ⟨ρ, r2⟩ := r
        obtain ⟨p, vs, rfl, hq, R⟩ := r2.viewQ (r2.top (a := x) (v := v) (by simp)) e4
        obtain ⟨w, hw, rw'⟩ := atI_reps R e3
        have fin : Rel F ((.d d, w) :: T) Γ S σ H := ⟨ρ, (r2.push (a := .d d) (v := w) rw').drop drop3⟩
        rcases hq with hq | hq
        · exact .inl ⟨p, vs, i, w, rfl, hu, hq, hw, k _ fin⟩
        · exact .inr (.inl ⟨p, vs, i, w, rfl, hu, hq, hw, k _ fin⟩)
  · cases e3
theorem re_ix {a b : Expr} {pos : Pos} {wa wb : WE} (ha : RE ci X a wa) (hb : RE ci X b wb) (hs : PlainIx b := by exact fun _ _ => rfl) : RE ci X (.Subscript a b pos) (wOp gIx wa wb) := fun F ex xo T Γ S σ H Q r q =>
  wpX_of (pe_ix ix_seq pe_wp pe_wp hs) (wpX_mono (ha F ex xo T Γ S σ H _ r q) fun v H1 ⟨x, S1, r1, q1⟩ => wpX_mono (hb F ex xo _ Γ S1 σ H1 _ r1 q1) fun u H2 ⟨y, S2, r2, d, e, q2⟩ => ix_end r2 e fun w h3 => ⟨_, S2, h3, q2⟩)
def wSeq (u w : WS) : WS := fun Γ S D => u Γ S { D with nx := fun Γ' S' => w Γ' S' D }
def wNext : WS := fun Γ S D => D.nx Γ S
def wAsg (i : Nat) (w : WE) : WS := fun Γ S D => w Γ S D.ex fun a S1 => D.nx (Γ.set i (some a)) S1
def wAsgT (t : TgF) (w : WE) : WS := fun Γ S D => w Γ S D.ex fun a S1 => ∃ d Γ', a = .d d ∧ t Γ d = some Γ' ∧ D.nx Γ' S1
def wPar (is : List Nat) (ws : WAs) : WS := fun Γ S D => ws Γ S D.ex fun as S1 => match is, as with
  | [i, j], [a, b] => D.nx ((Γ.set i (some a)).set j (some b)) S1
  | [i, j, k], [a, b, c] => D.nx (((Γ.set i (some a)).set j (some b)).set k (some c)) S1
  | _, _ => False
def wDrop (w : WE) : WS := fun Γ S D => w Γ S D.ex fun _ S1 => D.nx Γ S1
def wRet (w : WE) : WS := fun Γ S D => w Γ S D.ex D.rt
def wRetN : WS := fun Γ S D => D.rt (.d .non) S
def wIf (c : WT) (u w : WS) : WS := fun Γ S D => c Γ S D.ex fun b S1 => if b = true then u Γ S1 D else w Γ S1 D
theorem rss_nil : RSs ci X [] wNext := fun F D xo T Γ S σ H r q => wpSs_of pss_nil ⟨Γ, S, r, q⟩
theorem rss_one {st : Stmt} {w : WS} (h : RS ci X st w) : RSs ci X [st] w := fun F D xo T Γ S σ H r q => wpSs_of (pss_one ps_wp) (h F D xo T Γ S σ H r q)
theorem rss_cons {st : Stmt} {rest : List Stmt} {u w : WS} (h : RS ci X st u) (h2 : RSs ci X rest w) : RSs ci X (st :: rest) (wSeq u w) := fun F D xo T Γ S σ H r q => by
  refine wpSs_of (pss_cons ps_wp pss_wp) (wpS_mono (h F { D with nx := fun Γ' S' => w Γ' S' D } xo T Γ S σ H r q) ?_ (fun _ _ h => h) (fun _ _ h => h) (fun _ _ h => h))
  rintro σ' H' ⟨Γ', S', r', q'⟩
  exact h2 F D xo T Γ' S' σ' H' r' q'
theorem rs_asg (i : Nat) {x : Str} {e : Expr} {w : WE} {pos' pos : Pos} (hN : X.N.Nodup) (he : RE ci X e w) (hi : X.N[i]? = some x := by rfl) (hx : Loc X.env.scope x := by exact loc_of (by kernel_rfl)) (hs : swapsWith e (some (.Name x pos')) pos.line X.env = pure false := by kernel_rfl) (hf : X.fn x = true ∨ X.env.scope.names.lookup x = some .local := by exact fn_of (by kernel_rfl)) :
    RS ci X (.Assign [.Name x pos'] e pos) (wAsg i w) := fun F D xo T Γ S σ H r q =>
  wpS_of (ps_set hN hi hx pe_wp hs hf) (wpX_mono (he F D.ex xo T Γ S σ H _ r q) fun v H' ⟨a, S1, r1, q1⟩ => ⟨_, S1, (r1.put i List.mem_cons_self).tail, q1⟩)
theorem rs_par2 {i j : Nat} {x y : Str} {a b : Expr} {ws : WAs} {px py pt pos : Pos} {kt k2 pt2} (hc : X.calm = true) (hN : X.N.Nodup) (ha : RA ci X [a, b] ws) (hi : X.N[i]? = some x := by rfl) (hj : X.N[j]? = some y := by rfl) (hij : i ≠ j := by decide)
    (hx : X.env.scope.names.lookup x = some .local := by kernel_rfl) (hy : X.env.scope.names.lookup y = some .local := by kernel_rfl) (hw : swappedStores [.Tuple [.Name x px, .Name y py] kt pt] (.Tuple [a, b] k2 pt2) X.env = pure (some [x, y]) := by kernel_rfl)
    (hs : swapsWithSole [.Tuple [.Name x px, .Name y py] kt pt] (.Tuple [a, b] k2 pt2) pos.line X.env = pure false := by kernel_rfl) :
    RS ci X (.Assign [.Tuple [.Name x px, .Name y py] kt pt] (.Tuple [a, b] k2 pt2) pos) (wPar [i, j] ws) := fun F D xo T Γ S σ H r q =>
  wpS_of (ps_par hc hN hi hj hij hx hy pa_wp hw hs) (wpA_mono (ha F D.ex xo T Γ S σ H _ r q) fun vs H' ⟨as, S1, hz, hn, r1, q1⟩ => by
    match as, vs, hz, hn with
    | [a, b], [v, u], _, _ => exact ⟨v, u, rfl, _, S1, (((r1.put i (a := a) (v := v) (by simp)).put j (a := b) (v := u) (by simp))).drop fun q hq => by simp [hq], q1⟩)
theorem rs_ret {e : Expr} {w : WE} {pos : Pos} (he : RE ci X e w) : RS ci X (.Return (some e) pos) (wRet w) := fun F D xo T Γ S σ H r q =>
  wpS_of (ps_ret pe_wp) (wpX_mono (he F D.ex xo T Γ S σ H _ r q) fun v H' ⟨a, S1, r1, q1⟩ => ⟨a, S1, (r1.bare).drop fun x hx => by
    simp at hx; subst hx; exact List.mem_cons_self, q1⟩)
theorem rs_if {c : Expr} {a b : List Stmt} {wc : WT} {u w : WS} {pos : Pos} (hc : RT ci X c wc) (ha : RSs ci X a u) (hb : RSs ci X b w) : RS ci X (.If c a b pos) (wIf wc u w) := fun F D xo T Γ S σ H r q =>
  wpS_of (ps_if pt_wp pss_wp pss_wp) (wpT_mono (hc F D.ex xo T Γ S σ H _ r q) fun d H' ⟨S1, r1, q1⟩ => by
    cases d with
    | true => exact iteT (ha F D xo T Γ S1 σ H' r1 (by simpa using q1))
    | false => exact iteF (hb F D xo T Γ S1 σ H' r1 (by simpa using q1)))
abbrev WI := Ga → So → EK → ((So → Option (List D)) → List D → So → Prop) → Prop
def RIE (ci : Ci) (X : Cx) (tg iter : Expr) (wi : WI) : Prop := ∀ (F : Fr X.K ci) ex, Xok X F ex → ∀ T Γ S σ H Q, Rel F T Γ S σ H → wi Γ S ex Q → wpI X tg iter σ H (fun J H' => ∃ U S' it ds, ItSpec X.K ci J U it ds ∧ it S' = some ds ∧ Rel F (U ++ T) Γ S' σ H' ∧ Q it ds S')
def wI (fi : QI) : WI := fun Γ S _ Q => ∃ it ds, fi Γ S = some it ∧ it S = some ds ∧ Q it ds S
theorem rie_p {tg iter : Expr} {fi : QI} (h : RI ci X tg iter fi) : RIE ci X tg iter (wI fi) := fun F ex _ T Γ S σ H Q r ⟨it, ds, e1, e2, q⟩ => wpI_mono (h F T Γ S σ H it ds r e1 e2) fun J H' ⟨U, s, r1⟩ => ⟨U, S, it, ds, s, e2, r1, q⟩
def wLoop (it : So → Option (List D)) (ds : List D) (t : TgF) (body : WS) : List D → Ga → So → Dn → Prop
  | [], Γ, S, D => D.nx Γ S
  | d :: r, Γ, S, D => ∃ Γ', t Γ d = some Γ' ∧ body Γ' S { D with nx := fun Γ2 S2 => it S2 = some ds ∧ wLoop it ds t body r Γ2 S2 D, ct := fun Γ2 S2 => it S2 = some ds ∧ wLoop it ds t body r Γ2 S2 D, bk := D.nx }
def wFor (wi : WI) (t : TgF) (body : WS) : WS := fun Γ S D => wi Γ S D.ex fun it ds S1 => wLoop it ds t body ds Γ S1 D
theorem rs_for {tg iter : Expr} {body : List Stmt} {wi : WI} {t : TgF} {ws : List Nat} {w : WS} {pos : Pos} (hp : PassesOwn (model X.prog X.w) X.A X.env X.xe) (hc : X.calm = true) (hi : RIE ci X tg iter wi) (hg : RG ci X tg t ws) (hb : RSs ci X body w)
    (hs : ∀ x, foldedSetIterable iter X.env x = pure x := by intro _; rfl) : RS ci X (.For tg iter body [] pos) (wFor wi t w) := fun F D xo T Γ S σ H r q => by
  refine wpS_of (ps_for (g := gWp X tg) hp hc pi_wp pg_wp pss_wp hs) (wpI_mono (hi F D.ex xo T Γ S σ H _ r q) fun J H1 ⟨U, S1, it, ds, ⟨hsz, G, Y, W, spec⟩, e1, r1, q1⟩ => ?_)
  refine for_it (σ := σ) (H := H1) W (fun i σ' H' => ∃ Γ' S', Rel F (U ++ T) Γ' S' σ' H' ∧ it S' = some ds ∧ wLoop it ds t w (ds.drop i) Γ' S' D) ⟨Γ, S1, r1, e1, q1⟩ ?_ ?_ ?_
  · rintro i σ' H' _ ⟨Γ', S', r', e', _⟩
    exact (spec F _ Γ' S' σ' H' r' (fun q hq => by simp [hq]) e').1
  · rintro i x σ' H' H2 hlt ⟨Γ', S', r', e', q'⟩ hy
    obtain ⟨d, hd, r2⟩ := (spec F _ Γ' S' σ' H' r' (fun q hq => by simp [hq]) e').2 i x H2 hlt hy
    have hdr : ds.drop i = d :: ds.drop (i + 1) := by
      rw [List.drop_eq_getElem_cons hlt]
      congr 1
      exact (List.getElem?_eq_some_iff.mp hd).2
    rw [hdr] at q'
    obtain ⟨Γ2, e2, q2⟩ := q'
    refine gWp_mono (hg F _ Γ' S' σ' H2 d x Γ2 r2 List.mem_cons_self e2) fun σ3 H3 ⟨_, r3⟩ => ?_
    have := hb F { D with nx := fun Γ2 S2 => it S2 = some ds ∧ wLoop it ds t w (ds.drop (i + 1)) Γ2 S2 D, ct := fun Γ2 S2 => it S2 = some ds ∧ wLoop it ds t w (ds.drop (i + 1)) Γ2 S2 D, bk := D.nx } xo (U ++ T) Γ2 S' σ3 H3 r3.tail q2
    refine fun pins s I => thn (this pins s I) fun f s' z => ?_
    cases f with
    | next => obtain ⟨σ4, H4, I4, Γ4, S4, r4, e4, q4⟩ := z; exact ⟨σ4, H4, I4, Γ4, S4, r4, e4, q4⟩
    | cont => obtain ⟨σ4, H4, I4, Γ4, S4, r4, e4, q4⟩ := z; exact ⟨σ4, H4, I4, Γ4, S4, r4, e4, q4⟩
    | brk =>
      obtain ⟨σ4, H4, I4, Γ4, S4, r4, q4⟩ := z
      exact ⟨σ4, H4, I4, Γ4, S4, r4.drop fun q hq => List.mem_append_right _ hq, q4⟩
    | ret u => exact z
  · rintro σ' H' ⟨Γ', S', r', _, q'⟩
    rw [List.drop_length] at q'
    exact ⟨Γ', S', r'.drop fun q hq => List.mem_append_right _ hq, q'⟩
end
end LP
namespace LP
open PySem PySem.Spec PyProof.Rows L2
/-- of data alone: a value or an error; none: nothing is said -/
abbrev PC := List D → Option (Except Er D)
/-- of things that may change: as a wish -/
abbrev FC := List A → So → EK → AK → Prop
def spP (K : PySem.W.Frag) (ci : Ci) (G : PC) : Sp := fun vs H Q E => ∃ (ds : List D) (ex : List Addr) (o : Except Er D), ds.length = vs.length ∧ RelR (⟨H, [], [], ex⟩ : Fr K ci) [] ((ds.map A.d).zip vs) [] [] [] H ∧ G ds = some o ∧ match o with
  | .ok d => ∀ v H', (∃ S', Rel (⟨H, [], [], ex⟩ : Fr K ci) [(.d d, v)] [] S' [] H') → Q v H'
  | .error er => ∀ cls dd H', (∃ S ρ, RelR (⟨H, [], [], ex⟩ : Fr K ci) ρ [] [] S [] H' ∧ ErrRep ci (⟨H, [], [], ex⟩ : Fr K ci) ρ S er cls dd H') → E cls dd H'
def spOf (K : PySem.W.Frag) (ci : Ci) (fc : FC) : Sp := fun vs H Q E => ∃ (as : List A) (S : So) (ρ ex : List Addr) (Q' : AK) (ex' : EK), as.length = vs.length ∧ RelR (⟨H, ρ, mutA ρ S, ex⟩ : Fr K ci) ρ (as.zip vs) [] S [] H ∧ fc as S ex' Q' ∧
  (∀ v H', (∃ a S', Rel (⟨H, ρ, mutA ρ S, ex⟩ : Fr K ci) [(a, v)] [] S' [] H' ∧ Q' a S') → Q v H') ∧ (∀ cls dd H', ExW (⟨H, ρ, mutA ρ S, ex⟩ : Fr K ci) ex' cls dd H' → E cls dd H')
def stG (N : List Str) (as : List A) : Ga := as.map some ++ List.replicate (N.length - as.length) none
theorem rel_start {K : PySem.W.Frag} {ci : Ci} {F : Fr K ci} {ρ : List Addr} {S : So} {H : Hp} {N : List Str} {as : List A} {vs : List V} (r : RelR F ρ (as.zip vs) [] S [] H) (hl : as.length = vs.length) : RelR F ρ [] (stG N as) S (L2.start N vs) H := by
  have q := r.slots (Γ' := stG N as) (σ' := L2.start N vs) (by simp [stG, L2.start, hl]) fun i a e => by
    unfold stG at e
    by_cases hi : i < as.length
    · rw [List.getElem?_append_left (by simpa using hi), List.getElem?_map] at e
      cases e1 : as[i]? with
      | none => rw [e1] at e; cases e
      | some b =>
        rw [e1] at e; cases e
        have hv : i < vs.length := by omega
        refine ⟨vs[i], ?_, r.tl (a, vs[i]) ?_⟩
        · unfold L2.start
          rw [List.getElem?_append_left (by simpa using hv), List.getElem?_map]
          simp [hv]
        · exact List.mem_of_getElem? (i := i) (by rw [List.getElem?_zip_eq_some]; exact ⟨e1, by simp [hv]⟩)
    · rw [List.getElem?_append_right (by simpa using hi), List.getElem?_replicate] at e
      split at e <;> cases e
  exact q.drop fun x hx => by cases hx
section
variable {P : Program} {w0 : World} {K : PySem.W.Frag} {mg : Str → Option Value} {base : Heap} {ci : Ci} {x qual : Str} {params : Arguments} {body : List Stmt} {scope : Scope} {dvs : List V} {kws : List (Str × V)} {f : Addr} {fd : FuncData} {N ps : List Str} {k : Nat}
abbrev cxD (P : Program) (w0 : World) (K : PySem.W.Frag) (mg : Str → Option Value) (base : Heap) (N : List Str) (qual : Str) (scope : Scope) (f : Addr) (cdv : Value) (A : Around) (outer : List Env) (s : Shared) (H : Hp) (E : XK) : Cx := cxOf (L2.CX P w0) P w0 K mg base N qual scope f cdv A outer s H E
/-- the body, whatever calls it -/
abbrev Body (P : Program) (w0 : World) (K : PySem.W.Frag) (mg : Str → Option Value) (base : Heap) (ci : Ci) (N : List Str) (qual : Str) (scope : Scope) (f : Addr) (k : Nat) (body : List Stmt) (w : WS) : Prop :=
  ∀ (cdv : Value) (A : Around) (outer : List Env) (s : Shared) (H : Hp) (E : XK), Room k (cxD P w0 K mg base N qual scope f cdv A outer s H E).A → RSs ci (cxD P w0 K mg base N qual scope f cdv A outer s H E) body w
/-- a def of data -/
theorem fnP (F : FunD K x qual params body scope dvs kws f fd) (sc : FnScope N ps scope) {G : PC} {w : WS} (hlen : ∀ ds o, G ds = some o → ds.length = ps.length) (hb : Body P w0 K mg base ci N qual scope f k body w)
    (hv : ∀ ds o, G ds = some o → w (stG N (ds.map A.d)) [] { nx := fun _ _ => o = .ok .non, rt := fun a _ => ∃ d, a = .d d ∧ o = .ok d, ex := fun er _ => o = .error er }) : FnOk P w0 K mg base (L2.CX P w0) (k + 1) f fd ps (spP K ci G) := by
  refine F.ok sc (fun vs H Q E h => ?_) (fun cdv A outer s H vs Q E hr h => ?_)
  · obtain ⟨ds, ex, o, h1, _, h3, _⟩ := h
    rw [← h1, hlen ds o h3]
  · obtain ⟨ds, ex, o, h1, h2, h3, h4⟩ := h
    have tk : Takes (cxD P w0 K mg base N qual scope f cdv A outer s H E) (fun cls d _ H => E cls d H) := takes_of rfl rfl rfl rfl
    refine ⟨_, pss_wp, ?_⟩
    have r0 := rel_start (N := N) h2 (by rw [List.length_map]; exact h1)
    cases o with
    | ok d =>
      have xo : Xok (cxD P w0 K mg base N qual scope f cdv A outer s H E) (⟨H, [], [], ex⟩ : Fr K ci) (fun er _ => (Except.ok d : Except Er D) = .error er) := tk.imp fun c dd σ H' ⟨er, S, ρ, _, _, z⟩ => by cases z
      have := hb cdv A outer s H E hr _ _ xo [] _ [] _ H ⟨[], r0⟩ (hv ds _ h3)
      refine fun pins s' I => thn (this pins s' I) fun fl s2 z => ?_
      cases fl with
      | next =>
        obtain ⟨σ', H', I', Γ', S', r', e⟩ := z
        cases e
        exact ⟨σ', H', I', h4 _ _ ⟨S', r'.non.bare⟩⟩
      | ret u =>
        obtain ⟨v, σ', H', I', rv, a, S', r', d', e1, e2⟩ := z
        cases e2
        subst e1
        exact ⟨v, σ', H', I', rv, h4 _ _ ⟨S', r'⟩⟩
      | brk => obtain ⟨_, _, _, _, _, _, z⟩ := z; exact z.elim
      | cont => obtain ⟨_, _, _, _, _, _, z⟩ := z; exact z.elim
    | error er =>
      have xo : Xok (cxD P w0 K mg base N qual scope f cdv A outer s H E) (⟨H, [], [], ex⟩ : Fr K ci) (fun er' _ => (Except.error er : Except Er D) = .error er') := tk.imp fun c dd σ H' ⟨er', S, ρ, r', e', z⟩ => by
        cases z
        exact h4 _ _ _ ⟨S, ρ, r', e'⟩
      have := hb cdv A outer s H E hr _ _ xo [] _ [] _ H ⟨[], r0⟩ (hv ds _ h3)
      refine fun pins s' I => thn (this pins s' I) fun fl s2 z => ?_
      cases fl with
      | next => obtain ⟨_, _, _, _, _, _, z⟩ := z; cases z
      | ret u => obtain ⟨_, _, _, _, _, _, _, _, _, _, z⟩ := z; cases z
      | brk => obtain ⟨_, _, _, _, _, _, z⟩ := z; exact z.elim
      | cont => obtain ⟨_, _, _, _, _, _, z⟩ := z; exact z.elim
/-- a def of things that may change -/
theorem fnM (F : FunD K x qual params body scope dvs kws f fd) (sc : FnScope N ps scope) {fc : FC} {w : WS} (hlen : ∀ as S ex Q, fc as S ex Q → as.length = ps.length) (hb : Body P w0 K mg base ci N qual scope f k body w)
    (hv : ∀ as S ex Q, fc as S ex Q → w (stG N as) S { nx := fun _ S' => Q (.d .non) S', rt := Q, ex := ex }) : FnOk P w0 K mg base (L2.CX P w0) (k + 1) f fd ps (spOf K ci fc) := by
  refine F.ok sc (fun vs H Q E h => ?_) (fun cdv A outer s H vs Q E hr h => ?_)
  · obtain ⟨as, S, ρ, ex, Q', ex', h1, _, h3, _⟩ := h
    rw [← h1, hlen _ _ _ _ h3]
  · obtain ⟨as, S, ρ, ex, Q', ex', h1, h2, h3, h4, h5⟩ := h
    have tk : Takes (cxD P w0 K mg base N qual scope f cdv A outer s H E) (fun cls d _ H => E cls d H) := takes_of rfl rfl rfl rfl
    refine ⟨_, pss_wp, ?_⟩
    have r0 := rel_start (N := N) h2 h1
    have xo : Xok (cxD P w0 K mg base N qual scope f cdv A outer s H E) (⟨H, ρ, mutA ρ S, ex⟩ : Fr K ci) ex' := tk.imp fun c dd σ H' z => h5 _ _ _ z
    have := hb cdv A outer s H E hr _ { nx := fun _ S' => Q' (.d .non) S', rt := Q', ex := ex' } xo [] _ S _ H ⟨ρ, r0⟩ (hv as S ex' Q' h3)
    refine fun pins s' I => thn (this pins s' I) fun fl s2 z => ?_
    cases fl with
    | next =>
      obtain ⟨σ', H', I', Γ', S', r', e⟩ := z
      exact ⟨σ', H', I', h4 _ _ ⟨_, S', r'.non.bare, e⟩⟩
    | ret u =>
      obtain ⟨v, σ', H', I', rv, a, S', r', e⟩ := z
      exact ⟨v, σ', H', I', rv, h4 _ _ ⟨a, S', r', e⟩⟩
    | brk => obtain ⟨_, _, _, _, _, _, z⟩ := z; exact z.elim
    | cont => obtain ⟨_, _, _, _, _, _, z⟩ := z; exact z.elim
end
section
variable {K : PySem.W.Frag} {ci : Ci}
theorem rep_flat {M : List Addr} {H : Hp} : ∀ {d : D}, d.flat = true → Rep K ci M H d d.v
  | .non, _ => by rw [Rep]; rfl
  | .bl _, _ => by rw [Rep]; rfl
  | .int _, _ => by rw [Rep]; rfl
  | .str _, _ => by rw [Rep]; rfl
  | .tup _, h => by cases h
  | .lst _, h => by cases h
  | .ins _ _, h => by cases h
  | .dic _ _, h => by cases h
  | .fn _, h => by cases h
  | .exc _ _ _, h => by cases h
theorem RelR.flats {F : Fr K ci} {ρ : List Addr} {T : List (A × V)} {Γ : Ga} {S : So} {σ : L2.St} {H : Hp} (r : RelR F ρ T Γ S σ H) : ∀ {l : List D}, l.all D.flat = true → RelR F ρ ((l.map A.d).zip (l.map D.v) ++ T) Γ S σ H
  | [], _ => r
  | d :: l, h => by
    rw [List.all_cons, Bool.and_eq_true] at h
    exact (RelR.flats r h.2).push (rep_flat h.1)
theorem zip_app {α β : Type} {a c : List α} {b d : List β} (h : a.length = b.length) : (a ++ c).zip (b ++ d) = a.zip b ++ c.zip d := List.zip_append h
theorem spP_of {F : Fr K ci} {T : List (A × V)} {Γ : Ga} {S : So} {σ : L2.St} {H : Hp} {l dfl : List D} {vs : List V} {G : PC} {o : Except Er D} {Q : VK} {E : XK} (r : Rel F T Γ S σ H) (hl : l.length = vs.length) (hT : ∀ q ∈ (l.map A.d).zip vs, q ∈ T) (hf : dfl.all D.flat = true) (e : G (l ++ dfl) = some o)
    (k1 : ∀ d, o = .ok d → ∀ v H', Rel F ((.d d, v) :: T) Γ S σ H' → Q v H') (k2 : ∀ er, o = .error er → ∀ cls dd H', (∃ ρ, RelR F ρ T Γ S σ H' ∧ ErrRep ci F ρ S er cls dd H') → E cls dd H') : spP K ci G (vs ++ dfl.map D.v) H Q E := by
  obtain ⟨ρ, r⟩ := r
  refine ⟨l ++ dfl, mu F ρ S, o, by simp [hl], ?_, e, ?_⟩
  · have := (r.flats hf).shut (U := ((l ++ dfl).map A.d).zip (vs ++ dfl.map D.v)) (fun q hq => ?_) (fun q hq => ?_)
    · exact this
    · rw [List.map_append, zip_app (by simp [hl])] at hq
      rcases List.mem_append.mp hq with hq | hq
      · exact List.mem_append_right _ (hT q hq)
      · exact List.mem_append_left _ hq
    · have := (List.of_mem_zip hq).1
      obtain ⟨d, _, h⟩ := List.mem_map.mp this
      exact ⟨d, h.symm⟩
  · cases o with
    | ok d =>
      rintro v H' ⟨S', ρ', q⟩
      exact k1 d rfl v H' ⟨ρ, r.unshut q List.mem_cons_self⟩
    | error er =>
      rintro cls dd H' ⟨S', ρ', q, h⟩
      exact k2 er rfl cls dd H' ⟨ρ, r.unshutE q h⟩
theorem spOf_of {F : Fr K ci} {T : List (A × V)} {Γ : Ga} {S : So} {σ : L2.St} {H : Hp} {as : List A} {dfl : List D} {vs : List V} {fc : FC} {Q : VK} {E : XK} {ex : EK} {Q' : AK} (r : Rel F T Γ S σ H) (hl : as.length = vs.length) (hT : ∀ q ∈ as.zip vs, q ∈ T) (hf : dfl.all D.flat = true) (e : fc (as ++ dfl.map A.d) S ex Q')
    (k1 : ∀ a S' v H', Rel F ((a, v) :: T) Γ S' σ H' → Q' a S' → Q v H') (k2 : ∀ cls dd H', ExW F ex cls dd H' → E cls dd H') : spOf K ci fc (vs ++ dfl.map D.v) H Q E := by
  obtain ⟨ρ, r⟩ := r
  refine ⟨as ++ dfl.map A.d, S, ρ, F.ex, Q', ex, by simp [hl], ?_, e, ?_, ?_⟩
  · refine ((r.flats hf).here.bare).drop fun q hq => ?_
    rw [zip_app hl] at hq
    rcases List.mem_append.mp hq with hq | hq
    · exact List.mem_append_right _ (hT q hq)
    · exact List.mem_append_left _ hq
  · rintro v H' ⟨a, S', ⟨ρ', q⟩, h⟩
    exact k1 a S' v H' ⟨ρ', r.after q⟩ h
  · rintro cls dd H' ⟨er, S', ρ', q, h1, h2⟩
    exact k2 cls dd H' ⟨er, S', ρ', (r.there q), h1, h2⟩
end
structure CallP (P : Program) (w : World) (K : PySem.W.Frag) (mg : Str → Option Value) (base : Heap) (ci : Ci) (k : Nat) (x : Str) (dfl : List D) (sp : Sp) : Prop where
  ex : ∃ (f : Addr) (fd : FuncData) (ps : List Str) (ds : List Value), FnOk P w K mg base (L2.CX P w) k f fd ps sp ∧ mg x = some (.ref f) ∧ PySem.W.keepIn K (.ref f) = true ∧ Binds K fd ps ds ∧ Vals (dfl.map D.v) ds ∧ dfl.all D.flat = true
def fFn (dfl : List D) (G : PC) (fs : QFs) : QF := fun Γ S => (fs Γ S).bind fun as => (dataOf as).bind fun l => match G (l ++ dfl) with | some (.ok d) => some (.d d) | _ => none
def wFn (dfl : List D) (G : PC) (ws : WAs) : WE := fun Γ S ex Q => ws Γ S ex fun as S1 => ∃ l o, dataOf as = some l ∧ G (l ++ dfl) = some o ∧ match o with | .ok d => Q (.d d) S1 | .error er => ex er S1
def wFnM (dfl : List D) (fc : FC) (ws : WAs) : WE := fun Γ S ex Q => ws Γ S ex fun as S1 => fc (as ++ dfl.map A.d) S1 ex Q
theorem fn_some {dfl : List D} {G : PC} {fs : QFs} {Γ : Ga} {S : So} {a : A} (h : fFn dfl G fs Γ S = some a) : ∃ l d, fs Γ S = some (l.map A.d) ∧ G (l ++ dfl) = some (.ok d) ∧ a = .d d := by
  unfold fFn at h
  cases e1 : fs Γ S with
  | none => rw [e1] at h; cases h
  | some as =>
    rw [e1, Option.bind_some] at h
    cases e2 : dataOf as with
    | none => rw [e2] at h; cases h
    | some l =>
      rw [e2, Option.bind_some] at h
      split at h
      · rename_i d e3
        cases h
        rw [dataOf_eq e2]
        exact ⟨l, d, rfl, e3, rfl⟩
      · cases h
section
variable {ci : Ci} {X : Cx}
theorem passX {F : Fr X.K ci} {ex : EK} (xo : Xok X F ex) : Passes (L2.CX X.prog X.w) X (fun cls d H => ExW F ex cls d H) := passes_call xo fun _ _ _ _ h => h
theorem rp_call {k : Nat} {x : Str} {p pos : Pos} {e : Expr} {es : List Expr} {dfl : List D} {G : PC} {fs : QFs} (C : CallP X.prog X.w X.K X.mg X.base ci k x dfl (spP X.K ci G)) (hr : Room k X.A) (hg : Gl X x) (ha : RPs ci X (e :: es) fs)
    (hdb : (x == ("__debug__" : Str)) = false := by decide +kernel) (he : starEach (e :: es) X.env = (false, eval e X.env) :: starEach es X.env := by rfl) (hpl : (backTo pos (starEach es X.env)).any (·.1) = false := by kernel_rfl) : RP ci X (.Call (.Name x p) (e :: es) [] pos) (fFn dfl G fs) := fun F T Γ S σ H a r q => by
  obtain ⟨l, d, e1, e2, rfl⟩ := fn_some q
  obtain ⟨f, fd, ps, ds, h1, h2, h3, h4, h5, h6⟩ := C.ex
  refine wpX_of (pe_call (E := E0) h1 hr hg h2 h3 h4 h5 passL pa_wp hdb he hpl) (wpA_mono (ha.2 F T Γ S σ H _ r e1) fun vs H' ⟨hz, r1⟩ => ?_)
  exact spP_of r1 (by simpa using hz) (fun q hq => List.mem_append_left _ hq) h6 e2 (fun d' ed v H2 r2 => by cases ed; exact r2.drop dropA) fun er z => by cases z
theorem re_callM {k : Nat} {x : Str} {p pos : Pos} {e : Expr} {es : List Expr} {dfl : List D} {fc : FC} {ws : WAs} (C : CallP X.prog X.w X.K X.mg X.base ci k x dfl (spOf X.K ci fc)) (hr : Room k X.A) (hg : Gl X x) (ha : RA ci X (e :: es) ws)
    (hdb : (x == ("__debug__" : Str)) = false := by decide +kernel) (he : starEach (e :: es) X.env = (false, eval e X.env) :: starEach es X.env := by rfl) (hpl : (backTo pos (starEach es X.env)).any (·.1) = false := by kernel_rfl) : RE ci X (.Call (.Name x p) (e :: es) [] pos) (wFnM dfl fc ws) := fun F ex xo T Γ S σ H Q r q => by
  obtain ⟨f, fd, ps, ds, h1, h2, h3, h4, h5, h6⟩ := C.ex
  refine wpX_of (pe_call (E := fun cls d H => ExW F ex cls d H) h1 hr hg h2 h3 h4 h5 (passX xo) pa_wp hdb he hpl) (wpA_mono (ha F ex xo T Γ S σ H _ r q) fun vs H' ⟨as, S1, hz, _, r1, q1⟩ => ?_)
  exact spOf_of r1 hz (fun q hq => List.mem_append_left _ hq) h6 q1 (fun a S' v H2 r2 h => ⟨a, S', r2.drop dropA, h⟩) fun cls dd H2 h => h
end
end LP
namespace LP
open PySem PySem.Spec PyProof.Rows L2
def fldV (okc : List Nat) (j : Nat) (S : So) : A → Option A
  | .d (.ins c fs) => if okc.contains c = true then (fs[j]?).map A.d else none
  | .loc k => match S[k]? with
    | some (.ins c fs) => if okc.contains c = true then fs[j]? else none
    | some (.frz (.ins c fs)) => if okc.contains c = true then (fs[j]?).map A.d else none
    | _ => none
  | _ => none
def fFld (okc : List Nat) (j : Nat) (f : QF) : QF := fun Γ S => (f Γ S).bind (fldV okc j S)
section
variable {ci : Ci} {X : Cx}
def fMeth (mt : Nat → Option (List D × PC)) (fo : QF) (fs : QFs) : QF := fun Γ S => (fo Γ S).bind fun a => match a with
  | .d (.ins c flds) => (fs Γ S).bind fun as => (dataOf as).bind fun l => (mt c).bind fun (dfl, G) => match G (.ins c flds :: (l ++ dfl)) with
    | some (.ok d) => some (.d d)
    | _ => none
  | _ => none
def propV (mt : Nat → Option PC) : A → Option A
  | .d (.ins c flds) => (mt c).bind fun G => match G [.ins c flds] with
    | some (.ok d) => some (.d d)
    | _ => none
  | _ => none
def fProp (mt : Nat → Option PC) (fo : QF) : QF := fun Γ S => (fo Γ S).bind (propV mt)
abbrev PI' := List D → Option (Except Er (List D))
end
def fMake (c : Nat) (dfl : List D) (G : PI') (fs : QFs) : QF := fun Γ S => (fs Γ S).bind fun as => (dataOf as).bind fun l => match G (l ++ dfl) with | some (.ok d) => some (.d (.ins c d)) | _ => none
end LP
namespace LP
open PySem PySem.Spec PyProof.Rows L2
section
variable {ci : Ci} {X : Cx}
def fChain (g g' : So → A → A → Option D) (fa fb fc : QF) : QF := fun Γ S => (fa Γ S).bind fun x => (fb Γ S).bind fun y => (g S x y).bind fun d => match d with
  | .bl true => (fc Γ S).bind fun z => (g' S y z).map A.d
  | .bl false => some (.d (.bl false))
  | _ => none
def strRep (s : Str) (n : Int) : Str := ⟨(List.replicate n.toNat s.cps).foldl (· ++ ·) #[]⟩
def gRepS (_ : So) : A → A → Option D
  | .d (.str s), .d (.int n) => if 0 ≤ n ∧ n ≤ 1000 ∧ s.length ≤ 10000 then some (.str (strRep s n)) else none
  | _, _ => none
theorem strRep_length (s : Str) (n : Int) : (strRep s n).length = n.toNat * s.length := by
  have : ∀ k : Nat, ((List.replicate k s.cps).foldl (· ++ ·) #[]).size = k * s.cps.size := by
    intro k
    induction k with
    | zero => simp
    | succ k ih => rw [List.replicate_succ', List.foldl_append, List.foldl_cons, List.foldl_nil, Array.size_append, ih, Nat.succ_mul]
  exact this _
theorem strRep_one (s : Str) : strRep s 1 = s := by
  unfold strRep
  simp
theorem strRep_empty {s : Str} {n : Int} (h : s.length = 0) : strRep s n = s := by
  unfold strRep
  have hs : s.cps = #[] := by
    apply Array.eq_empty_of_size_eq_zero
    exact h
  have : ∀ k : Nat, (List.replicate k s.cps).foldl (· ++ ·) #[] = (#[] : Array Nat) := by
    intro k
    induction k with
    | zero => rfl
    | succ k ih => rw [List.replicate_succ', List.foldl_append, ih, hs]; rfl
  rw [this]
  cases s; simp at hs; rw [hs]
theorem o_repS : OpG ci X (binaryOp .Mult) gRepS := ⟨fun x y H Q => ∃ s n, x = .str s ∧ y = .int n ∧ 0 ≤ n ∧ n ≤ 1000 ∧ s.length ≤ 10000 ∧ Q (.str (strRep s n)) H, by
  intro pins s σ H x y v u Q I rx ry h
  obtain ⟨z, n, rfl, rfl, h0, h1, h2, q⟩ := h
  obtain ⟨t, rfl⟩ := rx
  obtain ⟨t', rfl⟩ := ry
  have fin : ∀ (tk : Tok) (s' : Shared), Inv X pins σ H s' → EP X pins σ Q (.str (strRep z n) tk) s' := fun tk s' I' => ⟨.str (strRep z n), H, I', ⟨_, rfl⟩, q⟩
  refine P.mul_str (by rw [decide_eq_false (by omega), decide_eq_false (by omega)]; rfl) (fun hn _ => ?_) (fun hn _ => ?_) ?_
  · have h3 : (z.length : Int) ≤ (2 ^ 63 - 1) / n := by
      rw [Int.le_ediv_iff_mul_le (by omega)]
      have : (z.length : Int) * n ≤ 10000 * 1000 := Int.mul_le_mul (by omega) h1 (by omega) (by omega)
      omega
    omega
  · have : z.length * n.toNat ≤ 10000 * 1000 := Nat.mul_le_mul h2 (by omega)
    unfold Builtin.Str.tooLong
    exact decide_eq_false (by unfold sizeLine; omega)
  · split
    · have e0 : strRep z n = Str.empty := by
        have : n.toNat = 0 := by omega
        unfold strRep; rw [this]; rfl
      exact ⟨by decide, by rw [← e0]; exact fin _ _ (I.tok _)⟩
    · split
      · rename_i h3
        have e0 : strRep z n = z := by
          rw [Bool.or_eq_true] at h3
          rcases h3 with h3 | h3
          · have : n = 1 := by simpa using h3
            rw [this, strRep_one]
          · exact strRep_empty (by simpa using h3)
        have := fin t s I
        rw [e0] at this
        exact this
      · refine ⟨?_, fin _ _ (I.tok _)⟩
        show (strRep z n).length ≤ sizeLine
        rw [strRep_length]
        have : n.toNat * z.length ≤ 1000 * 10000 := Nat.mul_le_mul (by omega) h2
        unfold sizeLine; omega, fun F T Γ S σ H x y a b d r hx hy e Q k => by
  unfold gRepS at e
  split at e
  · split at e
    · rename_i hc
      cases e
      exact ⟨_, _, r.asStr hx, r.asInt hy, hc.1, hc.2.1, hc.2.2, k _ _ (r.str _)⟩
    · cases e
  · cases e⟩
/-- xs + ys, lists -/
def gCat (S : So) (a b : A) : Option D := (viewLs S a).bind fun l => (viewLs S b).bind fun m => if l.length + m.length ≤ sizeLine then some (.lst (l ++ m)) else none
where viewLs (S : So) : A → Option (List D)
  | .d (.lst l) => some l
  | .loc k => match S[k]? with
    | some (.lst as) => dataOf as
    | some (.frz (.lst l)) => some l
    | _ => none
  | _ => none
theorem viewLs_ok {K : PySem.W.Frag} {F : Fr K ci} {ρ : List Addr} {T : List (A × V)} {Γ : Ga} {S : So} {σ : L2.St} {H : Hp} {a : A} {v : V} {l : List D} (r : RelR F ρ T Γ S σ H) (h : ARep K ci ρ (mu F ρ S) H a v) (e : gCat.viewLs S a = some l) : ∃ p vs, v = .ref p ∧ H p = some (.lst vs) ∧ Reps K ci (mu F ρ S) H l vs := by
  unfold gCat.viewLs at e
  split at e
  · cases e
    rw [ARep, Rep] at h
    obtain ⟨p, vs, e1, q, rs⟩ := h
    exact ⟨p, vs, e1, q.1, rs⟩
  · rename_i k
    obtain ⟨p, hp, rfl⟩ := h
    split at e
    · rename_i as hs
      obtain ⟨vs, e1, q⟩ := r.st k p _ hp hs
      rw [dataOf_eq e] at q
      exact ⟨p, vs, rfl, e1, q.data⟩
    · rename_i l' hs
      cases e
      have := r.st k p _ hp hs
      rw [MRep, Rep] at this
      obtain ⟨p', vs, e1, q, rs⟩ := this
      cases e1
      exact ⟨p, vs, rfl, q.1, rs⟩
    · cases e
  · cases e
theorem o_cat : OpG ci X (binaryOp .Add) gCat := ⟨_, op_cat, fun F T Γ S σ H x y a b d r hx hy e Q k => by
  unfold gCat at e
  cases e1 : gCat.viewLs S a with
  | none => rw [e1] at e; cases e
  | some l =>
    rw [e1, Option.bind_some] at e
    cases e2 : gCat.viewLs S b with
    | none => rw [e2] at e; cases e
    | some m =>
      rw [e2, Option.bind_some] at e
      split at e
      · rename_i hl
        cases e
        obtain ⟨ρ, r⟩ := r
        obtain ⟨p, vs, rfl, h1, R1⟩ := viewLs_ok r (r.top hx) e1
        obtain ⟨q, ws, rfl, h2, R2⟩ := viewLs_ok r (r.top hy) e2
        exact ⟨p, q, vs, ws, rfl, rfl, h1, h2, by rw [← R1.length, ← R2.length]; exact hl, fun z hz => k _ _ ⟨ρ, r.newL hz (R1.append R2)⟩⟩
      · cases e⟩
/-- xs * n, a list -/
def gRepL (S : So) (a b : A) : Option D := (gCat.viewLs S a).bind fun l => match b with
  | .d (.int n) => if 0 ≤ n ∧ n ≤ 1000 ∧ l.length ≤ 1000 then some (.lst (List.replicate n.toNat l).flatten) else none
  | _ => none
theorem reps_rep {K : PySem.W.Frag} {M : List Addr} {H : Hp} {l : List D} {vs : List V} (R : Reps K ci M H l vs) : ∀ n : Nat, Reps K ci M H (List.replicate n l).flatten (List.replicate n vs).flatten
  | 0 => .nil
  | n + 1 => by rw [List.replicate_succ, List.replicate_succ, List.flatten_cons, List.flatten_cons]; exact R.append (reps_rep R n)
theorem o_repL : OpG ci X (binaryOp .Mult) gRepL := ⟨_, op_rep, fun F T Γ S σ H x y a b d r hx hy e Q k => by
  unfold gRepL at e
  cases e1 : gCat.viewLs S a with
  | none => rw [e1] at e; cases e
  | some l =>
    rw [e1, Option.bind_some] at e
    split at e
    · rename_i n
      split at e
      · rename_i hc
        cases e
        have hy' := r.asInt hy
        obtain ⟨ρ, r⟩ := r
        obtain ⟨p, vs, rfl, h1, R1⟩ := viewLs_ok r (r.top hx) e1
        refine ⟨p, n, vs, rfl, hy', h1, by omega, by omega, ?_, fun z hz => k _ _ ⟨ρ, r.newL hz (reps_rep R1 _)⟩⟩
        have := R1.length
        have h3 : vs.length * n.toNat ≤ 1000 * 1000 := Nat.mul_le_mul (by omega) (by omega)
        exact Nat.le_trans h3 (by decide)
      · cases e
    · cases e⟩
def wM1 (g : So → Str → A → Option D) (fo : QF) (we : WE) : WE := fun Γ S ex Q => ∃ s, fo Γ S = some (.d (.str s)) ∧ we Γ S ex fun b S2 => ∃ d, g S2 s b = some d ∧ Q (.d d) S2
def pairD (a b : D) : D := .tup [a, b]
theorem newPair {K : PySem.W.Frag} {F : Fr K ci} {ρ : List Addr} {T : List (A × V)} {Γ : Ga} {S : So} {σ : L2.St} {H : Hp} {p : Addr} {x y : V} {a b : D} (r : RelR F ρ T Γ S σ H) (hp : H p = none) (h1 : Rep K ci (mu F ρ S) H a x) (h2 : Rep K ci (mu F ρ S) H b y) : Rel F ((.d (pairD a b), .ref p) :: T) Γ S σ (upd H p (.tup [x, y])) := ⟨ρ, r.newT hp (.cons h1 (.cons h2 .nil))⟩
end
end LP
namespace LP
open PySem PySem.Spec PyProof.Rows L2
section
variable {ci : Ci} {X : Cx}
theorem RelR.lstW {K : PySem.W.Frag} {F : Fr K ci} {ρ : List Addr} {T : List (A × V)} {Γ : Ga} {S : So} {σ : L2.St} {H : Hp} {k : Nat} {p : Addr} {l l' : List A} {vs' : List V} (r : RelR F ρ T Γ S σ H) (hp : ρ[k]? = some p) (hs : S[k]? = some (.lst l)) (R : AReps K ci ρ (mu F ρ S) H l' vs') : RelR F ρ T Γ (S.set k (.lst l')) σ (upd H p (.lst vs')) := by
  have hpm : p ∈ mu F ρ S := List.mem_append_left _ (mutA_mem hp hs rfl)
  have hh : ∀ a o, H a = some o → a ∉ mu F ρ S → (upd H p (.lst vs')) a = some o ∧ a ∉ mu F ρ S := fun a o e n => ⟨by rw [upd_ne (fun w => n (by rw [w]; exact hpm))]; exact e, n⟩
  exact r.write hp hs rfl rfl ⟨vs', upd_same, R.mono hh (List.prefix_refl _)⟩
theorem RelR.lstAt {K : PySem.W.Frag} {F : Fr K ci} {ρ : List Addr} {T : List (A × V)} {Γ : Ga} {S : So} {σ : L2.St} {H : Hp} {k : Nat} {p : Addr} {l : List A} (r : RelR F ρ T Γ S σ H) (hp : ρ[k]? = some p) (hs : S[k]? = some (.lst l)) : ∃ vs, H p = some (.lst vs) ∧ AReps K ci ρ (mu F ρ S) H l vs := r.st k p _ hp hs
/-- xs[i] = e -/
def wSetIx (wo wi we : WE) : WS := fun Γ S D => we Γ S D.ex fun b S1 => wo Γ S1 D.ex fun a S2 => wi Γ S2 D.ex fun j S3 => ∃ k l n m, a = .loc k ∧ j = .d (.int n) ∧ S3[k]? = some (.lst l) ∧ ixN l.length n = some m ∧ D.nx Γ (S3.set k (.lst (l.set m b)))
theorem rs_setIx {o i e : Expr} {wo wi we : WE} {pos pos' : Pos} (ho : RE ci X o wo) (hi : RE ci X i wi) (he : RE ci X e we) (hs : swapsWithSole [.Subscript o i pos'] e pos.line X.env = pure false := by kernel_rfl) (hw : swappedStores [.Subscript o i pos'] e X.env = pure none := by kernel_rfl)
    (h1 : (assignEach [.Subscript o i pos'] X.env).map (·.2) = [assign (.Subscript o i pos') X.env] := by kernel_rfl)
    (ha : ∀ v, assign (.Subscript o i pos') X.env v = (do
      let ov ← holding [v] (eval o X.env)
      let iv ← holding [v, ov] (eval i X.env)
      standAt pos'
      holding [v, ov, iv] (setItem ov iv v)
      release [v, ov, iv] []) := by intro _; rfl) : RS ci X (.Assign [.Subscript o i pos'] e pos) (wSetIx wo wi we) := fun F D xo T Γ S σ H r q =>
  wpS_of (ps_asg pe_wp (pg_sub pe_wp pe_wp set_list ha) hs hw h1) (wpX_mono (he F D.ex xo T Γ S σ H _ r q) fun y H1 ⟨b, S1, r1, q1⟩ => wpX_mono (ho F D.ex xo _ Γ S1 σ H1 _ r1 q1) fun x H2 ⟨a, S2, r2, q2⟩ => wpX_mono (hi F D.ex xo _ Γ S2 σ H2 _ r2 q2) fun z H3 ⟨j, S3, r3, k, l, n, m, e1, e2, e3, e4, q3⟩ => by
    subst e1 e2
    have hz := r3.asInt (v := z) List.mem_cons_self
    obtain ⟨ρ, r3⟩ := r3
    obtain ⟨p, hp, rfl⟩ := r3.top (a := .loc k) (v := x) (by simp)
    obtain ⟨ws, h5, R⟩ := r3.lstAt hp e3
    have hb := r3.tl (b, y) (by simp)
    refine ⟨p, ws, n, m, rfl, hz, h5, by rw [← R.length]; exact e4, Γ, _, ⟨ρ, ?_⟩, q3⟩
    exact (r3.lstW hp e3 (R.set hb m)).drop fun q hq => by simp [hq])
inductive TN where
  | int | bool | str | list | tuple | none | dict
  deriving DecidableEq
def TN.nm : TN → String
  | .int => "int" | .bool => "bool" | .str => "str" | .list => "list" | .tuple => "tuple" | .none => "NoneType" | .dict => "dict"
def TN.sub : TN → TN → Bool
  | .bool, .int => true
  | a, b => decide (a = b)
theorem tn_kit (a b : TN) (h : b ≠ .none) : kitB a.nm b.nm = some (a.sub b) := by
  cases a <;> cases b <;> first | (exact absurd rfl h) | decide +kernel
def tyA (S : So) : A → Option TN
  | .d .non => some .none | .d (.bl _) => some .bool | .d (.int _) => some .int | .d (.str _) => some .str
  | .d (.tup _) => some .tuple | .d (.lst _) => some .list | .d (.dic _ _) => some .dict
  | .loc k => match S[k]? with
    | some (.lst _) => some .list
    | some (.dK _ _) => some .dict
    | some (.frz (.lst _)) => some .list
    | _ => none
  | _ => none
theorem rd_ty {K : PySem.W.Frag} {H : Hp} {p : Addr} {vs : List V} {M : List Addr} (h : (Rd H p (.tup vs) ∧ p ∉ M) ∨ Tw K p vs) : TyX K H (.ref p) (.type "tuple") := by
  rcases h with ⟨h | ⟨o, h⟩, _⟩ | ⟨o, its, n, h1, h2, _⟩
  · exact .base (.tup h)
  · exact .fTuple h
  · exact .kTuple h1 h2
theorem tyA_ok {K : PySem.W.Frag} {F : Fr K ci} {ρ : List Addr} {T : List (A × V)} {Γ : Ga} {S : So} {σ : L2.St} {H : Hp} {a : A} {v : V} {t : TN} (r : RelR F ρ T Γ S σ H) (h : ARep K ci ρ (mu F ρ S) H a v) (e : tyA S a = some t) : TyX K H v (.type t.nm) := by
  unfold tyA at e
  split at e
  · cases e; rw [ARep, Rep] at h; subst h; exact .base .non
  · cases e; rw [ARep, Rep] at h; subst h; exact .base (.bl _)
  · cases e; rw [ARep, Rep] at h; subst h; exact .base (.int _)
  · cases e; rw [ARep, Rep] at h; subst h; exact .base (.str _)
  · cases e; rw [ARep, Rep] at h; obtain ⟨p, vs, rfl, q, _⟩ := h; exact rd_ty q
  · cases e; rw [ARep, Rep] at h; obtain ⟨p, vs, rfl, q, _⟩ := h; exact .base (.lst q.1)
  · cases e; rw [ARep, Rep] at h; obtain ⟨p, vs, rfl, q, _⟩ := h
    rcases q with q | ⟨o, q⟩
    · exact .base (.dK q)
    · exact .fDict q
  · rename_i k
    obtain ⟨p, hp, rfl⟩ := h
    split at e
    · rename_i hs; cases e; obtain ⟨vs, q, _⟩ := r.st k p _ hp hs; exact .base (.lst q)
    · rename_i hs; cases e; obtain ⟨vs, q, _⟩ := r.st k p _ hp hs; exact .base (.dK q)
    · rename_i hs; cases e
      have := r.st k p _ hp hs
      rw [MRep, Rep] at this
      obtain ⟨p', vs, e1, q, _⟩ := this
      cases e1
      exact .base (.lst q.1)
    · cases e
  · cases e
def fIsi (ts : List TN) (f : QF) : QF := fun Γ S => (f Γ S).bind fun a => (tyA S a).map fun t => .d (.bl (ts.any t.sub))
/-- isinstance(x, int) -/
theorem rp_isi (t : TN) {n : Str} {e : Expr} {f : QF} {p p2 pos : Pos} (hg : Gl X "isinstance") (hm : X.mg "isinstance" = none) (hg2 : Gl X n) (hm2 : X.mg n = none) (hv2 : bootBuiltins n = some (.type t.nm)) (he : RP ci X e f) (ht : t ≠ .none := by decide) (hn2 : n ≠ "__name__" := by decide) (hdb2 : (n == ("__debug__" : Str)) = false := by decide +kernel)
    (hs : starEach [e, .Name n p2] X.env = (false, eval e X.env) :: starEach [.Name n p2] X.env := by kernel_rfl) : RP ci X (.Call (.Name "isinstance" p) [e, .Name n p2] [] pos) (fIsi [t] f) := fun F T Γ S σ H z r q => by
  unfold fIsi at q
  cases e1 : f Γ S with
  | none => rw [e1] at q; cases q
  | some a =>
    rw [e1, Option.bind_some] at q
    cases e2 : tyA S a with
    | none => rw [e2] at q; cases q
    | some u =>
      rw [e2] at q; cases q
      refine wpX_of (pe_callB call_isi hg hm (by decide +kernel) (pa_cons pe_wp (pa_cons (pe_bltn (v := .ty t.nm) hg2 hm2 hv2 rfl hn2 hdb2) pa_nil) hs) (by decide) (by decide) hs) (wpX_mono (he F T Γ S σ H _ r e1) fun v H1 r1 => ?_)
      obtain ⟨ρ, q1⟩ := id r1
      exact ⟨v, _, _, _, _, rfl, .ty _, tyA_ok q1 (q1.top (a := a) List.mem_cons_self) e2, kit_ty (tn_kit u t ht), by simpa using r1.tail.bl _⟩
/-- isinstance(x, (list, tuple)) -/
theorem rp_isi2 (t t' : TN) {n n' : Str} {e : Expr} {f : QF} {p p2 p3 p4 pos : Pos} {kt : Nat} (hg : Gl X "isinstance") (hm : X.mg "isinstance" = none) (hg2 : Gl X n) (hm2 : X.mg n = none) (hv2 : bootBuiltins n = some (.type t.nm)) (hg3 : Gl X n') (hm3 : X.mg n' = none) (hv3 : bootBuiltins n' = some (.type t'.nm)) (he : RP ci X e f) (ht : t ≠ .none := by decide) (hn2 : n ≠ "__name__" := by decide) (hdb2 : (n == ("__debug__" : Str)) = false := by decide +kernel)
    (ht' : t' ≠ .none := by decide) (hn3 : n' ≠ "__name__" := by decide) (hdb3 : (n' == ("__debug__" : Str)) = false := by decide +kernel)
    (hs : starEach [e, .Tuple [.Name n p2, .Name n' p3] kt p4] X.env = (false, eval e X.env) :: starEach [.Tuple [.Name n p2, .Name n' p3] kt p4] X.env := by kernel_rfl) : RP ci X (.Call (.Name "isinstance" p) [e, .Tuple [.Name n p2, .Name n' p3] kt p4] [] pos) (fIsi [t, t'] f) := fun F T Γ S σ H z r q => by
  unfold fIsi at q
  cases e1 : f Γ S with
  | none => rw [e1] at q; cases q
  | some a =>
    rw [e1, Option.bind_some] at q
    cases e2 : tyA S a with
    | none => rw [e2] at q; cases q
    | some u =>
      rw [e2] at q; cases q
      refine wpX_of (pe_callB call_isiT hg hm (by decide +kernel) (pa_cons pe_wp (pa_cons (pe_tup (pa_cons (pe_bltn (v := .ty t.nm) hg2 hm2 hv2 rfl hn2 hdb2) (pa_cons (pe_bltn (v := .ty t'.nm) hg3 hm3 hv3 rfl hn3 hdb3) pa_nil))) pa_nil) hs) (by decide) (by decide) hs) (wpX_mono (he F T Γ S σ H _ r e1) fun v H1 r1 => ⟨by show 2 ≤ sizeLine; decide, fun tp htp => ?_⟩)
      obtain ⟨ρ, q1⟩ := id (r1.alloc (o := .tup [.ty t.nm, .ty t'.nm]) htp)
      refine ⟨v, tp, _, _, _, _, rfl, upd_same, .cons (.ty _) (.cons (.ty _) .nil), tyA_ok q1 (q1.top (a := a) List.mem_cons_self) e2, kitAny_cons (kit_ty (tn_kit u t ht)) (fun hf => kitAny_cons (kit_ty (tn_kit u t' ht')) (fun hf2 => ?_) (fun hb => ?_)) (fun hb => ?_), (r1.alloc htp).tail.bl _⟩
      · show some false = _; simp [hf, hf2]
      · simp [hb]
      · simp [hb]
/-- int(text) -/
def gIntS (_ : So) : List A → Option D
  | [.d (.str s)] => if s.length ≤ 640 then (PySem.intText? s).map .int else none
  | _ => none
theorem c_intS : CallG ci X (.type "int") gIntS := ⟨_, call_int_str, fun F T Γ S σ H as vs d r hl hT e Q k => by
  unfold gIntS at e
  split at e
  · rename_i s
    split at e
    · rename_i h
      obtain ⟨v, rfl, hv⟩ := as1 (F := F) hl hT
      cases e1 : PySem.intText? s with
      | none => rw [e1] at e; cases e
      | some n =>
        rw [e1] at e; cases e
        exact ⟨s, n, by rw [r.asStr hv], e1, h, k _ _ (r.int _)⟩
    · cases e
  · cases e⟩
end
end LP
namespace LP
open PySem PySem.Spec PyProof.Rows L2
end LP
namespace LP
open PySem PySem.Spec PyProof.Rows L2
section
variable {ci : Ci} {X : Cx}
theorem OpG.or {fv : Value → Value → Sem Value} {g g' h : So → A → A → Option D} (o : OpG ci X fv g) (o' : OpG ci X fv g') (k : ∀ S a b d, h S a b = some d → g S a b = some d ∨ g' S a b = some d) : OpG ci X fv h := by
  obtain ⟨r, h1, h2⟩ := o
  obtain ⟨r', h1', h2'⟩ := o'
  refine ⟨_, h1.or h1', fun F T Γ S σ H x y a b d rr hx hy e Q kk => ?_⟩
  rcases k S a b d e with e | e
  · exact .inl (h2 F T Γ S σ H x y a b d rr hx hy e Q kk)
  · exact .inr (h2' F T Γ S σ H x y a b d rr hx hy e Q kk)
def gPlus (S : So) : A → A → Option D
  | .d (.int i), .d (.int j) => some (.int (i + j))
  | .d (.str s), .d (.str t) => if s.length + t.length ≤ sizeLine then some (.str (s ++ t)) else none
  | a, b => gCat S a b
theorem o_plus : OpG ci X (binaryOp .Add) gPlus := o_add.or o_cat fun S a b d e => by
  unfold gPlus at e
  split at e
  · exact .inl e
  · exact .inl e
  · exact .inr e
def gTimes (S : So) : A → A → Option D
  | .d (.int i), .d (.int j) => if decide ((-(2 ^ 64) < i ∧ i < 2 ^ 64) ∨ (-(2 ^ 64) < j ∧ j < 2 ^ 64)) = true then some (.int (i * j)) else none
  | .d (.str s), .d (.int n) => if 0 ≤ n ∧ n ≤ 1000 ∧ s.length ≤ 10000 then some (.str (strRep s n)) else none
  | a, b => gRepL S a b
theorem o_times : OpG ci X (binaryOp .Mult) gTimes := (o_mul.or o_repS (h := fun S a b => match a, b with
  | .d (.int i), .d (.int j) => gMul S (.d (.int i)) (.d (.int j))
  | .d (.str s), .d (.int n) => gRepS S (.d (.str s)) (.d (.int n))
  | _, _ => none) fun S a b d e => by
    split at e
    · exact .inl e
    · exact .inr e
    · cases e).or o_repL fun S a b d e => by
  unfold gTimes at e
  split at e
  · exact .inl e
  · exact .inl e
  · exact .inr e
/-- text or list or tuple -/
def slV (S : So) : A → Option Int → Option Int → Option D
  | .d (.str s), l, h => if s.length ≤ sizeLine then some (.str (cutS s l h)) else none
  | .d (.tup t), l, h => some (.tup (cutD t l h))
  | a, l, h => (viewL S a).map fun ds => .lst (cutD ds l h)
def fSl (f : QF) (lo hi : QO) : QF := fun Γ S => (f Γ S).bind fun a => (lo Γ S).bind fun l => (hi Γ S).bind fun h => (slV S a l h).map A.d
theorem sl_end {F : Fr X.K ci} {T : List (A × V)} {Γ : Ga} {S : So} {σ : L2.St} {H : Hp} {a : A} {v : V} {l u : Option Int} {d : D} (r : Rel F ((a, v) :: T) Γ S σ H) (e : slV S a l u = some d) {Q : VK} (k : ∀ w H', Rel F ((.d d, w) :: T) Γ S σ H' → Q w H') : rSlL X.K v l u H Q ∨ rSlS v l u H Q ∨ rSlA X.K v l u H Q := by
  unfold slV at e
  split at e
  · rename_i s
    split at e
    · rename_i hs
      cases e
      exact .inr (.inl ⟨s, r.asStr List.mem_cons_self, hs, k _ _ (r.tail.str _)⟩)
    · cases e
  · rename_i t
    cases e
    obtain ⟨ρ, r⟩ := r
    obtain ⟨p, vs, rfl, hq, R⟩ := RelR.viewT (r.top (a := .d (.tup t)) List.mem_cons_self) rfl
    have hl := R.length
    refine .inr (.inr ⟨p, vs, rfl, hq, fun hw => k _ _ ⟨ρ, ?_⟩, fun _ p' hp' => k _ _ ⟨ρ, (r.newT hp' (cut_reps R)).drop drop2⟩⟩)
    have e1 : cutD t l u = t := by
      unfold cutD
      rw [hl, hw.1, hw.2, ← hl]
      simp
    rw [e1]
    exact r
  · cases e5 : viewL S a with
    | none => rw [e5] at e; cases e
    | some ds =>
      rw [e5] at e; cases e
      obtain ⟨ρ, r⟩ := r
      obtain ⟨p, vs, rfl, hq, R⟩ := r.viewL (r.top (a := a) List.mem_cons_self) e5
      exact .inl ⟨p, vs, rfl, hq, fun p' hp => k _ _ ⟨ρ, (r.newL hp (cut_reps R)).drop drop2⟩⟩
theorem rp_sl {e : Expr} {lo hi : Option Expr} {f : QF} {fl fh : QO} {p2 pos : Pos} (he : RP ci X e f) (hl : RO ci X lo fl) (hh : RO ci X hi fh) : RP ci X (.Subscript e (.Slice lo hi none p2) pos) (fSl f fl fh) := fun F T Γ S σ H z r q => by
  obtain ⟨a, l, u, e1, e2, e3, e4⟩ := sl_some q
  cases e5 : slV S a l u with
  | none => rw [e5] at e4; cases e4
  | some d =>
    rw [e5] at e4; cases e4
    refine wpX_of (pe_slice (sl_list.or (sl_str.or sl_tupA)) pe_wp po_wp po_wp) (slice_run he hl hh r e1 e2 e3 (R := fun v l u H' => rSlL X.K v l u H' _ ∨ rSlS v l u H' _ ∨ rSlA X.K v l u H' _) fun v H' h' => ?_)
    exact sl_end h' e5 fun w H2 h2 => h2
/-- int of anything -/
theorem CallG.or {fv : Value} {g g' h : So → List A → Option D} (o : CallG ci X fv g) (o' : CallG ci X fv g') (k : ∀ S as d, h S as = some d → g S as = some d ∨ g' S as = some d) : CallG ci X fv h := by
  obtain ⟨r, h1, h2⟩ := o
  obtain ⟨r', h1', h2'⟩ := o'
  refine ⟨_, h1.or h1', fun F T Γ S σ H as vs d rr hl hx e Q kk => ?_⟩
  rcases k S as d e with e | e
  · exact .inl (h2 F T Γ S σ H as vs d rr hl hx e Q kk)
  · exact .inr (h2' F T Γ S σ H as vs d rr hl hx e Q kk)
def gIntA (S : So) : List A → Option D
  | [.d (.str s)] => if s.length ≤ 640 then (PySem.intText? s).map .int else none
  | as => gInt S as
theorem c_intA : CallG ci X (.type "int") gIntA := c_int.or c_intS fun S as d e => by
  unfold gIntA at e
  split at e
  · exact .inr e
  · exact .inl e
/-- in: a text, or a list | tuple of flat things -/
def gInU (neg : Bool) (S : So) (a b : A) : Option D := match b with
  | .d (.str _) => gInS neg S a b
  | b => gIn neg S a b
theorem o_inU : OpG ci X (compareOp .In) (gInU false) := o_in.or o_inS fun S a b d e => by
  unfold gInU at e
  split at e
  · exact .inr e
  · exact .inl e
end
end LP
namespace LP
open PySem PySem.Spec PyProof.Rows L2
section
variable {ci : Ci} {X : Cx}
theorem Rel.flats {K : PySem.W.Frag} {ci : Ci} {F : Fr K ci} {T : List (A × V)} {Γ : Ga} {S : So} {σ : L2.St} {H : Hp} (r : Rel F T Γ S σ H) {l : List D} (h : l.all D.flat = true) : Rel F ((l.map A.d).zip (l.map D.v) ++ T) Γ S σ H := let ⟨ρ, r⟩ := r; ⟨ρ, r.flats h⟩
end
end LP
namespace LP
open PySem PySem.Spec PyProof.Rows L2
section
variable {ci : Ci} {X : Cx}
theorem rp_lcv (own : List (Str × Nat)) {elt tg iter : Expr} {ifs : List Expr} {scope : Scope} {pos : Pos} {fi : QI} {t : TgF} {ws : List Nat} {b : QB} {f : QF} (hv : own.map (·.2) = ws) (hc : X.calm = true) (hN : X.N.Nodup) (hi : RI ci X tg iter fi) (ok : blkC X.N X.env.scope scope own = true)
    (hg : BlkX X scope fun Y => RG ci Y tg t ws) (hb : BlkX X scope fun Y => RC ci Y ifs b) (hf : BlkX X scope fun Y => RP ci Y elt f) (hs : ∀ x, foldedSetIterable iter X.env x = pure x := by intro _; rfl) :
    RP ci X (.ListComp elt [⟨tg, iter, ifs, 0⟩] scope pos) (fComp fi t ws b f) := by
  subst hv
  exact rp_lc hc hN hi (blkOk_by ok) hg hb hf (fun i h => h) hs
end
end LP
namespace LP
open PySem PySem.Spec PyProof.Rows L2 SX
/-- equality: of flat things, or of any data -/
def gEqU (neg : Bool) (S : So) (a b : A) : Option D := match a, b with
  | .d x, .d y => if x.flat = true ∧ y.flat = true ∧ scal x.v y.v = true then some (.bl (if neg then !decide (x.v = y.v) else decide (x.v = y.v))) else gEq neg S (.d x) (.d y)
  | a, b => gEq neg S a b
section
variable {ci : Ci} {X : Cx}
theorem Rel.atFlat {K : PySem.W.Frag} {F : Fr K ci} {T : List (A × V)} {Γ : Ga} {S : So} {σ : L2.St} {H : Hp} {d : D} {v : V} (r : Rel F T Γ S σ H) (h : (A.d d, v) ∈ T) (hf : d.flat = true) : v = d.v := by
  obtain ⟨ρ, r⟩ := r
  exact Rep.flat hf (r.top h)
theorem o_eqU (hu : X.A.units + 64 < cLine) : OpG ci X (compareOp .Eq) (gEqU false) := by
  obtain ⟨r, h1, h2⟩ := o_eq (ci := ci) hu
  refine ⟨_, op_eq.or h1, fun F T Γ S σ H x y a b d rr hx hy e Q kk => ?_⟩
  unfold gEqU at e
  split at e
  · split at e
    · rename_i hc
      cases e
      rw [rr.atFlat hx hc.1, rr.atFlat hy hc.2.1]
      exact .inl ⟨hc.2.2, kk _ _ (rr.bl _)⟩
    · exact .inr (h2 F T Γ S σ H x y _ _ d rr hx hy e Q kk)
  · exact .inr (h2 F T Γ S σ H x y _ _ d rr hx hy e Q kk)
theorem o_neU (hu : X.A.units + 64 < cLine) : OpG ci X (compareOp .NotEq) (gEqU true) := by
  obtain ⟨r, h1, h2⟩ := o_ne (ci := ci) hu
  refine ⟨_, op_ne.or h1, fun F T Γ S σ H x y a b d rr hx hy e Q kk => ?_⟩
  unfold gEqU at e
  split at e
  · split at e
    · rename_i hc
      cases e
      rw [rr.atFlat hx hc.1, rr.atFlat hy hc.2.1]
      exact .inl ⟨hc.2.2, kk _ _ (rr.bl _)⟩
    · exact .inr (h2 F T Γ S σ H x y _ _ d rr hx hy e Q kk)
  · exact .inr (h2 F T Γ S σ H x y _ _ d rr hx hy e Q kk)
end
theorem gEq_ii (neg : Bool) (S : So) (i j : Int) : gEqU neg S (.d (.int i)) (.d (.int j)) = some (.bl (if neg then !decide (i = j) else decide (i = j))) := by
  simp [gEqU, D.flat, D.v, scal]
theorem gEq_ss (neg : Bool) (S : So) (i j : Str) : gEqU neg S (.d (.str i)) (.d (.str j)) = some (.bl (if neg then !decide (i = j) else decide (i = j))) := by
  simp [gEqU, D.flat, D.v, scal]
theorem gEq_bb (neg : Bool) (S : So) (i j : Bool) : gEqU neg S (.d (.bl i)) (.d (.bl j)) = some (.bl (if neg then !decide (i = j) else decide (i = j))) := by
  simp [gEqU, D.flat, D.v, scal]
theorem gEq_nn (neg : Bool) (S : So) : gEqU neg S (.d .non) (.d .non) = some (.bl (!neg)) := by
  cases neg <;> simp [gEqU, D.flat, D.v, scal]
theorem chain_le (fa fb fc : QF) (Γ : Ga) (S : So) : fChain gLe gLe fa fb fc Γ S = (fa Γ S).bind fun x => (fb Γ S).bind fun y => match x, y with
    | .d (.int a), .d (.int b) => if a ≤ b then (fc Γ S).bind fun z => match z with | .d (.int c) => some (.d (.bl (decide (b ≤ c)))) | _ => none else some (.d (.bl false))
    | _, _ => none := by
  unfold fChain
  congr 1; funext x; congr 1; funext y
  unfold gLe gI
  split
  · rename_i a b
    simp only [if_true, Option.bind_some]
    by_cases h : a ≤ b
    · simp only [h, decide_true, if_true]
      congr 1; funext z
      match z with
      | .d (.int c) => rfl
      | .d .non => rfl
      | .d (.bl _) => rfl
      | .d (.str _) => rfl
      | .d (.tup _) => rfl
      | .d (.lst _) => rfl
      | .d (.ins _ _) => rfl
      | .d (.dic _ _) => rfl
      | .d (.fn _) => rfl
      | .d (.exc _ _ _) => rfl
      | .loc _ => rfl
    · simp only [h, decide_false, if_false]
  · rename_i h1
    first
      | rfl
      | (split
         · exact (h1 _ _ rfl rfl).elim
         · rfl)
def setA (S : So) (a j b : A) : Option So := match a, j with
  | .loc k, .d (.int n) => match S[k]? with
    | some (.lst l) => (ixN l.length n).map fun m => S.set k (.lst (l.set m b))
    | _ => none
  | _, _ => none
theorem setIx_eq (wo wi we : WE) (Γ : Ga) (S : So) (E : Dn) : wSetIx wo wi we Γ S E = we Γ S E.ex fun b S1 => wo Γ S1 E.ex fun a S2 => wi Γ S2 E.ex fun j S3 => ∃ S4, setA S3 a j b = some S4 ∧ E.nx Γ S4 := by
  unfold wSetIx
  congr 1; funext b S1; congr 1; funext a S2; congr 1; funext j S3
  apply propext
  constructor
  · rintro ⟨k, l, n, m, rfl, rfl, e1, e2, q⟩
    exact ⟨_, by simp [setA, e1, e2], q⟩
  · rintro ⟨S4, e, q⟩
    unfold setA at e
    split at e
    · rename_i k n
      split at e
      · rename_i l el
        cases e2 : ixN l.length n with
        | none => rw [e2] at e; cases e
        | some m => rw [e2] at e; cases e; exact ⟨k, l, n, m, rfl, rfl, el, e2, q⟩
      · cases e
    · cases e
/-- loops -/
theorem loop_inv {it : So → Option (List D)} {ds : List D} {t : TgF} {body : WS} {E : Dn} (I : List D → Ga → So → Prop)
    (h : ∀ d r Γ S (nx : Ga → So → Prop), I (d :: r) Γ S → (∀ Γ2 S2, it S2 = some ds → I r Γ2 S2 → nx Γ2 S2) → ∃ Γ', t Γ d = some Γ' ∧ body Γ' S { E with nx := fun Γ2 S2 => nx Γ2 S2, ct := fun Γ2 S2 => nx Γ2 S2, bk := E.nx })
    (he : ∀ Γ S, I [] Γ S → E.nx Γ S) : ∀ (r : List D) (Γ : Ga) (S : So), I r Γ S → wLoop it ds t body r Γ S E
  | [], Γ, S, i => he Γ S i
  | d :: r, Γ, S, i => by
    unfold wLoop
    exact h d r Γ S (fun Γ2 S2 => it S2 = some ds ∧ wLoop it ds t body r Γ2 S2 E) i (fun Γ2 S2 e i2 => ⟨e, loop_inv I h he r Γ2 S2 i2⟩)
/-- the law's own def: a script of whole numbers -/
theorem reps_ints {K : PySem.W.Frag} {ci : Ci} {M : List Addr} {H : Hp} : ∀ ns : List Int, Reps K ci M H (ns.map .int) (ns.map V.int)
  | [] => by rw [List.map_nil, Reps]; rfl
  | n :: ns => by
    rw [List.map_cons, Reps]
    exact ⟨.int n, ns.map V.int, rfl, (by rw [Rep]), reps_ints ns⟩
def spLaw (K : PySem.W.Frag) (m : Nat) : Sp := fun vs H Q _ => ∃ (a : Addr) (ns : List Int), vs = [.ref a] ∧ ns.length ≤ m ∧ SqL K H a (ns.map V.int) ∧ ∀ H', Q (.bl true) H'
def fc_law (m : Nat) : FC := fun as S _ Q => ∃ cs : List Int, as = [.loc 0] ∧ S = [.scr (cs.map .int)] ∧ cs.length ≤ m ∧ ∀ S', Q (.d (.bl true)) S'
theorem law_sp {K : PySem.W.Frag} {ci : Ci} {m : Nat} {vs : List V} {H : Hp} {Q : VK} {E : XK} (h : spLaw K m vs H Q E) : spOf K ci (fc_law m) vs H Q E := by
  obtain ⟨a, ns, rfl, hl, hS, hQ⟩ := h
  refine ⟨[.loc 0], [.scr (ns.map .int)], [a], [], fun b _ => b = .d (.bl true), fun _ _ => False, rfl, ?_, ⟨ns, rfl, rfl, hl, fun _ => rfl⟩, ?_, ?_⟩
  · refine ⟨List.prefix_refl _, rfl, List.nodup_nil, ?_, rfl, fun i b e => by simp at e, ?_, fun x o e _ => e, fun p hp => (by cases hp), fun p hp => (by cases hp)⟩
    · intro k p o h1 h2
      cases k with
      | zero =>
        cases h1; cases h2
        refine ⟨ns.map V.int, ?_, reps_ints ns⟩
        exact (sql_iff.mp hS).imp (fun h => ⟨h, by simp [mu, mutA, MO.live]⟩) id
      | succ k => simp at h1
    · intro q hq
      rw [List.zip_cons_cons, List.mem_cons] at hq
      rcases hq with rfl | hq
      · exact ⟨a, rfl, rfl⟩
      · cases hq
  · rintro v H' ⟨b, S', r, rfl⟩
    have := r.asBl (i := true) List.mem_cons_self
    subst this
    exact hQ H'
  · rintro cls dd H' ⟨er, S', ρ, _, _, z⟩
    exact z.elim
end LP
namespace LP
open PySem PySem.Spec PyProof.Rows L2
end LP
namespace LP
open PySem PySem.Spec PyProof.Rows L2
end LP
namespace LP
open PySem PySem.Spec PyProof.Rows L2
end LP
namespace LP
open PySem PySem.Spec PyProof.Rows L2
end LP
set_option maxHeartbeats 2000000
namespace LP
open PySem PySem.Spec PyProof.Rows L2 He
inductive At where
  | fn (p : Str × Option Str)
  | prop (x m : Str)
  | stat (x m : Str)
/-- a property's getter -/
def gAd (K : PySem.W.Frag) (x m : Str) : Addr := match PySem.W.recIn K (ma K (ga K x) m) "property" with
  | some (.ref g :: _) => g
  | _ => 0
/-- a static method's def -/
def sAd (K : PySem.W.Frag) (x m : Str) : Addr := match PySem.W.recIn K (ma K (ga K x) m) "staticmethod" with
  | some (.ref g :: _) => g
  | _ => 0
def At.ad (K : PySem.W.Frag) : At → Addr
  | .fn p => fAd K p
  | .prop x m => gAd K x m
  | .stat x m => sAd K x m
structure DefE where
  at_ : At
  name : Str
  qual : Str
  params : Arguments
  body : List Stmt
  scope : Scope
  dfl : List Dv := []
  /-- it says super(): its closure is the class's cell -/
  sup : Bool := false
def fnE (K : PySem.W.Frag) (a : Addr) : FnW := match K.lookup a with
  | some ⟨_, _, .func fd, _⟩ => some (fd.name, fd.qualname, fd.params, fd.body, fd.scope, fd.globals, fd.closure.map fun q => (q.1, 0), fd.builtins)
  | _ => none
def DefE.val (d : DefE) : FnW := some (d.name, d.qual, d.params, .stmts d.body, d.scope, mainGlobals, (if d.sup = true then [("__class__", 0)] else []), builtinsNs)
def DefE.dvs (K : PySem.W.Frag) (d : DefE) : List V := d.dfl.map (Dv.v K)
def DefE.ok (K : PySem.W.Frag) (d : DefE) : Bool := PySem.W.keepIn K (.ref (d.at_.ad K)) && (match K.lookup (d.at_.ad K) with
  | some ⟨_, _, .func fd, _⟩ => PySem.W.codeIn K fd.code d.qual && dflB K fd.defaults (d.dvs K)
  | _ => false)
theorem DefE.funD {K : PySem.W.Frag} {d : DefE} (hs : d.sup = false) (e : fnE K (d.at_.ad K) = d.val) (c : d.ok K = true) : ∃ fd, FunD K d.name d.qual d.params d.body d.scope (d.dvs K) [] (d.at_.ad K) fd := by
  obtain ⟨kp, c2⟩ := ba c
  unfold fnE at e
  cases q : K.lookup (d.at_.ad K) with
  | none =>
    rw [q] at c2
    cases c2
  | some o =>
    obtain ⟨oc, od, dt, osl⟩ := o
    rw [q] at c2 e
    cases dt with
    | func fd =>
      obtain ⟨n1, n2, n3, n4, n5, n6, n7, n8, n9, n10, n11, n12, n13, n14, n15⟩ := fd
      have e2 : (some (n1, n2, n3, n4, n5, n6, n7.map (fun q => (q.1, 0)), n15) : FnW) = some (d.name, d.qual, d.params, .stmts d.body, d.scope, mainGlobals, [], builtinsNs) := by
        have e3 : (some (n1, n2, n3, n4, n5, n6, n7.map (fun q => (q.1, 0)), n15) : FnW) = d.val := e
        rw [e3]
        unfold DefE.val
        rw [hs]
        rfl
      simp only [Option.some.injEq, Prod.mk.injEq] at e2
      obtain ⟨h1, h2, h3, h4, h5, h6, h7, h8⟩ := e2
      have h7 := List.map_eq_nil_iff.mp h7
      subst h1 h2 h3 h4 h5 h6 h7 h8
      have c3 : (PySem.W.codeIn K n13 d.qual && dflB K n8 (d.dvs K)) = true := c2
      obtain ⟨k1, k2⟩ := ba c3
      exact ⟨_, ⟨oc, od, n8, n9, n10, n11, n12, n13, n14, osl, rfl, q, k1, dflB_ok k2, .inl rfl⟩, kp⟩
    | _ => cases c2
def propB (K : PySem.W.Frag) (x m : Str) : Bool := eqO (PySem.W.findIn K (.ref (ga K x)) m) (some (some (.ref (ma K (ga K x) m)))) && (decide (PySem.W.specialIn K (.ref (ma K (ga K x) m)) "__get__" = some (some (.builtin "property.__get__"))) && (decide (PySem.W.takesIn K (.ref (ma K (ga K x) m)) = some true) && (match PySem.W.recIn K (ma K (ga K x) m) "property" with
  | some (.ref _ :: _) => true
  | _ => false)))
inductive FaE where
  | fa (f : Fa)
  | prop (x m : Str)
  | ex (b : PySem.W.Frag → Bool)
def FaE.ok (K : PySem.W.Frag) : FaE → Bool
  | .fa f => f.ok K
  | .prop x m => propB K x m
  | .ex b => b K
def obsE (fa : List FaE) (fn : List DefE) (K : PySem.W.Frag) : AlD := ((fa.all fun f => f.ok K) && fn.all fun d => d.ok K, fn.map fun d => fnE K (d.at_.ad K))
def valE (fn : List DefE) : AlD := (true, fn.map DefE.val)
def SaysE (fa : List FaE) (fn : List DefE) (K : PySem.W.Frag) : Prop := obsE fa fn K = valE fn
/-- what the module's names reach in n steps, and the record of the statics -/
def asE (g : Addr → Option Obj) : Nat → List Addr
  | 0 => [mainGlobals, cStatics]
  | n + 1 => growD g (asE g n)
def obsEG (n : Nat) (fa : List FaE) (fn : List DefE) (g : Addr → Option Obj) : AlD := obsE fa fn (frG g (asE g n))
def hookE (n : Nat) (fa : List FaE) (fn : List DefE) : PySem.W.Hook where
  α := AlD
  obs := fun s => obsEG n fa fn s.heap.get?
  val := fun _ => valE fn
  says := fun _ h => ∃ K : PySem.W.Frag, K.In h ∧ SaysE fa fn K
  of := fun _ _ e => ⟨_, frG_in, e⟩
  keeps := fun _ _ _ ⟨K, hK, c⟩ k => ⟨K, PySem.W.Frag.In.keeps hK k, c⟩
theorem obsEG_eq {n : Nat} {fa : List FaE} {fn : List DefE} {g : Addr → Option Obj} {s : Shared} (h : ∀ a, g a = s.heap.get? a) : obsEG n fa fn g = (hookE n fa fn).obs s := by
  have e : g = s.heap.get? := funext h
  rw [e] <;> rfl
section
variable {fa : List FaE} {fn : List DefE} {K : PySem.W.Frag}
theorem SaysE.fact (c : SaysE fa fn K) (i : Nat) {f : FaE} (h : fa[i]? = some f := by rfl) : f.ok K = true := by
  have c1 := (ba (show ((fa.all fun f => f.ok K) && fn.all fun d => d.ok K) = true from congrArg (fun z : AlD => z.1) c)).1
  exact List.all_eq_true.mp c1 f (List.mem_of_getElem? h)
theorem SaysE.def_ (c : SaysE fa fn K) (i : Nat) {d : DefE} (h : fn[i]? = some d := by rfl) (hs : d.sup = false := by rfl) : ∃ fd, FunD K d.name d.qual d.params d.body d.scope (d.dvs K) [] (d.at_.ad K) fd := by
  have c2 := (ba (show ((fa.all fun f => f.ok K) && fn.all fun d => d.ok K) = true from congrArg (fun z : AlD => z.1) c)).2
  have e : fn.map (fun d => fnE K (d.at_.ad K)) = fn.map DefE.val := congrArg (fun z : AlD => z.2) c
  have e2 : (fn.map fun d => fnE K (d.at_.ad K))[i]? = (fn.map DefE.val)[i]? := by rw [e]
  rw [List.getElem?_map, List.getElem?_map, h] at e2
  exact DefE.funD hs (Option.some.inj e2) (List.all_eq_true.mp c2 d (List.mem_of_getElem? h))
theorem SaysE.raw (c : SaysE fa fn K) (i : Nat) {d : DefE} (h : fn[i]? = some d := by rfl) : fnE K (d.at_.ad K) = d.val ∧ d.ok K = true := by
  have c2 := (ba (show ((fa.all fun f => f.ok K) && fn.all fun d => d.ok K) = true from congrArg (fun z : AlD => z.1) c)).2
  have e : fn.map (fun d => fnE K (d.at_.ad K)) = fn.map DefE.val := congrArg (fun z : AlD => z.2) c
  have e2 : (fn.map fun d => fnE K (d.at_.ad K))[i]? = (fn.map DefE.val)[i]? := by rw [e]
  rw [List.getElem?_map, List.getElem?_map, h] at e2
  exact ⟨Option.some.inj e2, List.all_eq_true.mp c2 d (List.mem_of_getElem? h)⟩
end
end LP
namespace LP
open PySem PySem.Spec PyProof.Rows L2
end LP
set_option maxHeartbeats 2000000
namespace LP
open PySem PySem.Spec PyProof.Rows L2
section
variable {ci : Ci} {X : Cx}
abbrev gFdivW := gI (fun _ j => decide (0 < j ∧ j < 18446744073709551616)) fun i j => .int (i / j)
theorem o_fdivW : OpG ci X (binaryOp .FloorDiv) gFdivW := ⟨_, op_fdivW, fun F T Γ S σ H x y a b d r hx hy e Q k => by
  obtain ⟨i, j, rfl, rfl, hp, rfl⟩ := gi_some e
  have hp := of_decide_eq_true hp
  exact ⟨_, _, r.asInt hx, r.asInt hy, wide_div (b := 64) hp.1 (by omega) (by decide) (by decide), k _ _ (r.int _)⟩⟩
end
end LP
set_option maxHeartbeats 2000000
namespace LP
open PySem PySem.Spec PyProof.Rows L2
end LP
set_option maxHeartbeats 2000000
namespace LP
open PySem PySem.Spec PyProof.Rows L2
end LP
set_option maxHeartbeats 2000000
namespace LP
open PySem PySem.Spec PyProof.Rows L2 StX
section
variable {ci : Ci} {X : Cx}
def fMakeV (c : Nat) (G : PI') (f : QF) : QF := fun Γ S => (f Γ S).bind fun a => (viewQ S a).bind fun l => match G l with | some (.ok d) => some (.d (.ins c d)) | _ => none
end
end LP
set_option maxHeartbeats 2000000
namespace PySem.W
open PySem PySem.Calls PyProof.Rows Builtin
end PySem.W
set_option maxHeartbeats 2000000
namespace LP
open PySem PySem.Spec PyProof.Rows L2
end LP
set_option maxHeartbeats 2000000
namespace PySem.W
open PySem PySem.Calls PyProof.Rows Builtin
end PySem.W
set_option maxHeartbeats 2000000
namespace LP
open PySem PySem.Spec PyProof.Rows L2
def gEither (g1 g2 : So → A → A → Option D) (S : So) (a b : A) : Option D := match g1 S a b with
  | some d => some d
  | none => g2 S a b
def gOwnIn (neg : Bool) (c : Nat) (G : PC) (_ : So) : A → A → Option D
  | .d x, .d (.ins c' fs) => if c' = c then match G [.ins c' fs, x] with
    | some (.ok (.bl b)) => some (.bl (if neg = true then !b else b))
    | _ => none else none
  | _, _ => none
def gOwnBin (c : Nat) (G : PC) (_ : So) : A → A → Option D
  | .d (.ins c1 f1), .d (.ins c2 f2) => if c1 = c ∧ c2 = c then match G [.ins c1 f1, .ins c2 f2] with
    | some (.ok d) => some d
    | _ => none else none
  | _, _ => none
def eqTo (c : Nat) : D → Bool
  | .ins c' _ => decide (c' = c)
  | .lst _ => true
  | _ => false
def gOwnEq (neg : Bool) (c : Nat) (G : PC) (_ : So) : A → A → Option D
  | .d (.ins c' fs), .d y => if c' = c ∧ eqTo c y = true then match G [.ins c' fs, y] with
    | some (.ok (.bl b)) => some (.bl (if neg = true then !b else b))
    | _ => none else none
  | _, _ => none
end LP
set_option maxHeartbeats 2000000
namespace PySem
open AutoSeq1 (wpAny_loadPart')
end PySem
namespace LP
open PySem PySem.Spec PyProof.Rows L2
end LP
set_option maxHeartbeats 2000000
namespace LP
open PySem PySem.Spec PyProof.Rows L2
section
variable {ci : Ci} {X : Cx}
def iET (f : QF) : QI := fun Γ S => (f Γ S).map fun a _ => (viewT a).map fun l => List.zipWith pairD ((List.range l.length).map fun (i : Nat) => D.int (i : Int)) l
end
end LP
set_option maxHeartbeats 2000000
namespace LP
open PySem PySem.Spec PyProof.Rows L2
def gIsiO (c : Nat) (S : So) : A → Option Bool
  | .d (.ins c' _) => if c' = c then some true else none
  | a => (tyA S a).map fun _ => false
def fIsiO (c : Nat) (f : QF) : QF := fun Γ S => (f Γ S).bind fun a => (gIsiO c S a).map fun b => .d (.bl b)
end LP
set_option maxHeartbeats 2000000
namespace LP
open PySem PySem.Spec PyProof.Rows L2
end LP
set_option maxHeartbeats 2000000
namespace LP
open PySem PySem.Spec PyProof.Rows L2
end LP
set_option maxHeartbeats 2000000
namespace LP
open PySem PySem.Spec PyProof.Rows L2 RZ
def twoT (a b : A) : Option (List D × List D) := match viewT a, viewT b with
  | some l, some m => some (l, m)
  | _, _ => none
def iZQ (f g : QF) : QI := fun Γ S => (f Γ S).bind fun a => (g Γ S).map fun b S' => match twoT a b with
  | some (l, m) => some (List.zipWith pairD l m)
  | none => (viewL S' a).bind fun l => (viewL S' b).map fun m => List.zipWith pairD l m
section
variable {ci : Ci} {X : Cx}
theorem ri_zipQ {e e2 : Expr} {elts : List Expr} {kk : Nat} {tpos p pos : Pos} {f g : QF} (hg : Gl X "zip") (hm : X.mg "zip" = none) (h1 : RP ci X e f) (h2 : RP ci X e2 g) (hs : starEach [e, e2] X.env = (false, eval e X.env) :: starEach [e2] X.env := by kernel_rfl) (hs2 : starEach [e2] X.env = [(false, eval e2 X.env)] := by kernel_rfl) (hpl : (backTo pos (starEach [e2] X.env)).any (·.1) = false := by kernel_rfl) : RI ci X (.Tuple elts kk tpos) (.Call (.Name "zip" p) [e, e2] [] pos) (iZQ f g) := fun F T Γ S σ H it ds r q1 q2 => by
  unfold iZQ at q1
  cases e1 : f Γ S with
  | none => rw [e1] at q1; cases q1
  | some a =>
    cases e3 : g Γ S with
    | none => rw [e1, e3] at q1; cases q1
    | some b =>
      rw [e1, e3] at q1; cases q1
      dsimp only at q2
      cases ht0 : twoT a b with
      | some lm =>
        obtain ⟨l, m⟩ := lm
        rw [ht0] at q2
        obtain rfl : List.zipWith pairD l m = ds := Option.some.inj q2
        have ⟨e4, e5⟩ : viewT a = some l ∧ viewT b = some m := by
          unfold twoT at ht0
          split at ht0
          · rename_i l' m' k1 k2
            cases ht0
            exact ⟨k1, k2⟩
          · cases ht0
        refine wpI_of (pi_zipA hg hm (pa_cons pe_wp (pa_cons pe_wp pa_nil hs2) hs) hs hpl) (wpX_mono (h1 F T Γ S σ H _ r e1) fun v H1 r1 => wpX_monoI (h2 F _ Γ S σ H1 _ r1 e3) fun u H2 hz r2 => ?_)
        obtain ⟨ρ, q⟩ := id r2
        obtain ⟨p, vs, rfl, hq, R⟩ := RelR.viewT (q.top (a := a) (v := v) (by simp)) e4
        obtain ⟨p', vs', rfl, hq', R'⟩ := RelR.viewT (q.top (a := b) (v := u) (by simp)) e5
        have hn : (List.zipWith pairD l m).length = min vs.length vs'.length := by rw [List.length_zipWith, R.length, R'.length]
        refine ⟨p, p', vs, vs', rfl, .inr ⟨hq, hq', [(b, .ref p'), (a, .ref p)], ⟨?_, fun H => ∃ xs ys, SqT X.K H p xs ∧ SqT X.K H p' ys ∧ min xs.length ys.length = (List.zipWith pairD l m).length, (ItzT X.K p p').yld, ⟨?_, ?_, fun _ _ _ _ _ _ y => y⟩, ?_⟩, r2⟩⟩
        · have := hz p vs (.inr hq)
          rw [hn]; omega
        · rintro i H hi ⟨xs, ys, h1, h2, h3⟩
          have a1 : i < xs.length := by omega
          have a2 : i < ys.length := by omega
          exact ⟨xs, ys, xs[i], ys[i], h1, h2, by simp [a1], by simp [a2]⟩
        · rintro H ⟨xs, ys, h1, h2, h3⟩
          exact ⟨xs, ys, h1, h2, by omega⟩
        · intro F T Γ S σ H r hU hS
          obtain ⟨ρ, r⟩ := r
          obtain ⟨_, xs, ex, hx, Rx⟩ := RelR.viewT (r.top (a := a) (v := .ref p) (hU _ (by simp))) e4
          cases ex
          obtain ⟨_, ys, ey, hy, Ry⟩ := RelR.viewT (r.top (a := b) (v := .ref p') (hU _ (by simp))) e5
          cases ey
          refine ⟨⟨xs, ys, hx, hy, by rw [List.length_zipWith, Rx.length, Ry.length]⟩, ?_⟩
          rintro i w H' hi ⟨t, x, y, rfl, ht, rfl, g1, g2⟩
          obtain ⟨d1, k1, k2⟩ := Rx.get (g1 xs hx)
          obtain ⟨d2, k3, k4⟩ := Ry.get (g2 ys hy)
          refine ⟨pairD d1 d2, ?_, newPair r ht k2 k4⟩
          rw [List.getElem?_zipWith, k1, k3]
      | none =>
       rw [ht0] at q2
       dsimp only at q2
       cases e4 : viewL S a with
       | none => rw [e4] at q2; cases q2
       | some l =>
        cases e5 : viewL S b with
        | none => rw [e4, e5] at q2; cases q2
        | some m =>
          rw [e4, e5] at q2
          obtain rfl : List.zipWith pairD l m = ds := Option.some.inj q2
          refine wpI_of (pi_zipA hg hm (pa_cons pe_wp (pa_cons pe_wp pa_nil hs2) hs) hs hpl) (wpX_mono (h1 F T Γ S σ H _ r e1) fun v H1 r1 => wpX_monoI (h2 F _ Γ S σ H1 _ r1 e3) fun u H2 hz r2 => ?_)
          obtain ⟨ρ, q⟩ := id r2
          obtain ⟨p, vs, rfl, hq, R⟩ := q.viewL (q.top (a := a) (v := v) (by simp)) e4
          obtain ⟨p', vs', rfl, hq', R'⟩ := q.viewL (q.top (a := b) (v := u) (by simp)) e5
          have hn : (List.zipWith pairD l m).length = min vs.length vs'.length := by rw [List.length_zipWith, R.length, R'.length]
          refine ⟨p, p', vs, vs', rfl, .inl ⟨hq, hq', [(b, .ref p'), (a, .ref p)], ⟨?_, fun H => ∃ xs ys, SqL X.K H p xs ∧ SqL X.K H p' ys ∧ min xs.length ys.length = (List.zipWith pairD l m).length, (Itz X.K p p').yld, ⟨?_, ?_, fun _ _ _ _ _ _ y => y⟩, ?_⟩, r2⟩⟩
          · have := hz p vs (.inl hq)
            rw [hn]; omega
          · rintro i H hi ⟨xs, ys, h1, h2, h3⟩
            have a1 : i < xs.length := by omega
            have a2 : i < ys.length := by omega
            exact ⟨xs, ys, xs[i], ys[i], h1, h2, by simp [a1], by simp [a2]⟩
          · rintro H ⟨xs, ys, h1, h2, h3⟩
            exact ⟨xs, ys, h1, h2, by omega⟩
          · intro F T Γ S σ H r hU hS
            dsimp only at hS
            rw [ht0] at hS
            dsimp only at hS
            obtain ⟨ρ, r⟩ := r
            cases e6 : viewL S a with
            | none => rw [e6] at hS; cases hS
            | some l' =>
              cases e7 : viewL S b with
              | none => rw [e6, e7] at hS; cases hS
              | some m' =>
                rw [e6, e7] at hS
                have hS' : List.zipWith pairD l' m' = List.zipWith pairD l m := Option.some.inj hS
                obtain ⟨_, xs, ex, hx, Rx⟩ := r.viewL (r.top (a := a) (v := .ref p) (hU _ (by simp))) e6
                cases ex
                obtain ⟨_, ys, ey, hy, Ry⟩ := r.viewL (r.top (a := b) (v := .ref p') (hU _ (by simp))) e7
                cases ey
                refine ⟨⟨xs, ys, hx, hy, by rw [← hS', List.length_zipWith, Rx.length, Ry.length]⟩, ?_⟩
                rintro i w H' hi ⟨t, x, y, rfl, ht, rfl, g1, g2⟩
                obtain ⟨d1, k1, k2⟩ := Rx.get (g1 xs hx)
                obtain ⟨d2, k3, k4⟩ := Ry.get (g2 ys hy)
                refine ⟨pairD d1 d2, ?_, newPair r ht k2 k4⟩
                rw [← hS', List.getElem?_zipWith, k1, k3]
end
end LP
set_option maxHeartbeats 2000000
namespace LP
open PySem PySem.Spec PyProof.Rows L2
end LP
set_option maxHeartbeats 400000
namespace LP
open PySem PySem.Spec PyProof.Rows L2
end LP
set_option maxHeartbeats 4000000
namespace LP
open PySem PySem.Spec PyProof.Rows L2
end LP
set_option maxHeartbeats 1000000
namespace LP
open PySem PySem.Spec PyProof.Rows L2
end LP
set_option maxHeartbeats 2000000
namespace LP
open PySem PySem.Spec PyProof.Rows L2
end LP
set_option maxHeartbeats 1000000
namespace LP
open PySem PySem.Spec PyProof.Rows L2
end LP
set_option maxHeartbeats 1000000
namespace LP
open PySem PySem.Spec PyProof.Rows L2
end LP
set_option maxHeartbeats 1000000
namespace LP
open PySem PySem.Spec PyProof.Rows L2
end LP
set_option maxHeartbeats 4000000
namespace LP
open PySem PySem.Spec PyProof.Rows L2
end LP
set_option maxHeartbeats 4000000
namespace LP
open PySem PySem.Spec PyProof.Rows L2
end LP
set_option maxHeartbeats 4000000
namespace LP
open PySem PySem.Spec PyProof.Rows L2
end LP
set_option maxHeartbeats 1000000
namespace LP
open PySem PySem.Spec PyProof.Rows L2
end LP
set_option maxHeartbeats 2000000
namespace LP
open PySem PySem.Spec PyProof.Rows L2
end LP
set_option maxHeartbeats 2000000
namespace LP
open PySem PySem.Spec PyProof.Rows L2
end LP
set_option maxHeartbeats 4000000
namespace LP
open PySem PySem.Spec PyProof.Rows L2
end LP
set_option maxHeartbeats 4000000
namespace LP
open PySem PySem.Spec PyProof.Rows L2
section
variable {X : Cx} {ci : Ci} {c : Code}
def wpSsC (X : Cx) (c : Code) (st : List Stmt) : TS := fun D σ H => ∀ (pins : List (Addr × Obj)) (s : Shared), Inv X pins σ H s → _root_.PySem.wpAt (model X.prog X.w) X.A c (execs st X.env) (SP X pins D) X.xe s
end
/-- the names of a def that says super(): no cells of its own; of captured ones __class__ alone -/
structure FnScopeS (N ps : List Str) (sc : Scope) : Prop where
  kind : sc.kind = .function
  co : sc.isCoroutine = false
  gen : sc.isGenerator = false
  nd : N.Nodup
  pre : N.take ps.length = ps
  par : ∀ x ∈ ps, sc.names.lookup x = some .local
  nocell : ∀ y ∈ sc.names, y.2 ≠ .cell
  free : ∀ y ∈ sc.names, y.2 = .free → y.1 = "__class__"
def supCx (CX : CXT) (P : Program) (w : World) (K : PySem.W.Frag) (mg : Str → Option Value) (base : Heap) (N : List Str) (qual : Str) (scope : Scope) (f : Addr) (cd : Value) (cc : Addr) (A : Around) (outer : List Env) (s : Shared) (H : Hp) (E : XK) : Cx where
  prog := P
  w := w
  K := K
  mg := mg
  base := base
  A := A.deeper (PySem.W.ksEnv qual scope s.heap.objs.size f cd cc)
  N := N
  s_0 := s
  H_0 := H
  env := PySem.W.ksEnv qual scope s.heap.objs.size f cd cc
  outer := outer
  stack := PySem.W.ksEnv qual scope s.heap.objs.size f cd cc :: outer
  ex := []
  fn := fun _ => false
  calm := true
  pn := []
  xe := fun e s' => wpAny (model P w) (A.deeper (PySem.W.ksEnv qual scope s.heap.objs.size f cd cc)) (leaving (PySem.W.ksEnv qual scope s.heap.objs.size f cd cc) e) (fun _ s'' => CX outer H s E e s'') (fun e' s'' => CX outer H s E e' s'') s'
theorem zip_rev_lookup {ps : List Str} {us : List Value} (nd : ps.Nodup) {i : Nat} {x : Str} {u : Value} (hp : ps[i]? = some x) (hu : us[i]? = some u) : (ps.zip us).reverse.lookup x = some u := by
  have hm : (x, u) ∈ ps.zip us := by
    refine List.mem_of_getElem? (i := i) ?_
    rw [List.getElem?_zip_eq_some]
    exact ⟨hp, hu⟩
  have hnd : ((ps.zip us).map (·.1)).Nodup := by
    have : ((ps.zip us).map (·.1)).Sublist ps := by
      clear hm hp hu nd
      induction ps generalizing us with
      | nil => simp
      | cons a ps ih =>
        cases us with
        | nil => simp
        | cons b us => rw [List.zip_cons_cons, List.map_cons]; exact (ih).cons₂ a
    exact nd.sublist this
  have go : ∀ {l : List (Str × Value)}, (l.map (·.1)).Nodup → (x, u) ∈ l → l.lookup x = some u := by
    intro l
    induction l with
    | nil => intro _ h; cases h
    | cons p l ih =>
      intro hn h
      obtain ⟨y, v⟩ := p
      rw [List.map_cons, List.nodup_cons] at hn
      rw [List.lookup_cons]
      rcases List.mem_cons.mp h with e | h
      · cases e
        simp
      · have hne : (x == y) = false := by
          rw [beq_eq_false_iff_ne]
          intro z
          exact hn.1 (List.mem_map.mpr ⟨(x, u), h, z⟩)
        rw [hne]
        exact ih hn.2 h
  refine go ?_ (List.mem_reverse.mpr hm)
  rw [List.map_reverse]
  exact (List.reverse_perm _).nodup_iff.mpr hnd
theorem inv_startS {CX : CXT} {P : Program} {w : World} {K : PySem.W.Frag} {mg : Str → Option Value} {base : Heap} {N ps : List Str} {qual : Str} {scope : Scope} {f cc Dc : Addr} {cd cl : Value} {cld : Option Addr} {csl : Array (Option Value)} {A : Around} {outer : List Env} {s : Shared} {H : Hp} {E : XK} {us : List Value} {vs : List V} {h₁ : Heap} {tk : Nat}
    (S : FnScopeS N ps scope) (hd : A.handled = none) (e0 : Env0 P w K mg base A outer s H) (hl : vs.length = ps.length) (r : Vals vs us) (hcell : K.lookup cc = some ⟨cl, cld, .cell (some (.ref Dc)), csl⟩)
    (hns : h₁.Ns s.heap.objs.size fun y => (ps.zip us).reverse.lookup y) (kp : ∀ b o, s.heap.get? b = some o → h₁.get? b = some o) :
    Inv (supCx CX P w K mg base N qual scope f cd cc A outer s H E) [] (L2.start N vs) H { s with heap := h₁, toks := tk } := by
  have hpl : ps.length ≤ N.length := by have := congrArg List.length S.pre; rw [List.length_take] at this; omega
  have noA : ∀ b : Addr, b ∉ (supCx CX P w K mg base N qual scope f cd cc A outer s H E).ex := fun b z => absurd (show b ∈ ([] : List Addr) from z) (by simp)
  have hcb : base.get? cc = some ⟨cl, cld, .cell (some (.ref Dc)), csl⟩ := e0.mod.kin _ _ hcell
  have hcs := (e0.bs _ _ hcb)
  have ck : ∀ {y c}, ([("__class__", cc)] : List (Str × Addr)).lookup y = some c → y = "__class__" ∧ c = cc := fun {y c} e => by
    rw [List.lookup_cons] at e
    split at e
    · rename_i h
      cases e
      exact ⟨beq_iff_eq.mp h, rfl⟩
    · cases e
  refine ⟨⟨e0.mod, S.kind, rfl, rfl, Nat.le_refl _, fun y z c h1 h2 => ?_, fun y hy => ?_, fun y c h => ?_, fun _ => hd, Around.frames_deeper e0.frames, .inr ⟨rfl, rfl⟩, fun b z => absurd z (noA b), e0.bs, e0.bsz, fun b _ _ => noA b, fun b z => absurd z (noA b), e0.funs, e0.frf⟩,
    rfl, e0.bare, Un.kept kp, ⟨_, hns, fun i y v h1 h2 h3 => ?_⟩, fun y c h => ?_, e0.hok.fresh (Nat.le_refl _), fun y c h => ?_, fun p hp => absurd (show p ∈ ([] : List (Addr × Obj)) from hp) (by simp), e0.hok.kept kp, ?_⟩
  · rw [(ck h1).1, (ck h2).1]
  · have hy : scope.names.lookup y = some .cell ∨ scope.names.lookup y = some .free := hy
    rcases hy with hy | hy
    · exact absurd rfl (S.nocell _ (PySem.mem_of_lookup hy))
    · have := S.free _ (PySem.mem_of_lookup hy) rfl
      simp only at this
      subst this
      exact ⟨cc, rfl⟩
  · have h : false = true := h
    cases h
  · have hi : i < vs.length := by
      unfold L2.start at h2
      by_cases hi : i < vs.length
      · exact hi
      · rw [List.getElem?_append_right (by simpa using hi)] at h2
        rw [List.getElem?_replicate] at h2
        split at h2 <;> cases h2
    have ha : vs[i]? = some v := by
      unfold L2.start at h2
      rw [List.getElem?_append_left (by simpa using hi), List.getElem?_map] at h2
      cases e : vs[i]? with
      | none => rw [e] at h2; cases h2
      | some a => rw [e] at h2; cases h2; rfl
    obtain ⟨u, hu, rv⟩ := r.get ha
    have hp : ps[i]? = some y := by
      rw [← S.pre, List.getElem?_take_of_lt (by omega)]; exact h1
    have ndP : ps.Nodup := by rw [← S.pre]; exact S.nd.sublist (List.take_sublist _ _)
    exact ⟨u, rv, .inl ⟨S.par y (List.mem_of_getElem? hp), zip_rev_lookup ndP hp hu⟩⟩
  · rw [(ck h).2]
    exact ⟨some (.ref Dc), _, kp _ _ hcs.1, rfl⟩
  · rw [(ck h).2]
    exact hcs.2
  · unfold L2.start
    show _ = N.length
    rw [List.length_append, List.length_map, List.length_replicate]
    omega
end LP
set_option maxHeartbeats 4000000
namespace LP
open PySem PySem.Spec PyProof.Rows L2
/-- what is known of a def that says super() -/
structure SupK (P : Program) (K : PySem.W.Frag) (mg : Str → Option Value) (f cda cc D : Addr) (ar : Str) : Prop where
  fn : ∃ (oc : Value) (od : Option Addr) (fd : FuncData) (osl : Array (Option Value)) (a : Arg), K.lookup f = some ⟨oc, od, .func fd, osl⟩ ∧ (fd.params.posonlyargs ++ fd.params.args).head? = some a ∧ a.arg = ar
  code : ∃ (ccl : Value) (cdd : Option Addr) (vs : Array Value) (ccs : Array (Option Value)) (file : Str) (tf : Tok), K.lookup cda = some ⟨ccl, cdd, .fields vs, ccs⟩ ∧ vs[2]? = some (.str file tf) ∧ ((P.main.file : Str) == file) = true
  cell : ∃ (cl : Value) (cld : Option Addr) (csl : Array (Option Value)), K.lookup cc = some ⟨cl, cld, .cell (some (.ref D)), csl⟩
  cls : ∃ cd, PySem.W.clsIn K D = some cd
  sup : mg "super" = none
  top : (P.main.scope.names.lookup ("super" : Str)).isSome = false
  op : PySem.W.nsIn K cStatics "thirdparty.any" = some none
section
variable {X : Cx} {f cda cc D x C dx f2 : Addr} {ar m : Str} {body : List Stmt} {pins : List (Addr × Obj)} {σ : L2.St} {H : Hp} {s : Shared} {fs : List (Str × V)} {Q : VK}
theorem inv_fewer {p : Addr × Obj} (I : Inv X (p :: pins) σ H s) : Inv X pins σ H s :=
  ⟨I.ok, I.os, I.bare, I.base, I.loc, I.cell, I.free, I.freeC, fun q hq => I.pin q (by
    rcases List.mem_append.mp hq with h | h
    · exact List.mem_append_left _ h
    · exact List.mem_append_right _ (List.mem_cons_of_mem _ h)), I.hok, I.len⟩
theorem inv_more {q : Addr} {o : Obj} (I : Inv X pins σ H s) (h1 : s.heap.get? q = some o) (h2 : H q = none) (h3 : q ≠ X.env.locals) (h4 : q ∉ X.fs) (h5 : ∀ v, o.data ≠ .cell v) : Inv X ((q, o) :: pins) σ H s :=
  ⟨I.ok, I.os, I.bare, I.base, I.loc, I.cell, I.free, I.freeC, fun p hp => by
    rcases List.mem_append.mp hp with h | h
    · exact I.pin p (List.mem_append_left _ h)
    · rcases List.mem_cons.mp h with rfl | h
      · exact ⟨h1, h2, h3, h4, h5⟩
      · exact I.pin p (List.mem_append_right _ h), I.hok, I.len⟩
end
end LP
set_option maxHeartbeats 4000000
namespace LP
open PySem PySem.Spec PyProof.Rows L2
end LP
set_option maxHeartbeats 4000000
namespace LP
open PySem PySem.Spec PyProof.Rows L2
end LP
set_option maxHeartbeats 4000000
namespace LP
open PySem PySem.Spec PyProof.Rows L2
structure FunS (K : PySem.W.Frag) (x qual : Str) (params : Arguments) (body : List Stmt) (scope : Scope) (dvs : List V) (f : Addr) (fd : FuncData) (cda cc : Addr) : Prop where
  ex : ∃ (oc : Value) (od : Option Addr) (dV kV doc pm : Value) (an : Option Addr) (ct : Value) (osl : Array (Option Value)),
    fd = PySem.W.ksFn x qual params body scope dV kV doc pm an (.ref cda) ct cc ∧ K.lookup f = some ⟨oc, od, .func fd, osl⟩ ∧ PySem.W.codeIn K (.ref cda) qual = true ∧ DflV K dV dvs
  cell : ∃ (cl : Value) (cld : Option Addr) (csl : Array (Option Value)) (D : Addr), K.lookup cc = some ⟨cl, cld, .cell (some (.ref D)), csl⟩
section
variable {P : Program} {w0 : World} {K : PySem.W.Frag} {mg : Str → Option Value} {base : Heap} {ci : Ci} {x qual : Str} {params : Arguments} {body : List Stmt} {scope : Scope} {dvs : List V} {f cda cc : Addr} {fd : FuncData} {N ps : List Str} {k : Nat}
abbrev supD (P : Program) (w0 : World) (K : PySem.W.Frag) (mg : Str → Option Value) (base : Heap) (N : List Str) (qual : Str) (scope : Scope) (f cda cc : Addr) (A : Around) (outer : List Env) (s : Shared) (H : Hp) (E : XK) : Cx := supCx (L2.CX P w0) P w0 K mg base N qual scope f (.ref cda) cc A outer s H E
theorem fnS_ok {sp : Sp} (F : FunS K x qual params body scope dvs f fd cda cc) (S : FnScopeS N ps scope) (len : ∀ vs H Q E, sp vs H Q E → vs.length = ps.length)
    (hbody : ∀ (A : Around) (outer : List Env) (s : Shared) (H : Hp) (vs : List V) (Q : VK) (E : XK), Room k (A.deeper (PySem.W.ksEnv qual scope s.heap.objs.size f (.ref cda) cc)) → sp vs H Q E →
      wpSsC (supD P w0 K mg base N qual scope f cda cc A outer s H E) (.func body (PySem.W.ksEnv qual scope s.heap.objs.size f (.ref cda) cc)) body { nx := fun _ H' => Q .non H', rt := Q } (L2.start N vs) H) : FnOk P w0 K mg base (L2.CX P w0) (k + 1) f fd ps sp := by
  obtain ⟨oc, od, dV, kV, doc, pm, an, ct, osl, rfl, lk, hcd, _⟩ := F.ex
  obtain ⟨cl, cld, csl, Dc, hcl⟩ := F.cell
  refine ⟨len, fun A outer s H args us vs Q E hr e0 hb r hsp => ?_⟩
  have hl := len _ _ _ _ hsp
  have KX : K.In s.heap := e0.mod.kin.keeps fun b o e => (e0.bs b o e).1
  have lim : s.heap.NoLimit := e0.mod.nolimit.keeps fun b o e => (e0.bs b o e).1
  refine PySem.ks_codeAny_call_defAt (fd := PySem.W.ksFn x qual params body scope dV kV doc pm an (.ref cda) ct cc) (body := body) (binds := ps.zip us) hr.depth (KX _ _ lk) rfl lim (PySem.W.codeRec_of KX hcd) rfl hb S.nocell (fun y hy => S.par _ (List.of_mem_zip (a := y.1) (b := y.2) hy).1) (fun h₀ hns kp => ?_) S.co S.gen S.kind
  have I : Inv (supD P w0 K mg base N qual scope f cda cc A outer s H E) [] (L2.start N vs) H { s with heap := h₀, toks := s.toks + (ps.zip us).length } := inv_startS S hr.hd e0 hl r hcl hns kp
  refine PySem.ks_wpAt_mono (hbody A outer s H vs Q E (hr.deeper _) hsp [] _ I) (fun fl s' hs => ?_) fun e s' hs => hs
  have fin : ∀ {σ' : L2.St} {H' : Hp} {v : V} {u : Value}, Inv (supD P w0 K mg base N qual scope f cda cc A outer s H E) [] σ' H' s' → RelV v u → Q v H' → CE outer P w0 H s Q u s' :=
    fun {σ' H' v u} J rv q => ⟨v, H', J.os, J.bare, J.base, J.hok, rv, q⟩
  cases fl with
  | ret u =>
    obtain ⟨v, σ', H', J, rv, q⟩ := hs
    exact fin J rv q
  | next =>
    obtain ⟨σ', H', J, q⟩ := hs
    exact fin (v := V.non) (u := Value.none) J rfl q
  | brk =>
    obtain ⟨_, _, _, q⟩ := hs
    exact False.elim q
  | cont =>
    obtain ⟨_, _, _, q⟩ := hs
    exact False.elim q
end
end LP
set_option maxHeartbeats 4000000
namespace LP
open PySem PySem.Spec PyProof.Rows L2
structure SupE (K : PySem.W.Frag) (C D : Addr) : Prop where
  sub : PySem.W.mroIn K C (.ref D) = some true
  at_ : PySem.W.ks_superIn K C D "__init__" = some (some (.builtin "ValueError.__init__"))
  ve : PySem.W.subIn K (.ref C) (.type "ValueError") = some true
section
variable {X : Cx} {f cda cc D x C dx f2 : Addr} {ar m : Str} {body : List Stmt} {pins : List (Addr × Obj)} {σ : L2.St} {H : Hp} {s : Shared} {fs : List (Str × V)} {Q : VK}
theorem sup_nodeI {p0 p1 : Pos} {whole : Sem Value} {R : Value → Shared → Prop} {ox : Obj} {odx : Option Obj} (SK : SupK X.prog X.K X.mg f cda cc D ar) (hnc : (m == ("__class__" : Str)) = false) (hsub : PySem.W.mroIn X.K C (.ref D) = some true) (I : Inv X pins σ H s) (hks : X.env.kindOf "super" = some .globalImplicit) (hkc : X.env.kindOf "__class__" = some .free) (hfu : X.env.func = some f) (hco : X.env.code = .ref cda) (hcl : X.env.cells.lookup ("__class__" : Str) = some cc)
    (hN : X.N[0]? = some ar) (hka : X.env.scope.names.lookup ar = some .local) (h0 : σ[0]? = some (some (.ref x))) (IA : PySem.W.InstAt s.heap x ox C odx)
    (h : ∀ so h', h'.get? so = some (PySem.W.ks_superObj D x C) → (∀ b o, s.heap.get? b = some o → h'.get? b = some o) → s.heap.objs.size ≤ so → R (.ref so) { s with heap := h' }) :
    _root_.PySem.wpAt (model X.prog X.w) X.A (.func body X.env) (attributeBase (.Call (.Name "super" p0) [] [] p1) m X.env whole) R X.xe s := by
  obtain ⟨oc, od, fd, osl, a, lf, hp, rfl⟩ := SK.fn
  obtain ⟨ccl, cdd, vs, ccs, file, tf, lcd, hvs, hfile⟩ := SK.code
  obtain ⟨cl, cld, csl, lcc⟩ := SK.cell
  obtain ⟨cdD, hD⟩ := SK.cls
  obtain ⟨mb, b1, b2⟩ := I.mod.blt
  obtain ⟨m0, hns, hl⟩ := I.loc
  obtain ⟨u, ru, lk⟩ := hl 0 a.arg (.ref x) hN h0 (.inl hka)
  obtain rfl : u = Value.ref x := ru
  have hv : m0 a.arg = some (.ref x) := by
    rcases lk with ⟨_, e⟩ | ⟨k, _⟩
    · exact e
    · have hka' : X.env.kindOf a.arg = some .local := hka
      rw [hka'] at k
      rcases k with k | k <;> cases k
  have XK := I.kIn
  obtain ⟨oD, hD1, hD2⟩ : ∃ oD, s.heap.get? D = some oD ∧ oD.data = .cls cdD := by
    unfold PySem.W.clsIn at hD
    split at hD
    · rename_i c d cd' sl ho
      cases hD
      exact ⟨_, XK _ _ ho, rfl⟩
    · cases hD
  refine PySem.ks_wpAt_super_base hks hkc hnc hfu (XK _ _ lf) rfl hp hco (XK _ _ lcd) rfl hvs hfile SK.top ?_
  refine PySem.W.ks_loadName_global I.ok.kind hks (Calls.loadGlobal_builtin (by rw [I.ok.glob]; exact I.mod.glob.keeps I.bk) SK.sup (by rw [I.ok.blt]; exact b1.keeps I.bk) ((b2 _ (by decide)).trans (by kernel_rfl)) ⟨rfl, ?_⟩)
  refine wpAny_loadName_free I.ok.kind hkc hcl ⟨_, XK _ _ lcc, rfl⟩ ?_
  refine wpAny_loadName_local I.ok.kind hka hns hv ?_
  obtain ⟨hh, g, d, t, os⟩ := s
  refine PySem.ks_wpAny_isType_cls hD1 hD2 ⟨rfl, ?_⟩
  refine PySem.ks_wpAny_call_super hD1 hD2 IA.at_ IA.cls (fun c e => ?_) (PySem.W.looks_mroIn XK hsub) (fun h' e k => ?_)
  · have := IA.no
    unfold PySem.W.notCls at this
    rw [e] at this
    exact Bool.noConfusion this
  · exact h _ _ e k (Nat.le_refl _)
/-- the bound ValueError.__init__ called -/
theorem oinit_bound {u a : Addr} {us : List Value} {R : Value → Shared → Prop} (T : OexC X.K C) (I : Inv X pins σ H s) (hu : s.heap.get? u = some (PySem.W.kxs_mw "ValueError.__init__" a)) (e : H a = some (exo a C none)) (hl : us.length ≤ sizeLine) (h : ∀ s', Inv X pins σ H s' → R .none s') :
    wpAny (model X.prog X.w) X.A (call (.ref u) us) R X.xe s := by
  obtain ⟨nm, q, N, bs, bm, sn, sub, ab, col, dd, k0, k1, k2, k3, k5, hC, hbm⟩ := T.cls
  obtain ⟨t1, ho⟩ := exo_at I.hok e
  have XK := I.kIn
  obtain ⟨hh, g, d, tk, os⟩ := s
  refine wpAny_call (codeAny_of_tree ?_)
  show wpAny _ X.A.in1 (callAny (.ref u) ⟨us, []⟩) _ _ _
  simp only [callAny]
  refine wpAny_bind (wpAny_load hu ?_)
  simp only [PySem.W.kxs_mw, show (Value.type "method-wrapper" == Value.type "method" || Value.type "method-wrapper" == Value.type "builtin_function_or_method" || Value.type "method-wrapper" == Value.type "method-wrapper") = true by decide, if_true]
  refine PySem.W.KFB.if_so (by decide) ?_
  refine wpAny_bind (PySem.W.check_bound_init F.excBase_ValueError.toExcCallFacts (XK _ _ hC) ho rfl ?_)
  refine wpAny_bind (wpAny_pure (wpAny_pure ?_))
  refine ⟨plainId_quiet F.excBase_ValueError.init.plain _, codeAny_builtin F.excBase_ValueError.initEntry ?_⟩
  refine PySem.W.exc_init_tree (cls := .ref C) (t0 := t1) (dv := none) (c2 := .none) (c3 := .none) (b4 := .bool false) ho hl fun h' k hx _ => ?_
  have J := I.write (t' := tk) (x := a) (e := a) (o := exo a C none) (by rw [e]; exact True.intro) (.inl rfl) k ⟨_, hx⟩ (exo_ok hx)
  have eu : upd H a (exo a C none) = H := by
    funext b
    by_cases hb : b = a
    · rw [hb, upd_same, e]
    · rw [upd_ne hb]
  rw [eu] at J
  exact h _ J
/-- super().__init__('..') in an own error's __init__ -/
theorem xsup_expr {a : Addr} {t : Str} {j : Nat} {p0 p1 apos pc pos : Pos} {pl : Sem Bool} (SK : SupK X.prog X.K X.mg f cda cc D ar) (SE : SupE X.K C D) (T : OexC X.K C) (I : Inv X pins σ H s)
    (hks : X.env.kindOf "super" = some .globalImplicit) (hkc : X.env.kindOf "__class__" = some .free) (hfu : X.env.func = some f) (hco : X.env.code = .ref cda) (hcl : X.env.cells.lookup ("__class__" : Str) = some cc)
    (hN : X.N[0]? = some ar) (hka : X.env.scope.names.lookup ar = some .local) (h0 : σ[0]? = some (some (.ref a))) (hx : H a = some (exo a C none)) (h : Q .non H)
    (ht : eval (.Call (.Attribute (.Call (.Name "super" p0) [] [] p1) "__init__" apos) [.Constant (.str t) j pc] [] pos) X.env = (do
      let ov ← attributeBase (.Call (.Name "super" p0) [] [] p1) "__init__" X.env (eval (.Call (.Name "super" p0) [] [] p1) X.env)
      standAt apos.atName
      let (f, first) ← holding [ov] (getMethod ov "__init__" pl)
      callWith pos f first (backTo pos (starEach [.Constant (.str t) j pc] X.env)) []) := by rfl)
    (hst : starEach [.Constant (.str t) j pc] X.env = (false, eval (.Constant (.str t) j pc) X.env) :: starEach [] X.env := by rfl) :
    _root_.PySem.wpAt (model X.prog X.w) X.A (.func body X.env) (eval (.Call (.Attribute (.Call (.Name "super" p0) [] [] p1) "__init__" apos) [.Constant (.str t) j pc] [] pos) X.env) (EP X pins σ Q) X.xe s := by
  refine PySem.ks_wpAt_MethodCall (pl := pl) ?_ ht
  obtain ⟨t1, ho⟩ := exo_at I.hok hx
  have IA : PySem.W.InstAt s.heap a { cls := .ref C, dict := none, data := .fields #[.ref t1, .none, .none, .none, .bool false, .none] } C none := ⟨ho, rfl, rfl, trivial⟩
  refine sup_nodeI SK (by decide) SE.sub I hks hkc hfu hco hcl hN hka h0 IA fun so h' hso kp hsz => ?_
  have I1 : Inv X pins σ H { s with heap := h' } := I.kept kp
  have IA1 : PySem.W.InstAt h' a { cls := .ref C, dict := none, data := .fields #[.ref t1, .none, .none, .none, .bool false, .none] } C none := ⟨kp _ _ ho, rfl, rfl, trivial⟩
  have IC : ∃ cdC, PySem.W.clsIn X.K C = some cdC ∧ PySem.W.alongIn X.K "__init__" ((cdC.mro.dropWhile (· != .ref D)).drop 1) = some (some (.builtin "ValueError.__init__")) := by
    have := SE.at_
    unfold PySem.W.ks_superIn at this
    cases hc : PySem.W.clsIn X.K C with
    | none => rw [hc] at this; cases this
    | some cdC => rw [hc] at this; exact ⟨cdC, rfl, this⟩
  obtain ⟨cdC, hcC, hal⟩ := IC
  have hI : PySem.W.Looks (model X.prog X.w) h' (isInstance (.ref a) (.type "ValueError")) true := IA1.type.andThen (PySem.W.looks_subIn I1.kIn SE.ve)
  obtain ⟨hh, g, d, tk, os⟩ := s
  refine PySem.W.kxs_getMethod PySem.W.kxs_ValueError hso (PySem.W.looks_opaque I1.kIn SK.op) (l₀ := cdC.mro) (fun A Q E s k q => wpAny_bind ((PySem.W.looks_clsIn I1.kIn hcC) A _ E s k (wpAny_pure q))) rfl I1.kIn hal hI (PySem.W.ks_ne I1.kIn IA1 hcC) (by decide) ?_
  have I2 : Inv X pins σ H ⟨h'.push (PySem.W.kxs_mw "ValueError.__init__" a), g, d, tk + 1, os⟩ := I1.kept fun b o e => Heap.get?_push_of_some _ e
  have hq0 : h'.objs.size ≠ X.env.locals := fun z => by
    have := I1.lt
    rw [← z] at this
    exact Nat.lt_irrefl _ this
  have I3 := inv_more (q := h'.objs.size) (o := PySem.W.kxs_mw "ValueError.__init__" a) I2 (Heap.get?_push_size _ rfl) (I1.hok.fresh (Nat.le_refl _)) hq0 (I1.nofs (Nat.le_refl _)) (fun v e => by cases e)
  rw [hst]
  refine PySem.W.kxs_callWith (i := "ValueError.__init__") (x := a) rfl (PySem.Calls.evalArgs_plain ?_)
  have hc := (pa_cons (X := X) (pe_str (x := t) (j := j) (pos := pc)) pa_nil hst).run pos ((h'.objs.size, PySem.W.kxs_mw "ValueError.__init__" a) :: pins) _ σ H (fun vs H1 => vs.length = 1 ∧ H1 = H) I3 ⟨rfl, rfl⟩
  rw [hst] at hc
  refine wpAny_mono hc (fun us s3 ⟨vs, H3, I4, r, hv, eH⟩ => ?_) fun _ _ z => z
  subst eH
  have hb3 := (I4.pin _ (List.mem_append_right _ List.mem_cons_self)).1
  refine ⟨hb3, ?_⟩
  have hus : us.length ≤ sizeLine := by
    rw [← r.length, hv]; decide
  exact oinit_bound T I4 hb3 hx hus fun s' J => ⟨.non, _, inv_fewer J, rfl, h⟩
end
end LP
set_option maxHeartbeats 4000000
namespace LP
open PySem PySem.Spec PyProof.Rows L2
/-- what C's __init__(self, y) leaves: code and the field fd -/
def spE (C : Addr) (code fld : Str) : Sp := fun vs H Q E => ∃ a y, vs = [.ref a, y] ∧ H a = some (exo a C none) ∧ ∀ dx, H dx = none → dx ≠ a →
  Q .non (upd (upd (upd H dx (exd dx [("code", .str code)])) a (exo a C (some dx))) dx (exd dx [(fld, y), ("code", .str code)]))
/-- the body of such an __init__ -/
def errBody (txt code fld par : Str) (j1 j2 : Nat) (p0 p1 p2 p3 p4 p5 p6 p7 p8 p9 p10 p11 p12 p13 : Pos) : List Stmt :=
  [.Expr (.Call (.Attribute (.Call (.Name "super" p0) [] [] p1) "__init__" p2) [.Constant (.str txt) j1 p3] [] p4) p5,
   .Assign [.Attribute (.Name "self" p6) "code" p7] (.Constant (.str code) j2 p8) p9,
   .Assign [.Attribute (.Name "self" p10) fld p11] (.Name par p12) p13]
structure ErrC (K : PySem.W.Frag) (C D : Addr) (fld : Str) : Prop where
  ox : OexC K C
  se : SupE K C D
  nc : PySem.W.findIn K (.ref C) "code" = some none
  nf : PySem.W.findIn K (.ref C) fld = some none
theorem err_init {P : Program} {w0 : World} {K : PySem.W.Frag} {mg : Str → Option Value} {base : Heap} {x qual txt code fld par : Str} {params : Arguments} {scope : Scope} {dvs : List V} {f cda cc C D : Addr} {fd : FuncData} {k : Nat} {j1 j2 : Nat} {p0 p1 p2 p3 p4 p5 p6 p7 p8 p9 p10 p11 p12 p13 : Pos}
    (F : FunS K x qual params (errBody txt code fld par j1 j2 p0 p1 p2 p3 p4 p5 p6 p7 p8 p9 p10 p11 p12 p13) scope dvs f fd cda cc) (S : FnScopeS ["self", par] ["self", par] scope) (SK : SupK P K mg f cda cc D "self") (EC : ErrC K C D fld)
    (hks : scope.names.lookup ("super" : Str) = some .globalImplicit) (hkc : scope.names.lookup ("__class__" : Str) = some .free) (hks2 : scope.names.lookup ("self" : Str) = some .local) (hkp : scope.names.lookup par = some .local)
    (hd1 : (par == ("__debug__" : Str)) = false) (hd2 : (par == ("__classdict__" : Str)) = false) (hsw : ∀ env : Env, swapsWith (.Name par p12) (some (.Attribute (.Name "self" p10) fld p11)) p13.line env = pure false) (hi : ∀ L, interactive (PySem.W.ksEnv qual scope L f (.ref cda) cc) = false)
    (hev : ∀ env : Env, ∃ pl : Sem Bool, eval (.Call (.Attribute (.Call (.Name "super" p0) [] [] p1) "__init__" p2) [.Constant (.str txt) j1 p3] [] p4) env = (do
      let ov ← attributeBase (.Call (.Name "super" p0) [] [] p1) "__init__" env (eval (.Call (.Name "super" p0) [] [] p1) env)
      standAt p2.atName
      let (f, first) ← holding [ov] (getMethod ov "__init__" pl)
      callWith p4 f first (backTo p4 (starEach [.Constant (.str txt) j1 p3] env)) [])) :
    FnOk P w0 K mg base (L2.CX P w0) (k + 1) f fd ["self", par] (spE C code fld) := by
  refine fnS_ok F S (fun vs H Q E h => ?_) (fun A outer s H vs Q E hr h => ?_)
  · obtain ⟨a, y, rfl, _⟩ := h; rfl
  · obtain ⟨a, y, rfl, ha, hQ⟩ := h
    intro pins s1 I
    obtain ⟨pl, hpl⟩ := hev (supD P w0 K mg base ["self", par] qual scope f cda cc A outer s H E).env
    refine PySem.ks_wpAt_execs_cons (PySem.ks_wpAt_Expr_any (PySem.ks_wpAt_mono (xsup_expr (X := supD P w0 K mg base ["self", par] qual scope f cda cc A outer s H E) (body := errBody txt code fld par j1 j2 p0 p1 p2 p3 p4 p5 p6 p7 p8 p9 p10 p11 p12 p13) (Q := fun v H1 => v = .non ∧ H1 = H) SK EC.se EC.ox I hks hkc rfl rfl rfl rfl hks2 rfl ha ⟨rfl, rfl⟩ (ht := hpl)) (fun v s2 hv => ?_) fun _ _ z => z) (hi _))
    obtain ⟨v', H2, I2, rv, _, eH⟩ := hv
    subst eH
    refine PySem.wpAt_of_wpAny ?_
    have vis : Vis (supD P w0 K mg base ["self", par] qual scope f cda cc A outer s H2 E).env.scope "self" := .inl hks2
    have visp : Vis (supD P w0 K mg base ["self", par] qual scope f cda cc A outer s H2 E).env.scope par := .inl hkp
    have st1 := ps_ost (X := supD P w0 K mg base ["self", par] qual scope f cda cc A outer s H2 E) (f := "code") (p' := p7) (pos := p9) (pe_var (i := 0) (x := "self") (pos := p6) rfl vis) (pe_str (x := code) (j := j2) (pos := p8))
    have st2 := ps_ost (X := supD P w0 K mg base ["self", par] qual scope f cda cc A outer s H2 E) (f := fld) (p' := p11) (pos := p13) (pe_var (i := 0) (x := "self") (pos := p10) rfl vis) (pe_var (i := 1) (x := par) (pos := p12) rfl visp hd1 hd2) (hsw _)
    refine (pss_cons st1 (pss_one st2)).run pins s2 _ _ _ I2 ?_
    refine ⟨.ref a, rfl, a, C, rfl, EC.ox, EC.nc, .inl ⟨ha, fun dx hdx hne => ?_⟩⟩
    refine ⟨y, rfl, .ref a, rfl, a, C, rfl, EC.ox, EC.nf, .inr ⟨dx, [("code", .str code)], upd_same, ?_, by simp, hQ dx hdx hne⟩⟩
    rw [upd_ne hne, upd_same]
end LP
set_option maxHeartbeats 4000000
namespace LP
open PySem PySem.Spec PyProof.Rows L2
end LP
set_option maxHeartbeats 2000000
namespace LP
open PySem PySem.Spec PyProof.Rows L2
end LP
set_option maxHeartbeats 2000000
namespace LP
open PySem PySem.Spec PyProof.Rows L2
end LP
set_option maxHeartbeats 2000000
namespace LP
open PySem PySem.Spec PyProof.Rows L2
end LP
set_option maxHeartbeats 2000000
namespace LP
open PySem PySem.Spec PyProof.Rows L2
end LP
set_option maxHeartbeats 2000000
namespace LP
open PySem PySem.Spec PyProof.Rows L2
end LP
set_option maxHeartbeats 2000000
namespace LP
open PySem PySem.Spec PyProof.Rows L2
end LP
namespace LP
open PySem PySem.Spec PyProof.Rows L2
def CXn : CXT := fun _ _ _ _ _ _ => False
theorem law_close {P : Program} {w : World} {K : PySem.W.Frag} {mg : Str → Option Value} {base : Heap} {k : Nat} {f : Addr} {fd : FuncData} {ps : List Str} {ci : Ci} {m : Nat} (F : FnOk P w K mg base (L2.CX P w) k f fd ps (spOf K ci (fc_law m))) : FnOk P w K mg base CXn k f fd ps (spLaw K m) :=
  ⟨fun vs H Q E q => F.len vs H Q E (law_sp q), fun A outer s H args us vs Q E hr e b v q => codeAny_mono (F.run A outer s H args us vs Q (fun _ _ _ => False) hr e b v (law_sp (E := fun _ _ _ => False) (by
    obtain ⟨a, ns, h⟩ := q
    exact ⟨a, ns, h⟩))) fun r s' z => by
    cases r with
    | ok fl => cases fl <;> exact z
    | error er =>
      obtain ⟨a, B, H', cls, d, _, _, _, _, _, _, _, z⟩ := z
      exact z.elim⟩
end LP
set_option maxHeartbeats 2000000
namespace LP
open PySem PySem.Spec PyProof.Rows L2 He
end LP
set_option maxHeartbeats 2000000
namespace LP
open PySem PySem.Spec PyProof.Rows L2 He
/-- the def at a: its code's file, its cell, its class; super is the built-in -/
def supOkB (file ar : Str) (K : PySem.W.Frag) (a D : Addr) : Bool := match K.lookup a with
  | some ⟨_, _, .func fd, _⟩ => (match fd.code with
    | .ref cda => (match K.lookup cda with
      | some ⟨_, _, .fields vs, _⟩ => (match (show Option Value from vs[2]?) with
        | some (.str f _) => f == file
        | _ => false)
      | _ => false)
    | _ => false) && ((match fd.closure with
    | [(_, cc)] => (match K.lookup cc with
      | some ⟨_, _, .cell (some (.ref D')), _⟩ => D' == D
      | _ => false)
    | _ => false) && ((match (fd.params.posonlyargs ++ fd.params.args).head? with
    | some x => x.arg == ar
    | none => false) && ((PySem.W.clsIn K D).isSome && decide (PySem.W.nsIn K cStatics "thirdparty.any" = some none))))
  | _ => false
theorem DefE.funS {P : Program} {mg : Str → Option Value} {K : PySem.W.Frag} {d : DefE} {ar : Str} {D : Addr} (hs : d.sup = true) (e : fnE K (d.at_.ad K) = d.val) (c : d.ok K = true) (h : supOkB P.main.file ar K (d.at_.ad K) D = true)
    (hm : mg "super" = none) (ht : (P.main.scope.names.lookup ("super" : Str)).isSome = false) :
    ∃ fd cda cc, FunS K d.name d.qual d.params d.body d.scope (d.dvs K) (d.at_.ad K) fd cda cc ∧ SupK P K mg (d.at_.ad K) cda cc D ar ∧ PySem.W.keepIn K (.ref (d.at_.ad K)) = true := by
  obtain ⟨kp, c2⟩ := ba c
  unfold fnE at e
  unfold supOkB at h
  cases q : K.lookup (d.at_.ad K) with
  | none => rw [q] at c2; cases c2
  | some o =>
    obtain ⟨oc, od, dt, osl⟩ := o
    rw [q] at c2 e h
    cases dt with
    | func fd =>
      obtain ⟨n1, n2, n3, n4, n5, n6, n7, n8, n9, n10, n11, n12, n13, n14, n15⟩ := fd
      have e2 : (some (n1, n2, n3, n4, n5, n6, n7.map (fun q => (q.1, 0)), n15) : FnW) = some (d.name, d.qual, d.params, FuncBody.stmts d.body, d.scope, mainGlobals, [(("__class__" : Str), (0 : Addr))], builtinsNs) := by
        have e3 : (some (n1, n2, n3, n4, n5, n6, n7.map (fun q => (q.1, 0)), n15) : FnW) = d.val := e
        rw [e3]
        unfold DefE.val
        rw [hs]
        rfl
      simp only [Option.some.injEq, Prod.mk.injEq] at e2
      obtain ⟨h1, h2, h3, h4, h5, h6, h7, h8⟩ := e2
      have c3 : (PySem.W.codeIn K n13 d.qual && dflB K n8 (d.dvs K)) = true := c2
      obtain ⟨k1, k2⟩ := ba c3
      obtain ⟨g1, hA⟩ := ba h
      obtain ⟨g2, hB⟩ := ba hA
      obtain ⟨g3, hC⟩ := ba hB
      obtain ⟨g4, g5⟩ := ba hC
      clear h hA hB hC e c c2 c3
      dsimp only at g1 g2 g3
      cases n13 with
      | ref cda =>
        match n7, h7, g2 with
        | [(x0, cc)], h7, g2 =>
          rw [List.map_cons, List.map_nil, List.cons.injEq, Prod.mk.injEq] at h7
          have hx0 := h7.1.1
          subst h1 h2 h3 h4 h5 h6 h8 hx0
          dsimp only at g1 g2
          cases lcd : K.lookup cda with
          | none => rw [lcd] at g1; cases g1
          | some oo =>
            obtain ⟨ccl, cdd, dd, ccs⟩ := oo
            rw [lcd] at g1
            cases dd with
            | fields vs =>
              dsimp only at g1
              cases hv : vs[2]? with
              | none => rw [hv] at g1; cases g1
              | some v2 =>
                rw [hv] at g1
                cases v2 with
                | str f0 tf =>
                  cases lcc : K.lookup cc with
                  | none => rw [lcc] at g2; cases g2
                  | some o2 =>
                    obtain ⟨cl, cld, d2, csl⟩ := o2
                    rw [lcc] at g2
                    cases d2 with
                    | cell v3 =>
                      cases v3 with
                      | none => cases g2
                      | some v4 =>
                        cases v4 with
                        | ref D' =>
                          have hD' : D' = D := beq_iff_eq.mp g2
                          subst hD'
                          cases ha0 : (d.params.posonlyargs ++ d.params.args).head? with
                          | none => rw [ha0] at g3; cases g3
                          | some a0 =>
                            rw [ha0] at g3
                            obtain ⟨cdD, hD⟩ := Option.isSome_iff_exists.mp g4
                            have hf : f0 = P.main.file := beq_iff_eq.mp g1
                            refine ⟨_, cda, cc, ⟨⟨oc, od, n8, n9, n10, n11, n12, n14, osl, rfl, q, k1, dflB_ok k2⟩, ⟨cl, cld, csl, _, lcc⟩⟩, ⟨⟨oc, od, _, osl, a0, q, ha0, beq_iff_eq.mp g3⟩, ⟨ccl, cdd, vs, ccs, f0, tf, lcd, hv, ?_⟩, ⟨cl, cld, csl, lcc⟩, ⟨cdD, hD⟩, hm, ht, of_decide_eq_true g5⟩, kp⟩
                            rw [hf]
                            exact beq_self_eq_true _
                        | _ => cases g2
                    | _ => cases g2
                | _ => cases g1
            | _ => cases g1
      | _ => cases g1
    | _ => cases c2
end LP
set_option maxHeartbeats 2000000
namespace LP
open PySem PySem.Spec PyProof.Rows L2 He
def oexB (K : PySem.W.Frag) (C : Addr) : Bool := (match K.lookup C with | some ⟨.type "type", _, .cls cd, sl⟩ => (match cd.mro, sl.toList with | .ref C' :: bm, [_, _, _, _, some (.builtin n), _] => C' == C && (n == "ValueError.__new__" && (!cd.hasDel && (cd.hasDict && PySem.HandSPX.refsVE bm))) | _, _ => false) | _ => false) && (decide (PySem.W.findIn K (.ref C) "__setattr__" = some (some (.builtin "object.__setattr__"))) &&
  (decide (PySem.W.subIn K (.ref C) (.type "BaseException") = some true) && (decide (PySem.W.typeIn K (.ref C) = some (.type "type")) && PySem.W.keepIn K (.ref C))))
theorem oexB_ok {K : PySem.W.Frag} {C : Addr} (h : oexB K C = true) : OexC K C := by
  obtain ⟨h0, h⟩ := ba h
  obtain ⟨h1, h⟩ := ba h
  obtain ⟨h2, h⟩ := ba h
  obtain ⟨h3, h4⟩ := ba h
  refine ⟨?_, of_decide_eq_true h1, of_decide_eq_true h2, of_decide_eq_true h3, h4⟩
  split at h0
  · rename_i dd cd sl ho
    split at h0
    · rename_i C' bm k0 k1 k2 k3 n k5 hm hs
      obtain ⟨g1, h0⟩ := ba h0
      obtain ⟨g2, h0⟩ := ba h0
      obtain ⟨g3, h0⟩ := ba h0
      obtain ⟨g4, g5⟩ := ba h0
      obtain rfl := beq_iff_eq.mp g1
      obtain rfl := beq_iff_eq.mp g2
      obtain ⟨nm, bs, mro, ns, qn, hd, sn, sub, ab, col, dl⟩ := cd
      dsimp only at hm g3 g4
      have g3 : dl = false := by simpa using g3
      subst hm g3 g4
      obtain ⟨l⟩ := sl
      have hs : l = _ := hs
      subst hs
      exact ⟨nm, qn, ns, bs, bm, sn, sub, ab, col, dd, k0, k1, k2, k3, k5, ho, g5⟩
    · cases h0
  · cases h0
/-- an own error's class, its __init__ -/
def errB (x fld : Str) (K : PySem.W.Frag) : Bool := oexB K (ga K x) && (decide (PySem.W.mroIn K (ga K x) (.ref (ga K x)) = some true) && (decide (PySem.W.ks_superIn K (ga K x) (ga K x) "__init__" = some (some (.builtin "ValueError.__init__"))) && (decide (PySem.W.subIn K (.ref (ga K x)) (.type "ValueError") = some true) &&
  (decide (PySem.W.findIn K (.ref (ga K x)) "code" = some none) && (decide (PySem.W.findIn K (.ref (ga K x)) fld = some none) && (decide (PySem.W.findIn K (.ref (ga K x)) "__init__" = some (some (.ref (ma K (ga K x) "__init__")))) && decide (PySem.W.typeIn K (.ref (ma K (ga K x) "__init__")) = some (.type "function"))))))))
def ErrIs (txt code fld par : Str) (body : List Stmt) : Prop := ∃ (j1 j2 : Nat) (p0 p1 p2 p3 p4 p5 p6 p7 p8 p9 p10 p11 p12 p13 : Pos), body = errBody txt code fld par j1 j2 p0 p1 p2 p3 p4 p5 p6 p7 p8 p9 p10 p11 p12 p13 ∧ ∀ env : Env, ∃ pl : Sem Bool, eval (.Call (.Attribute (.Call (.Name "super" p0) [] [] p1) "__init__" p2) [.Constant (.str txt) j1 p3] [] p4) env = (do
      let ov ← attributeBase (.Call (.Name "super" p0) [] [] p1) "__init__" env (eval (.Call (.Name "super" p0) [] [] p1) env)
      standAt p2.atName
      let (f, first) ← holding [ov] (getMethod ov "__init__" pl)
      callWith p4 f first (backTo p4 (starEach [.Constant (.str txt) j1 p3] env)) [])
theorem FunS.bindsN {K : PySem.W.Frag} {x qual : Str} {params : Arguments} {body : List Stmt} {scope : Scope} {f cda cc : Addr} {fd : FuncData} {ps : List Str} (F : FunS K x qual params body scope [] f fd cda cc)
    (h : ∀ (kV doc pm : Value) (an : Option Addr) (cd ct : Value) (us : List Value), us.length = ps.length → bindArgs (PySem.W.ksFn x qual params body scope .none kV doc pm an cd ct cc) ⟨us, []⟩ = pure (ps.zip us)) : Binds K fd ps [] := by
  obtain ⟨oc, od, dV, kV, doc, pm, an, ct, osl, rfl, lk, hcd, hD⟩ := F.ex
  rcases hD with ⟨_, rfl⟩ | ⟨e, _⟩
  · exact .all (h kV doc pm an (.ref cda) ct)
  · exact absurd rfl e
/-- what an error's reader asks of its class -/
abbrev exoNames : List Str := ["code", "at", "name", "most", "limit", "line", "given"]
end LP
set_option maxHeartbeats 2000000
namespace LP
open PySem PySem.Spec PyProof.Rows L2
structure Up (K : PySem.W.Frag) (mg : Str → Option Value) (b b' : Heap) : Prop where
  sub : ∀ a o, b.get? a = some o → b'.get? a = some o
  sz : b.objs.size ≤ b'.objs.size
  mod : L2.Mod K mg b
theorem frames_down {h b b' : Heap} (sub : ∀ a o, b.get? a = some o → b'.get? a = some o) : ∀ {l : List Env}, h.FunFrames b' l → h.FunFrames b l
  | [], _ => trivial
  | e :: l, ⟨k, ⟨L, o, e1, e2, e3, e4⟩, r⟩ => ⟨k, ⟨L, o, e1, (by
    cases z : b.get? L with
    | none => rfl
    | some u => rw [sub L u z] at e2; cases e2), e3, e4⟩, frames_down sub r⟩
section
variable {P : Program} {w : World} {K : PySem.W.Frag} {mg : Str → Option Value} {b b' : Heap} {ci : Ci}
theorem Up.env0 (u : Up K mg b b') {A : Around} {outer : List Env} {s : Shared} {H : Hp} (e : Env0 P w K mg b' A outer s H) : Env0 P w K mg b A outer s H :=
  ⟨e.frames, u.mod, fun a o z => e.bs a o (u.sub a o z), Nat.le_trans u.sz e.bsz, frames_down u.sub e.funs, e.frf, e.hok, e.bare⟩
end
end LP
set_option maxHeartbeats 2000000
namespace LP
open PySem PySem.Spec PyProof.Rows L2
end LP
set_option maxHeartbeats 2000000
namespace LP
open PySem PySem.Spec PyProof.Rows L2
end LP
set_option maxHeartbeats 2000000
namespace LP
open PySem PySem.Spec PyProof.Rows L2
end LP
set_option maxHeartbeats 2000000
namespace LP
open PySem PySem.Spec PyProof.Rows L2
end LP
set_option maxHeartbeats 2000000
namespace LP
open PySem PySem.Spec PyProof.Rows L2
end LP
set_option maxHeartbeats 2000000
namespace LP
open PySem PySem.Spec PyProof.Rows L2
end LP
set_option maxHeartbeats 2000000
namespace LP
open PySem PySem.Spec PyProof.Rows L2 He
end LP
set_option maxHeartbeats 2000000
namespace LP
open PySem PySem.Spec PyProof.Rows L2
end LP
set_option maxHeartbeats 2000000
namespace LP
open PySem PySem.Spec PyProof.Rows L2
end LP
set_option maxHeartbeats 2000000
namespace LP
open PySem PySem.Spec PyProof.Rows L2
end LP
set_option maxHeartbeats 2000000
namespace LP
open PySem PySem.Spec PyProof.Rows L2
end LP
set_option maxHeartbeats 4000000
namespace LP
open PySem PySem.Spec PyProof.Rows L2
end LP
set_option maxHeartbeats 2000000
namespace LP
open PySem PySem.Spec PyProof.Rows L2
end LP
set_option maxHeartbeats 2000000
namespace LP
open PySem PySem.Spec PyProof.Rows L2
end LP
set_option maxHeartbeats 2000000
namespace LP
open PySem PySem.Spec PyProof.Rows L2
end LP
set_option maxHeartbeats 2000000
namespace LP
open PySem PySem.Spec PyProof.Rows L2
end LP
set_option maxHeartbeats 2000000
namespace LP
open PySem PySem.Spec PyProof.Rows L2
end LP
set_option maxHeartbeats 2000000
namespace LP
open PySem PySem.Spec PyProof.Rows L2
end LP
set_option maxHeartbeats 2000000
namespace LP
open PySem PySem.Spec PyProof.Rows L2
end LP
set_option maxHeartbeats 2000000
namespace LP
open PySem PySem.Spec PyProof.Rows L2
end LP
set_option maxHeartbeats 2000000
namespace LP
open PySem PySem.Spec PyProof.Rows L2
end LP
set_option maxHeartbeats 0
namespace LP
open PySem PySem.Spec PyProof.Rows L2
end LP
set_option maxHeartbeats 2000000
namespace LP
open PySem PySem.Spec PyProof.Rows L2
end LP
set_option maxHeartbeats 2000000
namespace LP
open PySem PySem.Spec PyProof.Rows L2
end LP
set_option maxHeartbeats 2000000
namespace LP
open PySem PySem.Spec PyProof.Rows L2
end LP
set_option maxHeartbeats 2000000
namespace LP.DS
open PySem PySem.W PySem.Calls PyProof.Rows PyProof.V PySem.Spec
end LP.DS
namespace LP
open PySem PySem.Spec PyProof.Rows L2
end LP
set_option maxHeartbeats 2000000
namespace LP
open PySem PySem.Spec PyProof.Rows L2
end LP
set_option maxHeartbeats 2000000
namespace LP
open PySem PySem.Spec PyProof.Rows L2
end LP
set_option maxHeartbeats 2000000
namespace LP
open PySem PySem.Spec PyProof.Rows L2
end LP
set_option maxHeartbeats 4000000
namespace LP
open PySem PySem.Spec PyProof.Rows L2
def keyT (e : Int × Value) : Str := match e.2 with | .str k _ => k | _ => ""
def GoodT (w : World) (e : Int × Value) : Prop := ∃ k tk, e.2 = Value.str k tk ∧ e.1 = hashStr w k
def TSet (w : World) (h : Heap) (a : Addr) (S : Str → Bool) (n : Nat) : Prop :=
  ∃ o es ep t, h.get? a = some o ∧ o.ExactSet ∧ o.data = .set es ep t ∧ (∀ e ∈ es.toList, GoodT w e) ∧ (es.toList.map keyT).Nodup ∧ (∀ k, S k = true ↔ k ∈ es.toList.map keyT) ∧
    es.size < scanBound ∧ t.fits es.size = true ∧ es.size = n ∧ Ris t.place.toList ∧ (w.params.followText "set-order" = true ∨ t.led = true)
section
variable {P : Program} {w : World} {h h' : Heap} {a : Addr} {S : Str → Bool} {n : Nat}
theorem TSet.at (R : TSet w h a S n) (k : ∀ o, h.get? a = some o → h'.get? a = some o) : TSet w h' a S n := by
  obtain ⟨o, es, ep, t, ho, r⟩ := R
  exact ⟨o, es, ep, t, k o ho, r⟩
end
end LP
set_option maxHeartbeats 1000000
namespace LP
open PySem PySem.Spec PyProof.Rows L2
end LP
set_option maxHeartbeats 1000000
namespace LP
open PySem PySem.Spec PyProof.Rows L2
end LP
set_option maxHeartbeats 1000000
namespace LP
open PySem PySem.Spec PyProof.Rows L2
/-- what is walked -/
inductive Sc where
  | lst (a : Addr) | tup (a : Addr) | txt (x : Str)
def Sc.v : Sc → V
  | .lst a => .ref a | .tup a => .ref a | .txt x => .str x
def Sc.at (K : PySem.W.Frag) : Sc → Hp → List V → Prop
  | .lst a, H, xs => SqL K H a xs
  | .tup a, H, xs => SqT K H a xs
  | .txt x, _, xs => xs = x.cps.toList.map fun c => V.str ⟨#[c]⟩
def Sc.base : Sc → List Addr
  | .lst a => [a] | .tup a => [a] | .txt _ => []
def Sc.tn (it : Addr) : Sc → Nat → Heap → Prop
  | .lst a, i, h => h.IsListIter it a i
  | .tup a, i, h => h.IsTupleIter it a i
  | .txt x, i, h => ∃ t, h.IsStrIter it (strIterType x) x t i
theorem Sc.keep {it : Addr} {i : Nat} {h h' : Heap} (k : ∀ o, h.get? it = some o → h'.get? it = some o) : ∀ {S : Sc}, S.tn it i h → S.tn it i h'
  | .lst _, st => Heap.IsListIter.at st k
  | .tup _, st => Heap.IsTupleIter.at st k
  | .txt _, ⟨t, o, e, r⟩ => ⟨t, o, k o e, r⟩
section
variable {X : Cx} {pins : List (Addr × Obj)} {σ : L2.St} {H : Hp} {s : Shared}
theorem Sc.inj (I : Inv X pins σ H s) : ∀ {S : Sc} {xs ys : List V}, S.at X.K H xs → S.at X.K H ys → xs = ys
  | .lst _, _, _, h1, h2 => I.list_inj h1 h2
  | .tup _, _, _, h1, h2 => I.tuple_inj h1 h2
  | .txt _, _, _, h1, h2 => h1.trans h2.symm
end
def Sc.of : A → V → Sc
  | .d (.tup _), .ref p => .tup p
  | .d (.str _), .str x => .txt x
  | _, .ref p => .lst p
  | _, _ => .txt ""
end LP
set_option maxHeartbeats 1000000
namespace LP
open PySem PySem.Spec PyProof.Rows L2
end LP
set_option maxHeartbeats 2000000
namespace LP
open PySem PySem.Spec PyProof.Rows L2
end LP
set_option maxHeartbeats 4000000
namespace PySem
namespace OEX
open PySem.W PySem.Calls PyProof.Rows PySem.HandSPX
section
open Builtin Builtin.ObjectAttr
variable {prog : Program} {w : World} {A : Around} {E : Value → Shared → Prop} {R : Result → Shared → Prop} {hp : Heap} {g : Array GenState} {d : Drawn} {t : Nat} {os : OsState}
/-- a field of an own exception whose mro lets the store pass: from the object's own dict (none as yet) -/
theorem set_new_by {K : W.Frag} {name : Str} {tk : Tok} {v : Value} {x C : Addr} {fv : Array Value} {cd : ClassData}
    (X : K.In hp) (hx : hp.get? x = some { cls := .ref C, data := .fields fv }) (hcd : W.clsIn K C = some cd) (ne : cd.mro.isEmpty = false) (hob : cd.mro.contains (.type "object") = true) (hps : ∀ self, refuseLoop self "__setattr__" cd.mro = pure ()) (hh : cd.hasDict = true) (ha : W.findIn K (.ref C) name = some none)
    (hq : ∀ h' tk' dx, (∀ b o, b ≠ x → hp.get? b = some o → h'.get? b = some o) → hp.objs.size ≤ dx → dx ≠ x → h'.get? x = some { cls := .ref C, dict := some dx, data := .fields fv } →
      h'.Ns1 dx (fun y => if y = name then some v else none) → R (.ok (.ret .none)) ⟨h', g, d, tk', os⟩) :
    codeAny (model prog w) A (.call (.builtin "object.__setattr__") ⟨[.ref x, .str name tk, v], []⟩) R ⟨hp, g, d, t, os⟩ := by
  have I : W.InstAt hp x { cls := .ref C, data := .fields fv } C none := ⟨hx, rfl, rfl, trivial⟩
  have SF := F.store_object
  have hxs : x ≠ hp.objs.size := Nat.ne_of_lt (Heap.lt_size hx)
  have sub : W.Looks (model prog w) hp (isInstance (.ref x) (.type "object")) true := I.type.andThen (W.looks_mroIn X (by unfold W.mroIn; rw [hcd, Option.bind_some, if_neg (by rw [ne]; decide), hob]))
  refine codeAny_call_builtin SF.slot.plain SF.entry (@W.check_slot (model prog w) _ _ ⟨hp, g, d, t, os⟩ "object.__setattr__" "object" "__setattr__" (.ref x) [.str name tk, v] [] _ SF.kind SF.split sub (SF.args (.ref x) (.str name tk) v) ?_)
  have L3 : W.Looks (model prog w) hp (storeTaker? none) none := .now
  have hcls : W.Looks (model prog w) hp (classData C) cd := W.looks_clsIn X hcd
  have hmr : W.Looks (model prog w) hp (mroOf (.ref C)) cd.mro := hcls.andThen .now
  rw [W.osa_eq, refuse_eq]
  refine wpAny_bind (wpAny_bind (I.type.at (wpAny_bind (hmr.at ?_))))
  rw [hps]
  refine wpAny_pure (wpAny_bind (I.type.at (wpAny_bind ((W.looks_findIn X ha).at (wpAny_bind (L3.at ?_))))))
  show wpAny _ _ (storeInOwnDict (.ref x) (.ref C) (.str name tk) name v false) _ _ _
  obtain ⟨nm, bs, mro, ns, qn, hd, sn, sb, ab, col, del⟩ := cd
  dsimp only at hh
  subst hh
  unfold storeInOwnDict ownDictForStores
  repeat (first | with_reducible refine store_in_new ?_ ?_ | with_reducible refine wpAny_loadPart_at hx ?_ | with_reducible refine hcls.at ?_ | wp_step)
  · exact ⟨_, #[], _, (Heap.get?_update_ne _ _ _ _ hxs.symm).trans (Heap.get?_push_at rfl rfl), rfl, fun e he => absurd he (by simp), fun _ => rfl⟩
  · intro h' tk' hn' hs
    have hx₁ : (hp.push { cls := .type "dict", data := .dict #[] }).get? x = some { cls := .ref C, data := .fields fv } := Heap.get?_push_of_some _ hx
    refine hq h' tk' hp.objs.size (fun b o hb ho => ?_) (Nat.le_refl _) hxs.symm ?_ hn'
    · exact (hs.2 b (Nat.ne_of_lt (Heap.lt_size ho))).trans ((Heap.get?_update_ne _ _ _ _ hb).trans (Heap.get?_push_of_some _ ho))
    · exact (hs.2 x hxs).trans (Heap.get?_update_self _ hx₁ rfl)
/-- a further field -/
theorem set_old_by {K : W.Frag} {name : Str} {tk : Tok} {v : Value} {x C dx : Addr} {fv : Array Value} {cd : ClassData} {m0 : Str → Option Value} {nl : List Str}
    (X : K.In hp) (hx : hp.get? x = some { cls := .ref C, dict := some dx, data := .fields fv }) (hns : hp.Ns1 dx m0) (hw : Within m0 nl) (hz : nl.length ≤ 1000) (hcd : W.clsIn K C = some cd) (ne : cd.mro.isEmpty = false) (hob : cd.mro.contains (.type "object") = true) (hps : ∀ self, refuseLoop self "__setattr__" cd.mro = pure ()) (hh : cd.hasDict = true)
    (ha : W.findIn K (.ref C) name = some none)
    (hq : ∀ h' tk', (∀ b o, b ≠ dx → hp.get? b = some o → h'.get? b = some o) → h'.Ns1 dx (fun y => if y = name then some v else m0 y) → R (.ok (.ret .none)) ⟨h', g, d, tk', os⟩) :
    codeAny (model prog w) A (.call (.builtin "object.__setattr__") ⟨[.ref x, .str name tk, v], []⟩) R ⟨hp, g, d, t, os⟩ := by
  obtain ⟨oD, _, _, hoD, _, _⟩ := hns.count hw
  have I : W.InstAt hp x { cls := .ref C, dict := some dx, data := .fields fv } C (some oD) := ⟨hx, rfl, rfl, hoD⟩
  have SF := F.store_object
  have sub : W.Looks (model prog w) hp (isInstance (.ref x) (.type "object")) true := I.type.andThen (W.looks_mroIn X (by unfold W.mroIn; rw [hcd, Option.bind_some, if_neg (by rw [ne]; decide), hob]))
  refine codeAny_call_builtin SF.slot.plain SF.entry (@W.check_slot (model prog w) _ _ ⟨hp, g, d, t, os⟩ "object.__setattr__" "object" "__setattr__" (.ref x) [.str name tk, v] [] _ SF.kind SF.split sub (SF.args (.ref x) (.str name tk) v) ?_)
  have L3 : W.Looks (model prog w) hp (storeTaker? none) none := .now
  have hcls : W.Looks (model prog w) hp (classData C) cd := W.looks_clsIn X hcd
  have hmr : W.Looks (model prog w) hp (mroOf (.ref C)) cd.mro := hcls.andThen .now
  rw [W.osa_eq, refuse_eq]
  refine wpAny_bind (wpAny_bind (I.type.at (wpAny_bind (hmr.at ?_))))
  rw [hps]
  refine wpAny_pure (wpAny_bind (I.type.at (wpAny_bind ((W.looks_findIn X ha).at (wpAny_bind (L3.at ?_))))))
  show wpAny _ _ (storeInOwnDict (.ref x) (.ref C) (.str name tk) name v false) _ _ _
  obtain ⟨nm, bs, mro, ns, qn, hd, sn, sb, ab, col, del⟩ := cd
  dsimp only at hh
  subst hh
  unfold storeInOwnDict ownDictForStores
  repeat (first | with_reducible refine store_in_old hns hw hz ?_ | with_reducible refine wpAny_loadPart_at hx ?_ | with_reducible refine hcls.at ?_ | wp_step)
  intro h' tk' hn' hs
  exact hq h' tk' (fun b o hb ho => (hs.2 b hb).trans ho) hn'
end
end OEX
end PySem
namespace LP
open PySem PySem.Spec PyProof.Rows L2
abbrev leTail : List Value := [.type "LookupError", .type "Exception", .type "BaseException", .type "object"]
/-- own classes, then those of LookupError -/
def refsLE : List Value → Bool
  | [] => false
  | v :: r => match v with
    | .ref _ => refsLE r
    | _ => decide (v :: r = leTail)
theorem le_split : ∀ l : List Value, refsLE l = true → ∃ cs : List Addr, l = cs.map Value.ref ++ leTail
  | [], h => by cases h
  | v :: r, h => by
    cases v with
    | ref c =>
      obtain ⟨cs, e⟩ := le_split r h
      exact ⟨c :: cs, by rw [e]; rfl⟩
    | _ => exact ⟨[], of_decide_eq_true h⟩
theorem le_pass (self : Value) (l : List Value) (h : refsLE l = true) : PySem.refuseLoop self "__setattr__" l = pure () := by
  obtain ⟨cs, rfl⟩ := le_split l h
  clear h
  induction cs with
  | nil => exact F.store_LookupError.passes self
  | cons c cs ih =>
    show PySem.refuseLoop self "__setattr__" (.ref c :: (cs.map Value.ref ++ leTail)) = _
    rw [refuseLoop_ref]; exact ih
theorem le_has (Y : String) (l : List Value) (h : refsLE l = true) : l.contains (.type Y) = leTail.contains (.type Y) := by
  obtain ⟨cs, rfl⟩ := le_split l h
  clear h
  induction cs with
  | nil => rfl
  | cons c cs ih =>
    show (Value.ref c :: (cs.map Value.ref ++ leTail)).contains (.type Y) = _
    rw [List.contains_cons, ih]; rfl
/-- what the written part says of such a class -/
structure OexL (K : PySem.W.Frag) (C : Addr) : Prop where
  cls : ∃ nm q N bs bm sn sub ab col dd k0 k1 k2 k3 k5, K.lookup C = some (excClassObj nm q C N bs bm true sn sub ab col dd k0 k1 k2 k3 k5 "LookupError.__new__") ∧ refsLE bm = true
  sa : PySem.W.findIn K (.ref C) "__setattr__" = some (some (.builtin "object.__setattr__"))
  exC : PySem.W.subIn K (.ref C) (.type "BaseException") = some true
  tyC : PySem.W.typeIn K (.ref C) = some (.type "type")
  kC : PySem.W.keepIn K (.ref C) = true
theorem OexL.data {K : PySem.W.Frag} {C : Addr} (T : OexL K C) : ∃ cd, PySem.W.clsIn K C = some cd ∧ cd.mro.isEmpty = false ∧ cd.mro.contains (.type "object") = true ∧ (∀ self, PySem.refuseLoop self "__setattr__" cd.mro = pure ()) ∧ cd.hasDict = true := by
  obtain ⟨nm, q, N, bs, bm, sn, sub, ab, col, dd, k0, k1, k2, k3, k5, hC, hbm⟩ := T.cls
  have h2 : refsLE (.ref C :: bm) = true := hbm
  refine ⟨{ name := nm, bases := bs, mro := .ref C :: bm, ns := N, qualname := q, hasDict := true, slotNames := sn, subclasses := sub, abstract := ab, collection := col, hasDel := false }, ?_, rfl, (le_has "object" _ h2).trans (by decide +kernel), fun self => le_pass self _ h2, rfl⟩
  unfold PySem.W.clsIn
  rw [hC] <;> rfl
section
variable {X : Cx} {pins : List (Addr × Obj)} {σ : L2.St} {H : Hp} {s : Shared} {a C dx : Addr} {f : Str} {y : V} {u : Value} {fs : List (Str × V)} {Q : Unit → Shared → Prop} {E : Value → Shared → Prop} {A : Around}
/-- self.f = y, the first field -/
theorem ost_newL (T : OexL X.K C) (I : Inv X pins σ H s) (e : H a = some (exo a C none)) (hno : PySem.W.findIn X.K (.ref C) f = some none) (ry : RelV y u)
    (h : ∀ dx s', H dx = none → dx ≠ a → Inv X pins σ (upd (upd H dx (exd dx [(f, y)])) a (exo a C (some dx))) s' → Q () s') : wpAny (model X.prog X.w) A (setAttr (.ref a) f u) Q E s := by
  obtain ⟨cd, hcl, c1, c2, c3, c4⟩ := T.data
  obtain ⟨t1, ho⟩ := exo_at I.hok e
  obtain ⟨hp, g, d, t, os⟩ := s
  refine PySem.W.set_plain I.kIn (ox := { cls := .ref C, dict := none, data := .fields #[.ref t1, .none, .none, .none, .bool false, .none] }) (od := none) ⟨ho, rfl, rfl, trivial⟩ T.sa ?_
  refine PySem.OEX.set_new_by I.kIn ho hcl c1 c2 c3 c4 hno (fun h' tk' dx k dn dne hx hn => ?_)
  have hnd : H dx = none := I.hok.fresh dn
  have nd : ∀ {b : Addr} {o : Obj}, hp.get? b = some o → b ≠ dx := fun {b o} q => Nat.ne_of_lt (Nat.lt_of_lt_of_le (Heap.lt_size q) dn)
  have na : ∀ {b : Addr}, H b = none → b ≠ a := fun {b} n z => by
    rw [z, e] at n
    cases n
  have Un1 : Un X.fs [] H (upd (upd H dx (exd dx [(f, y)])) a (exo a C (some dx))) hp h' := {
    keep := fun b o q n _ _ => k b o (na n) q
    slot := fun b o q n _ _ => ⟨o.slots, k b o (na n) q⟩
    free := fun b o q n _ => by rw [upd_ne (na n), upd_ne (nd q)]; exact n
    there := fun b o q _ => by
      by_cases hb : b = a
      · exact ⟨_, by rw [hb]; exact hx⟩
      · exact ⟨o, k b o hb q⟩
    tups := fun b xs q => by rw [upd_ne (at_ne e q exo_tup), upd_ne (ne_of_none q hnd)]; exact q
    frzs := fun b o v q => by rw [upd_ne (at_ne e q exo_frz), upd_ne (ne_of_none q hnd)]; exact q
    tbls := fun b ps q => ⟨#[], by rw [upd_ne (at_ne e q exo_tbl), upd_ne (ne_of_none q hnd), q]; simp⟩ }
  refine h dx _ hnd dne (I.un (t' := tk') Un1 fun b o q => ?_)
  by_cases hb : b = a
  · subst hb
    rw [upd_same] at q
    cases q
    exact exo_ok hx
  · rw [upd_ne hb] at q
    by_cases hd : b = dx
    · subst hd
      rw [upd_same] at q
      cases q
      exact exd_ok hn (relO_put (fs := []) ry fun g => True.intro)
    · rw [upd_ne hd] at q
      exact (I.hok b o q).stay (fun c v hc z => k c v (by
          rcases hc with hc | hc
          · rw [hc]
            exact hb
          · exact at_ne e hc exo_own) z)
        (fun c hc => by rw [upd_ne (at_ne e hc exo_own), upd_ne (ne_of_none hc hnd)]; exact hc) (fun c xs hc => by rw [upd_ne (at_ne e hc exo_tup), upd_ne (ne_of_none hc hnd)]; exact hc)
/-- self.f = y, a further one -/
theorem ost_oldL (T : OexL X.K C) (I : Inv X pins σ H s) (e : H a = some (exo a C (some dx))) (ed : H dx = some (exd dx fs)) (hl : fs.length ≤ 900) (hno : PySem.W.findIn X.K (.ref C) f = some none) (ry : RelV y u)
    (h : ∀ s', Inv X pins σ (upd H dx (exd dx ((f, y) :: fs))) s' → Q () s') : wpAny (model X.prog X.w) A (setAttr (.ref a) f u) Q E s := by
  obtain ⟨cd, hcl, c1, c2, c3, c4⟩ := T.data
  obtain ⟨t1, ho⟩ := exo_at I.hok e
  obtain ⟨mA, hns, rel⟩ := exd_at I.hok ed
  have hw := within_of rel
  obtain ⟨hp, g, d, t, os⟩ := s
  obtain ⟨oD, _, _, hoD, _, _⟩ := hns.count hw
  refine PySem.W.set_plain I.kIn (ox := { cls := .ref C, dict := some dx, data := .fields #[.ref t1, .none, .none, .none, .bool false, .none] }) (od := some oD) ⟨ho, rfl, rfl, hoD⟩ T.sa ?_
  refine PySem.OEX.set_old_by I.kIn ho hns hw (by rw [List.length_map]; omega) hcl c1 c2 c3 c4 hno (fun h' tk' k hn => ?_)
  have hd : ∃ o, h'.get? dx = some o := by
    obtain ⟨o, _, _, e', _⟩ := hn
    exact ⟨o, e'⟩
  exact h _ (I.write (t' := tk') (x := dx) (e := dx) (o := exd dx ((f, y) :: fs)) (by rw [ed]; exact True.intro) (.inl rfl) k hd (exd_ok hn (relO_put ry rel)))
end
/-- self.f = e -/
def tOstL (K : PySem.W.Frag) (f : Str) (to te : TE) : TS := fun D σ H => te σ H fun y H1 => to σ H1 fun x H2 => ∃ a C : Addr, x = .ref a ∧ OexL K C ∧ PySem.W.findIn K (.ref C) f = some none ∧
  ((H2 a = some (exo a C none) ∧ ∀ dx, H2 dx = none → dx ≠ a → D.nx σ (upd (upd H2 dx (exd dx [(f, y)])) a (exo a C (some dx)))) ∨
    ∃ (dx : Addr) (fs : List (Str × V)), H2 a = some (exo a C (some dx)) ∧ H2 dx = some (exd dx fs) ∧ fs.length ≤ 900 ∧ D.nx σ (upd H2 dx (exd dx ((f, y) :: fs))))
section
variable {X : Cx} {o e : Expr} {es : List Expr} {to te : TE} {ta : TA} {f : Str} {p p' pos : Pos}
theorem ps_ostL (ho : PE X o to) (he : PE X e te) (hs : swapsWith e (some (.Attribute o f p')) pos.line X.env = pure false := by rfl) : PS X (.Assign [.Attribute o f p'] e pos) (tOstL X.K f to te) := by
  refine ⟨fun pins s σ H D I h => ?_⟩
  refine plainObj_wpAny_Assign_Attribute (thn (he.run pins s σ H _ I h) fun v s1 ⟨y, H1, I1, r1, q1⟩ => thn (ho.run pins s1 σ H1 _ I1 q1) fun u s2 ⟨x, H2, I2, r2, a, C, ex, T, hno, q⟩ => ?_) hs
  subst ex
  obtain rfl : u = Value.ref a := r2
  rcases q with ⟨ea, q⟩ | ⟨dx, fs, ea, ed, hl, q⟩
  · exact ost_newL T I2 ea hno r1 fun dx s' n ne J => ⟨σ, _, J, q dx n ne⟩
  · exact ost_oldL T I2 ea ed hl hno r1 fun s' J => ⟨σ, _, J, q⟩
end
end LP
namespace LP
open PySem PySem.Spec PyProof.Rows L2 He
structure SupL (K : PySem.W.Frag) (C D : Addr) : Prop where
  sub : PySem.W.mroIn K C (.ref D) = some true
  at_ : PySem.W.ks_superIn K C D "__init__" = some (some (.builtin "LookupError.__init__"))
  ve : PySem.W.subIn K (.ref C) (.type "LookupError") = some true
section
variable {X : Cx} {f cda cc D x C dx f2 : Addr} {ar m : Str} {body : List Stmt} {pins : List (Addr × Obj)} {σ : L2.St} {H : Hp} {s : Shared} {fs : List (Str × V)} {Q : VK}
/-- the bound LookupError.__init__ called -/
theorem oinit_boundL {u a : Addr} {us : List Value} {R : Value → Shared → Prop} (T : OexL X.K C) (I : Inv X pins σ H s) (hu : s.heap.get? u = some (PySem.W.kxs_mw "LookupError.__init__" a)) (e : H a = some (exo a C none)) (hl : us.length ≤ sizeLine) (h : ∀ s', Inv X pins σ H s' → R .none s') :
    wpAny (model X.prog X.w) X.A (call (.ref u) us) R X.xe s := by
  obtain ⟨nm, q, N, bs, bm, sn, sub, ab, col, dd, k0, k1, k2, k3, k5, hC, hbm⟩ := T.cls
  obtain ⟨t1, ho⟩ := exo_at I.hok e
  have XK := I.kIn
  obtain ⟨hh, g, d, tk, os⟩ := s
  refine wpAny_call (codeAny_of_tree ?_)
  show wpAny _ X.A.in1 (callAny (.ref u) ⟨us, []⟩) _ _ _
  simp only [callAny]
  refine wpAny_bind (wpAny_load hu ?_)
  simp only [PySem.W.kxs_mw, show (Value.type "method-wrapper" == Value.type "method" || Value.type "method-wrapper" == Value.type "builtin_function_or_method" || Value.type "method-wrapper" == Value.type "method-wrapper") = true by decide, if_true]
  refine PySem.W.KFB.if_so (by decide) ?_
  refine wpAny_bind (PySem.W.check_bound_init F.excBase_LookupError.toExcCallFacts (XK _ _ hC) ho rfl ?_)
  refine wpAny_bind (wpAny_pure (wpAny_pure ?_))
  refine ⟨plainId_quiet F.excBase_LookupError.init.plain _, codeAny_builtin F.excBase_LookupError.initEntry ?_⟩
  refine PySem.W.exc_init_tree (cls := .ref C) (t0 := t1) (dv := none) (c2 := .none) (c3 := .none) (b4 := .bool false) ho hl fun h' k hx _ => ?_
  have J := I.write (t' := tk) (x := a) (e := a) (o := exo a C none) (by rw [e]; exact True.intro) (.inl rfl) k ⟨_, hx⟩ (exo_ok hx)
  have eu : upd H a (exo a C none) = H := by
    funext b
    by_cases hb : b = a
    · rw [hb, upd_same, e]
    · rw [upd_ne hb]
  rw [eu] at J
  exact h _ J
/-- super().__init__('..') in an own error's __init__ -/
theorem xsup_exprL {a : Addr} {t : Str} {j : Nat} {p0 p1 apos pc pos : Pos} {pl : Sem Bool} (SK : SupK X.prog X.K X.mg f cda cc D ar) (SE : SupL X.K C D) (T : OexL X.K C) (I : Inv X pins σ H s)
    (hks : X.env.kindOf "super" = some .globalImplicit) (hkc : X.env.kindOf "__class__" = some .free) (hfu : X.env.func = some f) (hco : X.env.code = .ref cda) (hcl : X.env.cells.lookup ("__class__" : Str) = some cc)
    (hN : X.N[0]? = some ar) (hka : X.env.scope.names.lookup ar = some .local) (h0 : σ[0]? = some (some (.ref a))) (hx : H a = some (exo a C none)) (h : Q .non H)
    (ht : eval (.Call (.Attribute (.Call (.Name "super" p0) [] [] p1) "__init__" apos) [.Constant (.str t) j pc] [] pos) X.env = (do
      let ov ← attributeBase (.Call (.Name "super" p0) [] [] p1) "__init__" X.env (eval (.Call (.Name "super" p0) [] [] p1) X.env)
      standAt apos.atName
      let (f, first) ← holding [ov] (getMethod ov "__init__" pl)
      callWith pos f first (backTo pos (starEach [.Constant (.str t) j pc] X.env)) []) := by rfl)
    (hst : starEach [.Constant (.str t) j pc] X.env = (false, eval (.Constant (.str t) j pc) X.env) :: starEach [] X.env := by rfl) :
    _root_.PySem.wpAt (model X.prog X.w) X.A (.func body X.env) (eval (.Call (.Attribute (.Call (.Name "super" p0) [] [] p1) "__init__" apos) [.Constant (.str t) j pc] [] pos) X.env) (EP X pins σ Q) X.xe s := by
  refine PySem.ks_wpAt_MethodCall (pl := pl) ?_ ht
  obtain ⟨t1, ho⟩ := exo_at I.hok hx
  have IA : PySem.W.InstAt s.heap a { cls := .ref C, dict := none, data := .fields #[.ref t1, .none, .none, .none, .bool false, .none] } C none := ⟨ho, rfl, rfl, trivial⟩
  refine sup_nodeI SK (by decide) SE.sub I hks hkc hfu hco hcl hN hka h0 IA fun so h' hso kp hsz => ?_
  have I1 : Inv X pins σ H { s with heap := h' } := I.kept kp
  have IA1 : PySem.W.InstAt h' a { cls := .ref C, dict := none, data := .fields #[.ref t1, .none, .none, .none, .bool false, .none] } C none := ⟨kp _ _ ho, rfl, rfl, trivial⟩
  have IC : ∃ cdC, PySem.W.clsIn X.K C = some cdC ∧ PySem.W.alongIn X.K "__init__" ((cdC.mro.dropWhile (· != .ref D)).drop 1) = some (some (.builtin "LookupError.__init__")) := by
    have := SE.at_
    unfold PySem.W.ks_superIn at this
    cases hc : PySem.W.clsIn X.K C with
    | none => rw [hc] at this; cases this
    | some cdC => rw [hc] at this; exact ⟨cdC, rfl, this⟩
  obtain ⟨cdC, hcC, hal⟩ := IC
  have hI : PySem.W.Looks (model X.prog X.w) h' (isInstance (.ref a) (.type "LookupError")) true := IA1.type.andThen (PySem.W.looks_subIn I1.kIn SE.ve)
  obtain ⟨hh, g, d, tk, os⟩ := s
  refine PySem.W.kxs_getMethod PySem.W.kxs_LookupError hso (PySem.W.looks_opaque I1.kIn SK.op) (l₀ := cdC.mro) (fun A Q E s k q => wpAny_bind ((PySem.W.looks_clsIn I1.kIn hcC) A _ E s k (wpAny_pure q))) rfl I1.kIn hal hI (PySem.W.ks_ne I1.kIn IA1 hcC) (by decide) ?_
  have I2 : Inv X pins σ H ⟨h'.push (PySem.W.kxs_mw "LookupError.__init__" a), g, d, tk + 1, os⟩ := I1.kept fun b o e => Heap.get?_push_of_some _ e
  have hq0 : h'.objs.size ≠ X.env.locals := fun z => by
    have := I1.lt
    rw [← z] at this
    exact Nat.lt_irrefl _ this
  have I3 := inv_more (q := h'.objs.size) (o := PySem.W.kxs_mw "LookupError.__init__" a) I2 (Heap.get?_push_size _ rfl) (I1.hok.fresh (Nat.le_refl _)) hq0 (I1.nofs (Nat.le_refl _)) (fun v e => by cases e)
  rw [hst]
  refine PySem.W.kxs_callWith (i := "LookupError.__init__") (x := a) rfl (PySem.Calls.evalArgs_plain ?_)
  have hc := (pa_cons (X := X) (pe_str (x := t) (j := j) (pos := pc)) pa_nil hst).run pos ((h'.objs.size, PySem.W.kxs_mw "LookupError.__init__" a) :: pins) _ σ H (fun vs H1 => vs.length = 1 ∧ H1 = H) I3 ⟨rfl, rfl⟩
  rw [hst] at hc
  refine wpAny_mono hc (fun us s3 ⟨vs, H3, I4, r, hv, eH⟩ => ?_) fun _ _ z => z
  subst eH
  have hb3 := (I4.pin _ (List.mem_append_right _ List.mem_cons_self)).1
  refine ⟨hb3, ?_⟩
  have hus : us.length ≤ sizeLine := by
    rw [← r.length, hv]; decide
  exact oinit_boundL T I4 hb3 hx hus fun s' J => ⟨.non, _, inv_fewer J, rfl, h⟩
end
structure ErrCL (K : PySem.W.Frag) (C D : Addr) (fld : Str) : Prop where
  ox : OexL K C
  se : SupL K C D
  nc : PySem.W.findIn K (.ref C) "code" = some none
  nf : PySem.W.findIn K (.ref C) fld = some none
theorem err_initL {P : Program} {w0 : World} {K : PySem.W.Frag} {mg : Str → Option Value} {base : Heap} {x qual txt code fld par : Str} {params : Arguments} {scope : Scope} {dvs : List V} {f cda cc C D : Addr} {fd : FuncData} {k : Nat} {j1 j2 : Nat} {p0 p1 p2 p3 p4 p5 p6 p7 p8 p9 p10 p11 p12 p13 : Pos}
    (F : FunS K x qual params (errBody txt code fld par j1 j2 p0 p1 p2 p3 p4 p5 p6 p7 p8 p9 p10 p11 p12 p13) scope dvs f fd cda cc) (S : FnScopeS ["self", par] ["self", par] scope) (SK : SupK P K mg f cda cc D "self") (EC : ErrCL K C D fld)
    (hks : scope.names.lookup ("super" : Str) = some .globalImplicit) (hkc : scope.names.lookup ("__class__" : Str) = some .free) (hks2 : scope.names.lookup ("self" : Str) = some .local) (hkp : scope.names.lookup par = some .local)
    (hd1 : (par == ("__debug__" : Str)) = false) (hd2 : (par == ("__classdict__" : Str)) = false) (hsw : ∀ env : Env, swapsWith (.Name par p12) (some (.Attribute (.Name "self" p10) fld p11)) p13.line env = pure false) (hi : ∀ L, interactive (PySem.W.ksEnv qual scope L f (.ref cda) cc) = false)
    (hev : ∀ env : Env, ∃ pl : Sem Bool, eval (.Call (.Attribute (.Call (.Name "super" p0) [] [] p1) "__init__" p2) [.Constant (.str txt) j1 p3] [] p4) env = (do
      let ov ← attributeBase (.Call (.Name "super" p0) [] [] p1) "__init__" env (eval (.Call (.Name "super" p0) [] [] p1) env)
      standAt p2.atName
      let (f, first) ← holding [ov] (getMethod ov "__init__" pl)
      callWith p4 f first (backTo p4 (starEach [.Constant (.str txt) j1 p3] env)) [])) :
    FnOk P w0 K mg base (L2.CX P w0) (k + 1) f fd ["self", par] (spE C code fld) := by
  refine fnS_ok F S (fun vs H Q E h => ?_) (fun A outer s H vs Q E hr h => ?_)
  · obtain ⟨a, y, rfl, _⟩ := h; rfl
  · obtain ⟨a, y, rfl, ha, hQ⟩ := h
    intro pins s1 I
    obtain ⟨pl, hpl⟩ := hev (supD P w0 K mg base ["self", par] qual scope f cda cc A outer s H E).env
    refine PySem.ks_wpAt_execs_cons (PySem.ks_wpAt_Expr_any (PySem.ks_wpAt_mono (xsup_exprL (X := supD P w0 K mg base ["self", par] qual scope f cda cc A outer s H E) (body := errBody txt code fld par j1 j2 p0 p1 p2 p3 p4 p5 p6 p7 p8 p9 p10 p11 p12 p13) (Q := fun v H1 => v = .non ∧ H1 = H) SK EC.se EC.ox I hks hkc rfl rfl rfl rfl hks2 rfl ha ⟨rfl, rfl⟩ (ht := hpl)) (fun v s2 hv => ?_) fun _ _ z => z) (hi _))
    obtain ⟨v', H2, I2, rv, _, eH⟩ := hv
    subst eH
    refine PySem.wpAt_of_wpAny ?_
    have vis : Vis (supD P w0 K mg base ["self", par] qual scope f cda cc A outer s H2 E).env.scope "self" := .inl hks2
    have visp : Vis (supD P w0 K mg base ["self", par] qual scope f cda cc A outer s H2 E).env.scope par := .inl hkp
    have st1 := ps_ostL (X := supD P w0 K mg base ["self", par] qual scope f cda cc A outer s H2 E) (f := "code") (p' := p7) (pos := p9) (pe_var (i := 0) (x := "self") (pos := p6) rfl vis) (pe_str (x := code) (j := j2) (pos := p8))
    have st2 := ps_ostL (X := supD P w0 K mg base ["self", par] qual scope f cda cc A outer s H2 E) (f := fld) (p' := p11) (pos := p13) (pe_var (i := 0) (x := "self") (pos := p10) rfl vis) (pe_var (i := 1) (x := par) (pos := p12) rfl visp hd1 hd2) (hsw _)
    refine (pss_cons st1 (pss_one st2)).run pins s2 _ _ _ I2 ?_
    refine ⟨.ref a, rfl, a, C, rfl, EC.ox, EC.nc, .inl ⟨ha, fun dx hdx hne => ?_⟩⟩
    refine ⟨y, rfl, .ref a, rfl, a, C, rfl, EC.ox, EC.nf, .inr ⟨dx, [("code", .str code)], upd_same, ?_, by simp, hQ dx hdx hne⟩⟩
    rw [upd_ne hne, upd_same]
def oexLB (K : PySem.W.Frag) (C : Addr) : Bool := (match K.lookup C with | some ⟨.type "type", _, .cls cd, sl⟩ => (match cd.mro, sl.toList with | .ref C' :: bm, [_, _, _, _, some (.builtin n), _] => C' == C && (n == "LookupError.__new__" && (!cd.hasDel && (cd.hasDict && refsLE bm))) | _, _ => false) | _ => false) && (decide (PySem.W.findIn K (.ref C) "__setattr__" = some (some (.builtin "object.__setattr__"))) &&
  (decide (PySem.W.subIn K (.ref C) (.type "BaseException") = some true) && (decide (PySem.W.typeIn K (.ref C) = some (.type "type")) && PySem.W.keepIn K (.ref C))))
theorem oexLB_ok {K : PySem.W.Frag} {C : Addr} (h : oexLB K C = true) : OexL K C := by
  obtain ⟨h0, h⟩ := ba h
  obtain ⟨h1, h⟩ := ba h
  obtain ⟨h2, h⟩ := ba h
  obtain ⟨h3, h4⟩ := ba h
  refine ⟨?_, of_decide_eq_true h1, of_decide_eq_true h2, of_decide_eq_true h3, h4⟩
  split at h0
  · rename_i dd cd sl ho
    split at h0
    · rename_i C' bm k0 k1 k2 k3 n k5 hm hs
      obtain ⟨g1, h0⟩ := ba h0
      obtain ⟨g2, h0⟩ := ba h0
      obtain ⟨g3, h0⟩ := ba h0
      obtain ⟨g4, g5⟩ := ba h0
      obtain rfl := beq_iff_eq.mp g1
      obtain rfl := beq_iff_eq.mp g2
      obtain ⟨nm, bs, mro, ns, qn, hd, sn, sub, ab, col, dl⟩ := cd
      dsimp only at hm g3 g4
      have g3 : dl = false := by simpa using g3
      subst hm g3 g4
      obtain ⟨l⟩ := sl
      have hs : l = _ := hs
      subst hs
      exact ⟨nm, qn, ns, bs, bm, sn, sub, ab, col, dd, k0, k1, k2, k3, k5, ho, g5⟩
    · cases h0
  · cases h0
/-- an own error's class, its __init__ -/
def errLB (x fld : Str) (K : PySem.W.Frag) : Bool := oexLB K (ga K x) && (decide (PySem.W.mroIn K (ga K x) (.ref (ga K x)) = some true) && (decide (PySem.W.ks_superIn K (ga K x) (ga K x) "__init__" = some (some (.builtin "LookupError.__init__"))) && (decide (PySem.W.subIn K (.ref (ga K x)) (.type "LookupError") = some true) &&
  (decide (PySem.W.findIn K (.ref (ga K x)) "code" = some none) && (decide (PySem.W.findIn K (.ref (ga K x)) fld = some none) && (decide (PySem.W.findIn K (.ref (ga K x)) "__init__" = some (some (.ref (ma K (ga K x) "__init__")))) && decide (PySem.W.typeIn K (.ref (ma K (ga K x) "__init__")) = some (.type "function"))))))))
end LP
set_option maxHeartbeats 2000000
namespace LP
open PySem PySem.Spec PyProof.Rows L2 He
/-- what is at an error value -/
def ExAt (H : Hp) (p C : Addr) : Prop := H p = some (ExO (.ref C) p) ∨ ∃ dx fs, H p = some (exo p C (some dx)) ∧ H dx = some (exd dx fs)
theorem exc_at {K : PySem.W.Frag} {ci : Ci} {M : List Addr} {H : Hp} {c : Nat} {ns : List Str} {l : List D} {v : V} (r : Rep K ci M H (.exc c ns l) v) : ∃ p, v = .ref p ∧ ExAt H p (ci c).1 := by
  rw [Rep] at r
  obtain ⟨p, vs, rfl, _, q, _, _⟩ := r
  refine ⟨p, rfl, ?_⟩
  rcases q with ⟨_, q⟩ | ⟨dx, q1, q2, _⟩
  · exact .inl q
  · exact .inr ⟨dx, _, q1, q2⟩
def lk2 : List Str → List D → Str → Option D
  | n :: ns, d :: ds, m => if m = n then some d else lk2 ns ds m
  | _, _, _ => none
theorem lk2_rep {K : PySem.W.Frag} {ci : Ci} {M : List Addr} {H : Hp} {m : Str} {d : D} : ∀ {ns : List Str} {l : List D} {vs : List V}, Reps K ci M H l vs → lk2 ns l m = some d → ∃ w, (ns.zip vs).lookup m = some w ∧ Rep K ci M H d w
  | [], l, vs, r, e => by cases l <;> cases e
  | n :: ns, [], vs, r, e => by cases e
  | n :: ns, x :: l, vs, r, e => by
    rw [Reps] at r
    obtain ⟨v, rr, rfl, r1, r2⟩ := r
    rw [lk2] at e
    rw [List.zip_cons_cons, List.lookup_cons]
    by_cases h : m = n
    · rw [if_pos h] at e
      cases e
      rw [show (m == n) = true from by simpa using h]
      exact ⟨v, rfl, r1⟩
    · rw [if_neg h] at e
      rw [show (m == n) = false from by simpa using h]
      exact lk2_rep r2 e
def fXat (okc : List Nat) (n : Str) (f : QF) : QF := fun Γ S => (f Γ S).bind fun a => match a with
  | .d (.exc c ns l) => if okc.contains c = true then (lk2 ns l n).map A.d else none
  | _ => none
def fXis (okc yes : List Nat) (f : QF) : QF := fun Γ S => (f Γ S).bind fun a => match a with
  | .d (.exc c _ _) => if okc.contains c = true then some (.d (.bl (yes.contains c))) else none
  | _ => none
def rIsX (K : PySem.W.Frag) : List V → Hp → VK → Prop := fun xs H Q => ∃ (p C : Addr) (c : V) (cv : Value) (b : Bool), xs = [.ref p, c] ∧ ClsV c cv ∧ ExcC K C ∧ ExAt H p C ∧ PySem.W.kitOne K (.ref C) cv = some b ∧ Q (.bl b) H
section
variable {ci : Ci} {X : Cx}
theorem call_isX : CallR X (.builtin "isinstance") (rIsX X.K) := by
  intro pins s σ H xs us Q I r h
  obtain ⟨p, C, c, cv, b, rfl, k, EC, ea, e, q⟩ := h
  obtain ⟨u1, u2, rfl, r1, r2⟩ := vals2 r
  have e2 := k.eq r2
  subst e2
  cases (show u1 = Value.ref p from r1)
  have hcl : (PySem.W.clsIn X.K C).isSome = true := by
    obtain ⟨cd, hc, _⟩ := PySem.W.any_some EC.hd
    rw [hc]; rfl
  rcases ea with ea | ⟨dx, fs, ea, ed⟩
  · obtain ⟨⟨oe, vs, ho, hz, hd, _⟩, _, _⟩ := I.hok p _ ea
    have J : PySem.W.InstAt s.heap p oe C none := by
      obtain ⟨oc, od, oda, osl⟩ := oe
      obtain ⟨h1, h2⟩ := hz
      dsimp only at h1 h2 hd
      subst h1 h2 hd
      exact ⟨ho, rfl, rfl, trivial⟩
    exact PySem.W.kia_one (PySem.W.kitx_exc hcl EC.hg EC.hk EC.hs EC.ha EC.hn EC.ht EC.hm) I.kIn J e (fun z => nomatch z) fun tk => ⟨.bl b, H, I.tok tk, rfl, q⟩
  · obtain ⟨t1, ga⟩ := exo_at I.hok ea
    obtain ⟨mA, hns, hr⟩ := exd_at I.hok ed
    obtain ⟨od, ho, _⟩ := lookIn_ns hns
    have J : PySem.W.InstAt s.heap p { cls := .ref C, dict := some dx, data := .fields #[.ref t1, .none, .none, .none, .bool false, .none] } C (some od) := ⟨ga, rfl, rfl, ho⟩
    exact PySem.W.kia_one (PySem.W.kitx_exc hcl EC.hg EC.hk EC.hs EC.ha EC.hn EC.ht EC.hm) I.kIn J e (fun z => nomatch z) fun tk => ⟨.bl b, H, I.tok tk, rfl, q⟩
theorem rp_xat {okc : List Nat} {n : Str} {e : Expr} {f : QF} {pos : Pos} (h : ∀ c ∈ okc, ExcC X.K (ci c).1 ∧ PySem.W.findIn X.K (.ref (ci c).1) n = some none) (he : RP ci X e f) (hb : attributeBase e n X.env (eval e X.env) = eval e X.env := by rfl) : RP ci X (.Attribute e n pos) (fXat okc n f) := fun F U Γ S σ H b r q => by
  unfold fXat at q
  cases e1 : f Γ S with
  | none => rw [e1] at q; cases q
  | some x =>
    rw [e1, Option.bind_some] at q
    refine fun pins s I => attr_of hb (thn (he F U Γ S σ H _ r e1 pins s I) fun u s1 hu => ?_)
    obtain ⟨v, H1, I1, rv, ⟨ρ, r1⟩⟩ := hu
    split at q
    · rename_i c ns l
      split at q
      · rename_i hc
        obtain ⟨EC, hno⟩ := h c (by simpa using hc)
        cases e2 : lk2 ns l n with
        | none => rw [e2] at q; cases q
        | some d =>
          rw [e2] at q
          cases q
          have R := r1.top (a := .d (.exc c ns l)) List.mem_cons_self
          have R : Rep X.K ci (mu F ρ S) H1 (.exc c ns l) v := R
          rw [Rep] at R
          obtain ⟨p, vs, rfl, hpM, ho, hl, R⟩ := R
          rcases ho with ⟨rfl, _⟩ | ⟨dx, ea, ed, _⟩
          · cases l <;> cases e2
          · obtain ⟨w, lw, rw2⟩ := lk2_rep R e2
            obtain rfl : u = Value.ref p := rv
            obtain ⟨t1, ga⟩ := exo_at I1.hok ea
            obtain ⟨mA, hns, hr⟩ := exd_at I1.hok ed
            obtain ⟨od, ho, hl⟩ := lookIn_ns hns
            obtain ⟨u2, hu2, ru⟩ := RelO.some_of (v := w) (o := mA n) (by rw [← lw]; exact hr n)
            have J : PySem.W.InstAt s1.heap p { cls := .ref (ci c).1, dict := some dx, data := .fields #[.ref t1, .none, .none, .none, .bool false, .none] } (ci c).1 (some od) := ⟨ga, rfl, rfl, ho⟩
            exact HandSPX.exc_get I1.kIn J EC.hg EC.hk EC.hs (PySem.W.findObj_own EC.hd hno rfl (by rw [hl, hu2])) (handed_of ru) ⟨w, H1, I1.tok _, ru, ⟨ρ, (r1.drop fun x hx => List.mem_cons_of_mem _ hx).push rw2⟩⟩
      · cases q
    · cases q
/-- isinstance of an error value by a built-in class -/
theorem rp_xisB {okc yes : List Nat} {n : Str} {t : String} {e : Expr} {f : QF} {p p2 pos : Pos} (h : ∀ c ∈ okc, ExcC X.K (ci c).1 ∧ PySem.W.kitOne X.K (.ref (ci c).1) (.type t) = some (yes.contains c)) (hg : Gl X "isinstance") (hm : X.mg "isinstance" = none) (hg2 : Gl X n) (hm2 : X.mg n = none) (hv2 : bootBuiltins n = some (.type t)) (he : RP ci X e f)
    (hn2 : n ≠ "__name__" := by decide) (hdb2 : (n == ("__debug__" : Str)) = false := by decide +kernel)
    (hs : starEach [e, .Name n p2] X.env = (false, eval e X.env) :: starEach [.Name n p2] X.env := by kernel_rfl) : RP ci X (.Call (.Name "isinstance" p) [e, .Name n p2] [] pos) (fXis okc yes f) := fun F T Γ S σ H z r q => by
  unfold fXis at q
  cases e1 : f Γ S with
  | none => rw [e1] at q; cases q
  | some a =>
    rw [e1, Option.bind_some] at q
    split at q
    · rename_i c ns l
      split at q
      · rename_i hc
        cases q
        obtain ⟨EC, hk⟩ := h c (by simpa using hc)
        refine wpX_of (pe_callB call_isX hg hm (by decide +kernel) (pa_cons pe_wp (pa_cons (pe_bltn (v := .ty t) hg2 hm2 hv2 rfl hn2 hdb2) pa_nil) hs) (by decide) (by decide) hs) (wpX_mono (he F T Γ S σ H _ r e1) fun v H1 r1 => ?_)
        obtain ⟨ρ, q1⟩ := id r1
        obtain ⟨p', rfl, hp⟩ := exc_at (q1.top (a := .d (.exc c ns l)) List.mem_cons_self)
        exact ⟨p', _, _, _, _, rfl, .ty _, EC, hp, hk, by simpa using r1.tail.bl _⟩
      · cases q
    · cases q
/-- by an own class -/
theorem rp_xisO {okc yes : List Nat} {n : Str} {C : Addr} {e : Expr} {f : QF} {p p2 pos : Pos} (h : ∀ c ∈ okc, ExcC X.K (ci c).1 ∧ PySem.W.kitOne X.K (.ref (ci c).1) (.ref C) = some (yes.contains c)) (hg : Gl X "isinstance") (hm : X.mg "isinstance" = none) (hg2 : Gl X n) (hm2 : X.mg n = some (.ref C)) (he : RP ci X e f)
    (hdb2 : (n == ("__debug__" : Str)) = false := by decide +kernel)
    (hs : starEach [e, .Name n p2] X.env = (false, eval e X.env) :: starEach [.Name n p2] X.env := by kernel_rfl) : RP ci X (.Call (.Name "isinstance" p) [e, .Name n p2] [] pos) (fXis okc yes f) := fun F T Γ S σ H z r q => by
  unfold fXis at q
  cases e1 : f Γ S with
  | none => rw [e1] at q; cases q
  | some a =>
    rw [e1, Option.bind_some] at q
    split at q
    · rename_i c ns l
      split at q
      · rename_i hc
        cases q
        obtain ⟨EC, hk⟩ := h c (by simpa using hc)
        refine wpX_of (pe_callB call_isX hg hm (by decide +kernel) (pa_cons pe_wp (pa_cons (pe_glob (v := .ref C) hg2 hm2 rfl hdb2) pa_nil) hs) (by decide) (by decide) hs) (wpX_mono (he F T Γ S σ H _ r e1) fun v H1 r1 => ?_)
        obtain ⟨ρ, q1⟩ := id r1
        obtain ⟨p', rfl, hp⟩ := exc_at (q1.top (a := .d (.exc c ns l)) List.mem_cons_self)
        exact ⟨p', _, _, _, _, rfl, .own _, EC, hp, hk, by simpa using r1.tail.bl _⟩
      · cases q
    · cases q
end
/-- the class's facts by one look -/
def excB (x : Str) (K : PySem.W.Frag) : Bool := He.eqO (PySem.W.findIn K (.ref (ga K x)) "__getattribute__") (some (some (.builtin "BaseException.__getattribute__"))) && (decide (PySem.W.findIn K (.ref (ga K x)) "__getattr__" = some none) && (decide (PySem.W.subIn K (.ref (ga K x)) (.type "BaseException") = some true) && (PySem.W.hasDictIn K (ga K x) &&
  (He.eqO (PySem.W.findIn K (.ref (ga K x)) "__class__") (some (some (.builtin "object.__class__"))) && (decide (PySem.W.specialIn K (.builtin "object.__class__") "__get__" = some (some (.builtin "getset_descriptor.__get__"))) && (decide (PySem.W.takesIn K (.builtin "object.__class__") = some true) && decide (PySem.W.mroIn K (ga K x) (.type "object") = some true)))))))
theorem excB_ok {x : Str} {K : PySem.W.Frag} (h : excB x K = true) : ExcC K (ga K x) := by
  obtain ⟨h1, h⟩ := ba h
  obtain ⟨h2, h⟩ := ba h
  obtain ⟨h3, h⟩ := ba h
  obtain ⟨h4, h⟩ := ba h
  obtain ⟨h5, h⟩ := ba h
  obtain ⟨h6, h⟩ := ba h
  obtain ⟨h7, h8⟩ := ba h
  exact ⟨He.eqO_ok h1, of_decide_eq_true h2, of_decide_eq_true h3, h4, He.eqO_ok h5, of_decide_eq_true h6, of_decide_eq_true h7, of_decide_eq_true h8⟩
/-- several names that the class has not; its places under classes -/
def excNo (x : Str) (ns : List Str) (K : PySem.W.Frag) : Bool := ns.all fun n => decide (PySem.W.findIn K (.ref (ga K x)) n = some none)
theorem excNo_ok {x : Str} {ns : List Str} {K : PySem.W.Frag} (h : excNo x ns K = true) : ∀ n ∈ ns, PySem.W.findIn K (.ref (ga K x)) n = some none := fun n hn => of_decide_eq_true (List.all_eq_true.mp h n hn)
/-- under which of some classes: names of own ones, of built-in ones -/
def excIs (x : Str) (own : List (Str × Bool)) (blt : List (String × Bool)) (K : PySem.W.Frag) : Bool := (own.all fun y => decide (PySem.W.kitOne K (.ref (ga K x)) (.ref (ga K y.1)) = some y.2)) && blt.all fun y => decide (PySem.W.kitOne K (.ref (ga K x)) (.type y.1) = some y.2)
theorem excIs_own {x : Str} {own : List (Str × Bool)} {blt : List (String × Bool)} {K : PySem.W.Frag} (h : excIs x own blt K = true) {y : Str} {b : Bool} (hy : (y, b) ∈ own) : PySem.W.kitOne K (.ref (ga K x)) (.ref (ga K y)) = some b := of_decide_eq_true (List.all_eq_true.mp (ba h).1 _ hy)
theorem excIs_blt {x : Str} {own : List (Str × Bool)} {blt : List (String × Bool)} {K : PySem.W.Frag} (h : excIs x own blt K = true) {y : String} {b : Bool} (hy : (y, b) ∈ blt) : PySem.W.kitOne K (.ref (ga K x)) (.type y) = some b := of_decide_eq_true (List.all_eq_true.mp (ba h).2 _ hy)
end LP
set_option maxHeartbeats 4000000
namespace PySem
namespace OEV
open PySem.W PySem.Calls PyProof.Rows PySem.HandSPX
section
variable {M : Model} {A : Around} {E : Value → Shared → Prop} {h : Heap} {g : Array GenState} {d : Drawn} {t : Nat} {os : OsState}
variable {nm q : Str} {C N : Addr} {bs bm bmB : List Value} {hdct : Bool} {sn : List Str} {sub : List Value} {ab : Bool} {col : Option Bool} {dd : Option Addr} {k0 k1 k2 k3 k5 : Option Value} {B newId initId : String}
theorem check_new_kw (F : ExcBaseFacts B newId initId bmB) (hT : ∀ X : String, bm.contains (.type X) = bmB.contains (.type X)) {rest : List Value} {kw : List (Str × Value)} {Q : Unit → Shared → Prop}
    (hC : h.get? C = some (excClassObj nm q C N bs bm hdct sn sub ab col dd k0 k1 k2 k3 k5 newId)) (hq : Q () ⟨h, g, d, t, os⟩) : wpAny M A (checkBuiltinCall newId ⟨.ref C :: rest, kw⟩) Q E ⟨h, g, d, t, os⟩ := by
  have hcont : (Value.ref C :: bm).contains (.type B) = true := by rw [List.contains_cons, hT, F.hasB, Bool.or_true]
  have hstar := F.noStar
  simp only [checkBuiltinCall, F.newKind, F.newSplit, F.newRow]
  repeat (first | refine wpAny_loadPart_at hC ?_ | (refine wpAny_isSubtype_exc hC ?_; rw [hcont]) | refine wpAny_staticBase_exc hC ?_ | refine wpAny_madeBy_exc hC ?_ | simp only [bne_self_eq_false, Bool.false_eq_true, if_false] | wp_step)
  exact hq
end
section
variable {prog : Program} {w : World} {A : Around} {E : Value → Shared → Prop} {R : Result → Shared → Prop} {h : Heap} {g : Array GenState} {d : Drawn} {t : Nat} {os : OsState}
variable {nm q : Str} {C N : Addr} {bs bm bmB : List Value} {hdct : Bool} {sn : List Str} {sub : List Value} {ab : Bool} {col : Option Bool} {dd : Option Addr} {k0 k1 k2 k3 k5 : Option Value} {B newId initId : String}
theorem new_kw (F : ExcBaseFacts B newId initId bmB) (hT : ∀ X : String, bm.contains (.type X) = bmB.contains (.type X)) {rest : List Value} {kw : List (Str × Value)}
    (hC : h.get? C = some (excClassObj nm q C N bs bm hdct sn sub ab col dd k0 k1 k2 k3 k5 newId))
    (hq : R (.ok (.ret (.ref (h.objs.size + 1)))) ⟨(h.push { cls := .type "tuple", data := .seq rest.toArray }).push
      { cls := .ref C, data := .fields #[.ref h.objs.size, .none, .none, .none, .bool false, .none] }, g, d, t, os⟩) (hrest : rest.length ≤ sizeLine) :
    codeAny (model prog w) A (.builtin newId ⟨.ref C :: rest, kw⟩) R ⟨h, g, d, t, os⟩ := by
  have hends := F.ends
  have hcB : (Value.ref C :: bm).contains (.type B) = true := by rw [List.contains_cons, hT, F.hasB, Bool.or_true]
  have hcA : (Value.ref C :: bm).contains (.type "AttributeError") = false := by rw [List.contains_cons, hT, F.noAttr]; rfl
  have hcN : (Value.ref C :: bm).contains (.type "NameError") = false := by rw [List.contains_cons, hT, F.noName]; rfl
  refine codeAny_builtinAt F.entry ?_
  unfold Builtin.«BaseException.__new__»
  refine wpAt_bind ?_
  show wpAt _ _ _ (stack >>= _) _ _ _
  refine wpAt_bind (wpAt_stack fun p below => wpAt_of_wpAny ?_)
  wp_walk
  refine wpAt_of_wpAny ?_
  rw [F.owner]
  repeat (first | with_reducible refine wpAny_madeHere_exc F.canon hC ?_ | with_reducible refine wpAny_loadPart_at hC ?_ | (with_reducible refine wpAny_isSubtype_exc hC ?_; first | rw [hcB] | rw [hcA] | rw [hcN]) | wp_step)
  show R _ _
  rw [Heap.size_push]
  exact hq
theorem type_call_kw (F : ExcBaseFacts B newId initId bmB) (hT : ∀ X : String, bm.contains (.type X) = bmB.contains (.type X)) {rest : List Value} {kw : List (Str × Value)} {fI : Addr} {Q : Fin → Shared → Prop}
    (hC : h.get? C = some (excClassObj nm q C N bs bm hdct sn sub ab col dd k0 k1 k2 k3 k5 newId))
    (hi : W.Looks (model prog w) h (typeLookup (.ref C) "__init__") (some (.ref fI))) (hb : ∀ self, W.Looks (model prog w) h (bindSpecial (.ref fI) self) (.ref fI, [self])) (hrest : rest.length ≤ sizeLine)
    (hq : codeAny (model prog w) A (.call (.ref fI) ⟨.ref (h.objs.size + 1) :: rest, kw⟩)
      (fun r s' => match r with | .ok (.ret v) => v = .none ∧ Q (.done (.ret (.ref (h.objs.size + 1)))) s' | .ok _ => False | .error e => E e s')
      ⟨(h.push (W.kdv_tup rest)).push (excO C h.objs.size), g, d, t, os⟩) :
    wpAny (model prog w) A (Builtin.«type.__call__» ⟨.ref C :: rest, kw⟩) Q E ⟨h, g, d, t, os⟩ := by
  repeat (first | with_reducible refine wpAny_loadPart_at hC ?_ | with_reducible refine wpAny_madeBy_exc hC ?_ | wp_step)
  refine codeAny_call_builtin_code (Code.quiet_builtin _ F.quiet) (check_new_kw F hT hC ?_)
  refine new_kw F hT hC ?_ hrest
  show wpAny _ _ _ _ _ _
  have k : ∀ b o, h.get? b = some o → ((h.push (W.kdv_tup rest)).push (excO C h.objs.size)).get? b = some o := fun b o e => Heap.get?_push_of_some _ (Heap.get?_push_of_some _ e)
  have hC₁ := k _ _ hC
  have hget : ((h.push (W.kdv_tup rest)).push (excO C h.objs.size)).get? (h.objs.size + 1) = some (excO C h.objs.size) := by heap_get
  have hcC : (Value.ref C :: bm).contains (.ref C) = true := by simp
  have i1 := hi.keeps k
  have b1 := (hb (.ref (h.objs.size + 1))).keeps k
  unfold isInstance
  repeat (first | with_reducible refine wpAny_loadPart_at hget ?_ | (with_reducible refine wpAny_isSubtype_exc hC₁ ?_; rw [hcC]) | wp_step)
  show wpAny _ _ (typeLookup (.ref C) _) _ _ _
  refine i1.at ?_
  refine wpAny_holding (wpAny_bind (b1.at ?_))
  refine wpAny_bind (wpAny_call (codeAny_mono hq fun r s' z => ?_))
  rcases r with e | (v | _ | _ | _) <;> first | exact z | exact z.elim | skip
  obtain ⟨rfl, z⟩ := z
  first
    | exact wpAny_pure (wpAny_pure z)
    | (wp_walk; exact z)
theorem call_kw (F : ExcBaseFacts B newId initId bmB) (hT : ∀ X : String, bm.contains (.type X) = bmB.contains (.type X)) {rest : List Value} {kw : List (Str × Value)} {fI : Addr}
    (hC : h.get? C = some (excClassObj nm q C N bs bm hdct sn sub ab col dd k0 k1 k2 k3 k5 newId))
    (hi : W.Looks (model prog w) h (typeLookup (.ref C) "__init__") (some (.ref fI))) (hb : ∀ self, W.Looks (model prog w) h (bindSpecial (.ref fI) self) (.ref fI, [self])) (hrest : rest.length ≤ sizeLine)
    (hq : codeAny (model prog w) (A.under (.builtin "type.__call__" ⟨.ref C :: rest, kw⟩)) (.call (.ref fI) ⟨.ref (h.objs.size + 1) :: rest, kw⟩) (W.InitBack (h.objs.size + 1) R)
      ⟨(h.push (W.kdv_tup rest)).push (excO C h.objs.size), g, d, t, os⟩) :
    codeAny (model prog w) A (.call (.ref C) ⟨rest, kw⟩) R ⟨h, g, d, t, os⟩ := by
  have f1 := tc_lookup
  have f2 := tc_bind (.ref C)
  have hTy : (⟨h, g, d, t, os⟩ : Shared).TypeIs (.ref C) "type" := ⟨_, hC, rfl⟩
  refine codeAny_of_tree ?_
  show wpAny _ _ (callAny (.ref C) _) _ _ _
  repeat (any_goals (first | assumption | with_reducible refine wpAny_loadPart_at hC ?_ | wp_step))
  refine ⟨rfl, ?_⟩
  have typ : W.Looks (model prog w) h (isInstance (.ref C) (.type "type")) true := ((W.Looks.ld (part := none) hC).andThen .now).andThen (W.Looks.of_pure tc_sub)
  refine codeAny_call_builtin_at (Code.quiet_builtin _ (by decide +kernel)) entry_typeCall (W.check_slot tc_kind tc_split typ (W.tc_args _ _ _) (type_call_kw F hT hC hi hb hrest ?_))
  refine codeAny_mono hq fun r s' z => ?_
  rcases r with e | (v | _ | _ | _) <;> exact z
end
end OEV
end PySem
namespace LP
open PySem PySem.Spec PyProof.Rows L2 He
/-- what is asked of an error's class that it be made -/
structure OexG (K : PySem.W.Frag) (C : Addr) : Prop where
  cls : ∃ (B newId initId : String) (bmB : List Value) (nm q : Str) (N : Addr) (bs bm : List Value) (sn : List Str) (sub : List Value) (ab : Bool) (col : Option Bool) (dd : Option Addr) (k0 k1 k2 k3 k5 : Option Value), ExcBaseFacts B newId initId bmB ∧ (∀ X : String, bm.contains (.type X) = bmB.contains (.type X)) ∧
    K.lookup C = some (excClassObj nm q C N bs bm true sn sub ab col dd k0 k1 k2 k3 k5 newId)
  kC : PySem.W.keepIn K (.ref C) = true
theorem OexG.c {K : PySem.W.Frag} {C : Addr} (T : OexC K C) : OexG K C := by
  obtain ⟨nm, q, N, bs, bm, sn, sub, ab, col, dd, k0, k1, k2, k3, k5, hC, hbm⟩ := T.cls
  exact ⟨⟨_, _, _, _, nm, q, N, bs, bm, sn, sub, ab, col, dd, k0, k1, k2, k3, k5, F.excBase_ValueError, fun Y => PySem.HandSPX.refsVE_contains Y bm hbm, hC⟩, T.kC⟩
theorem OexG.l {K : PySem.W.Frag} {C : Addr} (T : OexL K C) : OexG K C := by
  obtain ⟨nm, q, N, bs, bm, sn, sub, ab, col, dd, k0, k1, k2, k3, k5, hC, hbm⟩ := T.cls
  exact ⟨⟨_, _, _, _, nm, q, N, bs, bm, sn, sub, ab, col, dd, k0, k1, k2, k3, k5, F.excBase_LookupError, fun Y => le_has Y bm hbm, hC⟩, T.kC⟩
/-- such an error's class, its __init__ as a def, a call by n values and the names ks -/
structure ErrV (P : Program) (w : World) (K : PySem.W.Frag) (mg : Str → Option Value) (base : Heap) (ci : Ci) (k : Nat) (c : Nat) (x : Str) (n : Nat) (ks : List Str) (sp : Sp) : Prop where
  ox : OexG K (ci c).1
  m : mg x = some (.ref (ci c).1)
  ex : ∃ (fI : Addr) (fd : FuncData) (ps : List Str), PySem.W.findIn K (.ref (ci c).1) "__init__" = some (some (.ref fI)) ∧ PySem.W.typeIn K (.ref fI) = some (.type "function") ∧ FnOk P w K mg base (L2.CX P w) k fI fd ps sp ∧ KBn K fd ps (n + 1) ks (fun us ws => us ++ ws) (fun vs zs => vs ++ zs)
section
variable {X : Cx} {ci : Ci} {k c n : Nat} {x : Str} {ks : List Str}
theorem run_errV {C fI : Addr} {fd : FuncData} {ps : List Str} {sp : Sp} {pins : List (Addr × Obj)} {σ : L2.St} {H : Hp} {s : Shared} {Q : VK} {us ws : List Value} {vs zs : List V} (T : OexG X.K C) (iC : PySem.W.findIn X.K (.ref C) "__init__" = some (some (.ref fI))) (tI : PySem.W.typeIn X.K (.ref fI) = some (.type "function"))
    (F1 : FnOk X.prog X.w X.K X.mg X.base (L2.CX X.prog X.w) k fI fd ps sp) (hr : Room (k + 1) X.A) (hb : KBn X.K fd ps (n + 1) ks (fun us ws => us ++ ws) (fun vs zs => vs ++ zs)) (I : Inv X pins σ H s) (r : Vals vs us) (rz : Vals zs ws) (l1 : vs.length = n) (l2 : zs.length = ks.length) (hz : vs.length ≤ 1000)
    (h : ∀ a, H a = none → sp (.ref a :: (vs ++ zs)) (upd H a (exo a C none)) (fun v H2 => v = .non ∧ Q (.ref a) H2) (fun _ _ _ => False)) :
    wpAny (model X.prog X.w) X.A (call (.ref C) us (ks.zip ws)) (EP X pins σ Q) X.xe s := by
  obtain ⟨B, newId, initId, bmB, nm, q, N, bs, bm, sn, sub, ab, col, dd, k0, k1, k2, k3, k5, FB, hT, hC⟩ := T.cls
  obtain ⟨hp, g, dr, tk, os⟩ := s
  have hsz : hp.objs.size ≤ hp.objs.size + 1 := Nat.le_succ _
  have hn : H (hp.objs.size + 1) = none := I.hok.fresh hsz
  have hq := h (hp.objs.size + 1) hn
  have kk : ∀ b o, hp.get? b = some o → ((hp.push (PySem.W.kdv_tup us)).push (PySem.HandSPX.excO C hp.objs.size)).get? b = some o := fun b o e => Heap.get?_push_of_some _ (Heap.get?_push_of_some _ e)
  have hget : ((hp.push (PySem.W.kdv_tup us)).push (PySem.HandSPX.excO C hp.objs.size)).get? (hp.objs.size + 1) = some (PySem.HandSPX.excO C hp.objs.size) := by heap_get
  have I2 : Inv X pins σ (upd H (hp.objs.size + 1) (exo (hp.objs.size + 1) C none)) ⟨(hp.push (PySem.W.kdv_tup us)).push (PySem.HandSPX.excO C hp.objs.size), g, dr, tk, os⟩ :=
    I.laid (t' := tk) (a := hp.objs.size + 1) (o := exo (hp.objs.size + 1) C none) (h' := (hp.push (PySem.W.kdv_tup us)).push (PySem.HandSPX.excO C hp.objs.size)) kk hsz (exo_ok hget)
  have r1 : Vals (V.ref (hp.objs.size + 1) :: vs) (Value.ref (hp.objs.size + 1) :: us) := .cons rfl r
  have e1 : (Value.ref (hp.objs.size + 1) :: us).length = n + 1 := r1.length.symm.trans (congrArg Nat.succ l1)
  have e2 : ws.length = ks.length := rz.length.symm.trans l2
  have hus : us.length ≤ sizeLine := by
    rw [← Paired.length r, sizeLine_eq]
    omega
  refine wpAny_call (PySem.OEV.call_kw FB hT (I.kIn _ _ hC) (PySem.W.looks_findIn I.kIn iC) (fun self => PySem.W.bind_fn I.kIn self tI) hus
    (codeAny_mono (F1.run _ X.stack _ _ ⟨Value.ref (hp.objs.size + 1) :: us, ks.zip ws⟩ ((Value.ref (hp.objs.size + 1) :: us) ++ ws) _ _ (fun _ _ _ => False) (hr.make C us (ks.zip ws)) (I2.env0.make C us (ks.zip ws)) (hb.to _ (Value.ref (hp.objs.size + 1) :: us) ws I2.kIn e1 e2) (hb.rel r1 rz) hq) fun r s' hq' => ?_))
  cases r with
  | error er => exact passL pins σ _ _ er s' I2 hq'
  | ok fl =>
    cases fl with
    | ret u =>
      obtain ⟨v, H', I3, rv, ev, q3⟩ := I2.after hq'
      subst ev
      exact ⟨rv, ⟨V.ref (hp.objs.size + 1), H', I3, rfl, q3⟩⟩
    | next => exact False.elim hq'
    | brk => exact False.elim hq'
    | cont => exact False.elim hq'
/-- the readings -/
def tErrV (C : Addr) (n m : Nat) (sp : Sp) (ta tk : TA) : TE := fun σ H Q => ta σ H fun vs H1 => tk σ H1 fun zs H2 => vs.length = n ∧ zs.length = m ∧ vs.length ≤ 1000 ∧ ∀ a, H2 a = none → sp (.ref a :: (vs ++ zs)) (upd H2 a (exo a C none)) (fun v H3 => v = .non ∧ Q (.ref a) H3) (fun _ _ _ => False)
theorem pe_errV1 {sp : Sp} {p pos : Pos} {e : Expr} {ta : TA} (EV : ErrV X.prog X.w X.K X.mg X.base ci k c x 1 [] sp) (hr : Room (k + 1) X.A) (hg : Gl X x) (ha : PA X [e] ta)
    (hdb : (x == ("__debug__" : Str)) = false) (he : starEach [e] X.env = (false, eval e X.env) :: starEach [] X.env) :
    PE X (.Call (.Name x p) [e] [] pos) (tErrV (ci c).1 1 0 sp ta tNil) := by
  obtain ⟨fI, fd, ps, h1, h2, h3, h4⟩ := EV.ex
  constructor
  intro pins s σ H Q I h
  refine wpAny_Call_Name_kw (ld_glob I hg EV.m ?_ hdb)
  refine PySem.W.callWith_K (h₀ := X.base) I.ok.mod.kin EV.ox.kC (thn (ha.run pos pins s σ H _ I h) fun us s1 ⟨vs, H1, I1, r1, q1⟩ => ⟨I1.kIn, ?_⟩) he rfl
  obtain ⟨l1, l2, hz, q2⟩ := q1
  exact run_errV (zs := []) (ws := []) EV.ox h1 h2 h3 hr h4 I1 r1 .nil l1 rfl hz q2
theorem pe_errV0 {sp : Sp} {p pos : Pos} {kws : List Keyword} {tk : TA} (EV : ErrV X.prog X.w X.K X.mg X.base ci k c x 0 ks sp) (hr : Room (k + 1) X.A) (hg : Gl X x) (hkw : PK X kws tk)
    (hall : (backToKw pos (keywordEach kws X.env)).all (fun z => z.1.isSome) = true) (hks : (backToKw pos (keywordEach kws X.env)).filterMap (fun z => z.1) = ks) (hdb : (x == ("__debug__" : Str)) = false)
    (hpl : ((backTo pos (starEach [] X.env)).any (fun z => z.1) || (backToKw pos (keywordEach kws X.env)).any (fun z => z.1.isNone)) = false) :
    PE X (.Call (.Name x p) [] kws pos) (tErrV (ci c).1 0 ks.length sp tNil tk) := by
  obtain ⟨fI, fd, ps, h1, h2, h3, h4⟩ := EV.ex
  constructor
  intro pins s σ H Q I h
  refine wpAny_Call_Name_kw (ld_glob I hg EV.m ?_ hdb)
  refine PySem.W.callWith_KW0 (h₀ := X.base) I.ok.mod.kin EV.ox.kC hall ?_ hpl
  refine thn (hkw.run pos pins s σ H _ I h) fun ws s2 ⟨zs, H2, I2, rz, l1, l2, hz, q2⟩ => ⟨I2.kIn, ?_⟩
  rw [hks]
  exact run_errV (vs := []) (us := []) EV.ox h1 h2 h3 hr h4 I2 .nil rz rfl l2 hz q2
theorem pe_errVn {sp : Sp} {p pos : Pos} (EV : ErrV X.prog X.w X.K X.mg X.base ci k c x 0 [] sp) (hr : Room (k + 1) X.A) (hg : Gl X x) (hdb : (x == ("__debug__" : Str)) = false) :
    PE X (.Call (.Name x p) [] [] pos) (tErrV (ci c).1 0 0 sp tNil tNil) := by
  obtain ⟨fI, fd, ps, h1, h2, h3, h4⟩ := EV.ex
  constructor
  intro pins s σ H Q I h
  obtain ⟨_, _, hz, q2⟩ := h
  refine wpAny_Call_Name_kw (ld_glob I hg EV.m ?_ hdb)
  refine PySem.W.callWith_K0 I.kIn EV.ox.kC ?_
  exact run_errV (vs := []) (us := []) (zs := []) (ws := []) EV.ox h1 h2 h3 hr h4 I .nil .nil rfl rfl hz q2
end
/-- what an __init__ that stores its code alone leaves -/
def spN (C : Addr) (code : Str) : Sp := fun vs H Q E => ∃ a, vs = [.ref a] ∧ H a = some (exo a C none) ∧ ∀ dx, H dx = none → dx ≠ a → Q .non (upd (upd H dx (exd dx [("code", .str code)])) a (exo a C (some dx)))
def fErrV (c : Nat) (code fld : Str) (f : QF) : QF := fun Γ S => (f Γ S).bind fun a => match a with
  | .d d => some (.d (.exc c [fld, "code"] [d, .str code]))
  | _ => none
def fErrN (c : Nat) (code : Str) : QF := fun _ _ => some (.d (.exc c ["code"] [.str code]))
def fErrX (c : Nat) (f : QF) : QF := fun Γ S => (f Γ S).bind fun _ => some (.d (.exc c [] []))
section
variable {X : Cx} {ci : Ci} {k c : Nat} {x code fld par : Str} {p pos : Pos}
/-- an error value was made at a, dx -/
theorem made_exc {F : Fr X.K ci} {T : List (A × V)} {Γ : Ga} {S : So} {σ : L2.St} {H : Hp} {a dx : Addr} {ns : List Str} {vs : List V} {l : List D} (r : Rel F T Γ S σ H) (ha : H a = none) (hd : H dx = none) (hne : dx ≠ a) (hl : vs.length = ns.length) (R : ∀ ρ, RelR F ρ T Γ S σ H → Reps X.K ci (mu F ρ S) H l vs) :
    Rel F ((.d (.exc c ns l), .ref a) :: T) Γ S σ (upd (upd H dx (exd dx (ns.zip vs))) a (exo a (ci c).1 (some dx))) := by
  obtain ⟨ρ, r⟩ := r
  have R0 := R ρ r
  have ha2 : (upd H dx (exd dx (ns.zip vs))) a = none := by rw [upd_ne (Ne.symm hne)]; exact ha
  have r2 := (r.alloc (o := exd dx (ns.zip vs)) hd).alloc (o := exo a (ci c).1 (some dx)) ha2
  have hmu : ∀ b, H b = none → b ∉ mu F ρ S := fun b hb hm => by
    rcases List.mem_append.mp hm with hm | hm
    · exact r.freshM hb hm
    · obtain ⟨n1, n2⟩ := r.fo _ hm
      cases eo : F.H b with
      | none => exact n2 eo
      | some o => have := r.ext _ _ eo n1; rw [hb] at this; cases this
  refine ⟨ρ, r2.push (a := .d (.exc c ns l)) ?_⟩
  show Rep X.K ci (mu F ρ S) _ (.exc c ns l) _
  rw [Rep]
  refine ⟨a, vs, rfl, hmu a ha, .inr ⟨dx, upd_same, by rw [upd_ne hne, upd_same], hmu dx hd⟩, hl, ?_⟩
  exact Reps.mono (fun b o eo n => ⟨by rw [upd_ne (ne_of_none eo ha), upd_ne (ne_of_none eo hd)]; exact eo, n⟩) _ _ R0
theorem errV_end {F : Fr X.K ci} {T : List (A × V)} {Γ : Ga} {S : So} {σ : L2.St} {H : Hp} {d : D} {y : V} (r : Rel F ((.d d, y) :: T) Γ S σ H) (a : Addr) (ha : H a = none) :
    spE (ci c).1 code fld (.ref a :: [y]) (upd H a (exo a (ci c).1 none)) (fun v H3 => v = .non ∧ Rel F ((.d (.exc c [fld, "code"] [d, .str code]), .ref a) :: T) Γ S σ H3) (fun _ _ _ => False) := by
  refine ⟨a, y, rfl, upd_same, fun dx hdx hne => ⟨rfl, ?_⟩⟩
  have hd : H dx = none := by rw [upd_ne hne] at hdx; exact hdx
  have eH : upd (upd (upd (upd H a (exo a (ci c).1 none)) dx (exd dx [("code", .str code)])) a (exo a (ci c).1 (some dx))) dx (exd dx [(fld, y), ("code", .str code)]) = upd (upd H dx (exd dx ([fld, "code"].zip [y, .str code]))) a (exo a (ci c).1 (some dx)) := by
    funext b
    by_cases hb : b = dx
    · rw [hb, upd_same, upd_ne hne, upd_same]; rfl
    · rw [upd_ne hb]
      by_cases hb2 : b = a
      · rw [hb2, upd_same, upd_same]
      · rw [upd_ne hb2, upd_ne hb, upd_ne hb2, upd_ne hb2, upd_ne hb]
  rw [eH]
  exact (made_exc r ha hd hne rfl fun ρ r1 => .cons (r1.tl (.d d, y) (by simp)) (.cons (by rw [Rep]) .nil)).drop drop2
theorem rp_errV1 {e : Expr} {f : QF} (EV : ErrV X.prog X.w X.K X.mg X.base ci k c x 1 [] (spE (ci c).1 code fld)) (hr : Room (k + 1) X.A) (hg : Gl X x) (he : RP ci X e f) (hdb : (x == ("__debug__" : Str)) = false := by decide +kernel)
    (hst : starEach [e] X.env = (false, eval e X.env) :: starEach [] X.env := by kernel_rfl) : RP ci X (.Call (.Name x p) [e] [] pos) (fErrV c code fld f) := fun F T Γ S σ H b r q => by
  unfold fErrV at q
  cases e1 : f Γ S with
  | none => rw [e1] at q; cases q
  | some a =>
    rw [e1, Option.bind_some] at q
    split at q
    · rename_i d
      cases q
      refine wpX_of (pe_errV1 EV hr hg (pa_cons pe_wp pa_nil hst) hdb hst) (wpX_mono (he F T Γ S σ H _ r e1) fun y H1 r1 => ?_)
      exact ⟨rfl, rfl, by simp, fun b hb => errV_end r1 b hb⟩
    · cases q
theorem rp_errV0 {e : Expr} {f : QF} {kpos : Pos} (EV : ErrV X.prog X.w X.K X.mg X.base ci k c x 0 [par] (spE (ci c).1 code fld)) (hr : Room (k + 1) X.A) (hg : Gl X x) (he : RP ci X e f)
    (hall : (backToKw pos (keywordEach [⟨some par, e, kpos⟩] X.env)).all (fun z => z.1.isSome) = true := by kernel_rfl) (hks : (backToKw pos (keywordEach [⟨some par, e, kpos⟩] X.env)).filterMap (fun z => z.1) = [par] := by rfl) (hdb : (x == ("__debug__" : Str)) = false := by decide +kernel)
    (hpl : ((backTo pos (starEach [] X.env)).any (fun z => z.1) || (backToKw pos (keywordEach [⟨some par, e, kpos⟩] X.env)).any (fun z => z.1.isNone)) = false := by kernel_rfl) :
    RP ci X (.Call (.Name x p) [] [⟨some par, e, kpos⟩] pos) (fErrV c code fld f) := fun F T Γ S σ H b r q => by
  unfold fErrV at q
  cases e1 : f Γ S with
  | none => rw [e1] at q; cases q
  | some a =>
    rw [e1, Option.bind_some] at q
    split at q
    · rename_i d
      cases q
      refine wpX_of (pe_errV0 EV hr hg (pk_cons pe_wp pk_nil) hall hks hdb hpl) (wpX_mono (he F T Γ S σ H _ r e1) fun y H1 r1 => ?_)
      exact ⟨rfl, rfl, by simp, fun b hb => errV_end r1 b hb⟩
    · cases q
theorem rp_errN (EV : ErrV X.prog X.w X.K X.mg X.base ci k c x 0 [] (spN (ci c).1 code)) (hr : Room (k + 1) X.A) (hg : Gl X x) (hdb : (x == ("__debug__" : Str)) = false := by decide +kernel) : RP ci X (.Call (.Name x p) [] [] pos) (fErrN c code) := fun F T Γ S σ H b r q => by
  cases q
  refine wpX_of (pe_errVn EV hr hg hdb) ⟨rfl, rfl, by simp, fun a ha => ⟨a, rfl, upd_same, fun dx hdx hne => ⟨rfl, ?_⟩⟩⟩
  have hd : H dx = none := by rw [upd_ne hne] at hdx; exact hdx
  have eH : upd (upd (upd H a (exo a (ci c).1 none)) dx (exd dx [("code", .str code)])) a (exo a (ci c).1 (some dx)) = upd (upd H dx (exd dx (([("code" : Str)] : List Str).zip ([.str code] : List V)))) a (exo a (ci c).1 (some dx)) := by
    funext b
    by_cases hb2 : b = a
    · rw [hb2, upd_same, upd_same]
    · rw [upd_ne hb2, upd_ne hb2]
      by_cases hb : b = dx
      · rw [hb, upd_same, upd_same]; rfl
      · rw [upd_ne hb, upd_ne hb, upd_ne hb2]
  rw [eH]
  exact made_exc (ns := [("code" : Str)]) (vs := [.str code]) r ha hd hne rfl fun ρ r1 => .cons (by rw [Rep]) .nil
/-- X(e), a class without own __init__ -/
structure ErrX (K : PySem.W.Frag) (mg : Str → Option Value) (ci : Ci) (c : Nat) (x : Str) : Prop where
  m : mg x = some (.ref (ci c).1)
  kC : PySem.W.keepIn K (.ref (ci c).1) = true
  ex : ∃ (bmB : List Value) (B newId initId : String), ExcBaseFacts B newId initId bmB ∧ PySem.W.excIn K (ci c).1 bmB newId = true
theorem rp_errX {e : Expr} {f : QF} (EX : ErrX X.K X.mg ci c x) (hg : Gl X x) (he : RP ci X e f) (hdb : (x == ("__debug__" : Str)) = false := by decide +kernel)
    (hst : starEach [e] X.env = (false, eval e X.env) :: starEach [] X.env := by kernel_rfl) : RP ci X (.Call (.Name x p) [e] [] pos) (fErrX c f) := fun F T Γ S σ H b r q => by
  unfold fErrX at q
  cases e1 : f Γ S with
  | none => rw [e1] at q; cases q
  | some a0 =>
    rw [e1, Option.bind_some] at q
    cases q
    obtain ⟨bmB, B, newId, initId, FB, hx⟩ := EX.ex
    refine wpX_of (pe_exc1 FB hx EX.m EX.kC hg pe_wp hst hdb) (wpX_mono (he F T Γ S σ H _ r e1) fun v H1 r1 a ha => ?_)
    obtain ⟨ρ, r1⟩ := r1
    have hmu : ∀ b, H1 b = none → b ∉ mu F ρ S := fun b hb hm => by
      rcases List.mem_append.mp hm with hm | hm
      · exact r1.freshM hb hm
      · obtain ⟨n1, n2⟩ := r1.fo _ hm
        cases eo : F.H b with
        | none => exact n2 eo
        | some o => have := r1.ext _ _ eo n1; rw [hb] at this; cases this
    refine ⟨ρ, ((r1.drop fun z hz => List.mem_cons_of_mem _ hz).alloc (o := ExO (.ref (ci c).1) a) ha).push (a := .d (.exc c [] [])) ?_⟩
    show Rep X.K ci (mu F ρ S) _ (.exc c [] []) _
    rw [Rep]
    exact ⟨a, [], rfl, hmu a ha, .inl ⟨rfl, upd_same⟩, rfl, .nil⟩
end
end LP
set_option maxHeartbeats 4000000
namespace LP
open PySem PySem.Spec PyProof.Rows L2 He
abbrev ieTail : List Value := [.type "IndexError", .type "LookupError", .type "Exception", .type "BaseException", .type "object"]
/-- own classes, then those of LookupError -/
def refsIE : List Value → Bool
  | [] => false
  | v :: r => match v with
    | .ref _ => refsIE r
    | _ => decide (v :: r = ieTail)
theorem ie_split : ∀ l : List Value, refsIE l = true → ∃ cs : List Addr, l = cs.map Value.ref ++ ieTail
  | [], h => by cases h
  | v :: r, h => by
    cases v with
    | ref c =>
      obtain ⟨cs, e⟩ := ie_split r h
      exact ⟨c :: cs, by rw [e]; rfl⟩
    | _ => exact ⟨[], of_decide_eq_true h⟩
theorem ie_pass (self : Value) (l : List Value) (h : refsIE l = true) : PySem.refuseLoop self "__setattr__" l = pure () := by
  obtain ⟨cs, rfl⟩ := ie_split l h
  clear h
  induction cs with
  | nil => exact F.store_IndexError.passes self
  | cons c cs ih =>
    show PySem.refuseLoop self "__setattr__" (.ref c :: (cs.map Value.ref ++ ieTail)) = _
    rw [refuseLoop_ref]; exact ih
theorem ie_has (Y : String) (l : List Value) (h : refsIE l = true) : l.contains (.type Y) = ieTail.contains (.type Y) := by
  obtain ⟨cs, rfl⟩ := ie_split l h
  clear h
  induction cs with
  | nil => rfl
  | cons c cs ih =>
    show (Value.ref c :: (cs.map Value.ref ++ ieTail)).contains (.type Y) = _
    rw [List.contains_cons, ih]; rfl
/-- what the written part says of such a class -/
structure OexI (K : PySem.W.Frag) (C : Addr) : Prop where
  cls : ∃ nm q N bs bm sn sub ab col dd k0 k1 k2 k3 k5, K.lookup C = some (excClassObj nm q C N bs bm true sn sub ab col dd k0 k1 k2 k3 k5 "IndexError.__new__") ∧ refsIE bm = true
  sa : PySem.W.findIn K (.ref C) "__setattr__" = some (some (.builtin "object.__setattr__"))
  exC : PySem.W.subIn K (.ref C) (.type "BaseException") = some true
  tyC : PySem.W.typeIn K (.ref C) = some (.type "type")
  kC : PySem.W.keepIn K (.ref C) = true
theorem OexI.data {K : PySem.W.Frag} {C : Addr} (T : OexI K C) : ∃ cd, PySem.W.clsIn K C = some cd ∧ cd.mro.isEmpty = false ∧ cd.mro.contains (.type "object") = true ∧ (∀ self, PySem.refuseLoop self "__setattr__" cd.mro = pure ()) ∧ cd.hasDict = true := by
  obtain ⟨nm, q, N, bs, bm, sn, sub, ab, col, dd, k0, k1, k2, k3, k5, hC, hbm⟩ := T.cls
  have h2 : refsIE (.ref C :: bm) = true := hbm
  refine ⟨{ name := nm, bases := bs, mro := .ref C :: bm, ns := N, qualname := q, hasDict := true, slotNames := sn, subclasses := sub, abstract := ab, collection := col, hasDel := false }, ?_, rfl, (ie_has "object" _ h2).trans (by decide +kernel), fun self => ie_pass self _ h2, rfl⟩
  unfold PySem.W.clsIn
  rw [hC] <;> rfl
section
variable {X : Cx} {pins : List (Addr × Obj)} {σ : L2.St} {H : Hp} {s : Shared} {a C dx : Addr} {f : Str} {y : V} {u : Value} {fs : List (Str × V)} {Q : Unit → Shared → Prop} {E : Value → Shared → Prop} {A : Around}
/-- self.f = y, the first field -/
theorem ost_newI (T : OexI X.K C) (I : Inv X pins σ H s) (e : H a = some (exo a C none)) (hno : PySem.W.findIn X.K (.ref C) f = some none) (ry : RelV y u)
    (h : ∀ dx s', H dx = none → dx ≠ a → Inv X pins σ (upd (upd H dx (exd dx [(f, y)])) a (exo a C (some dx))) s' → Q () s') : wpAny (model X.prog X.w) A (setAttr (.ref a) f u) Q E s := by
  obtain ⟨cd, hcl, c1, c2, c3, c4⟩ := T.data
  obtain ⟨t1, ho⟩ := exo_at I.hok e
  obtain ⟨hp, g, d, t, os⟩ := s
  refine PySem.W.set_plain I.kIn (ox := { cls := .ref C, dict := none, data := .fields #[.ref t1, .none, .none, .none, .bool false, .none] }) (od := none) ⟨ho, rfl, rfl, trivial⟩ T.sa ?_
  refine PySem.OEX.set_new_by I.kIn ho hcl c1 c2 c3 c4 hno (fun h' tk' dx k dn dne hx hn => ?_)
  have hnd : H dx = none := I.hok.fresh dn
  have nd : ∀ {b : Addr} {o : Obj}, hp.get? b = some o → b ≠ dx := fun {b o} q => Nat.ne_of_lt (Nat.lt_of_lt_of_le (Heap.lt_size q) dn)
  have na : ∀ {b : Addr}, H b = none → b ≠ a := fun {b} n z => by
    rw [z, e] at n
    cases n
  have Un1 : Un X.fs [] H (upd (upd H dx (exd dx [(f, y)])) a (exo a C (some dx))) hp h' := {
    keep := fun b o q n _ _ => k b o (na n) q
    slot := fun b o q n _ _ => ⟨o.slots, k b o (na n) q⟩
    free := fun b o q n _ => by rw [upd_ne (na n), upd_ne (nd q)]; exact n
    there := fun b o q _ => by
      by_cases hb : b = a
      · exact ⟨_, by rw [hb]; exact hx⟩
      · exact ⟨o, k b o hb q⟩
    tups := fun b xs q => by rw [upd_ne (at_ne e q exo_tup), upd_ne (ne_of_none q hnd)]; exact q
    frzs := fun b o v q => by rw [upd_ne (at_ne e q exo_frz), upd_ne (ne_of_none q hnd)]; exact q
    tbls := fun b ps q => ⟨#[], by rw [upd_ne (at_ne e q exo_tbl), upd_ne (ne_of_none q hnd), q]; simp⟩ }
  refine h dx _ hnd dne (I.un (t' := tk') Un1 fun b o q => ?_)
  by_cases hb : b = a
  · subst hb
    rw [upd_same] at q
    cases q
    exact exo_ok hx
  · rw [upd_ne hb] at q
    by_cases hd : b = dx
    · subst hd
      rw [upd_same] at q
      cases q
      exact exd_ok hn (relO_put (fs := []) ry fun g => True.intro)
    · rw [upd_ne hd] at q
      exact (I.hok b o q).stay (fun c v hc z => k c v (by
          rcases hc with hc | hc
          · rw [hc]
            exact hb
          · exact at_ne e hc exo_own) z)
        (fun c hc => by rw [upd_ne (at_ne e hc exo_own), upd_ne (ne_of_none hc hnd)]; exact hc) (fun c xs hc => by rw [upd_ne (at_ne e hc exo_tup), upd_ne (ne_of_none hc hnd)]; exact hc)
/-- self.f = y, a further one -/
theorem ost_oldI (T : OexI X.K C) (I : Inv X pins σ H s) (e : H a = some (exo a C (some dx))) (ed : H dx = some (exd dx fs)) (hl : fs.length ≤ 900) (hno : PySem.W.findIn X.K (.ref C) f = some none) (ry : RelV y u)
    (h : ∀ s', Inv X pins σ (upd H dx (exd dx ((f, y) :: fs))) s' → Q () s') : wpAny (model X.prog X.w) A (setAttr (.ref a) f u) Q E s := by
  obtain ⟨cd, hcl, c1, c2, c3, c4⟩ := T.data
  obtain ⟨t1, ho⟩ := exo_at I.hok e
  obtain ⟨mA, hns, rel⟩ := exd_at I.hok ed
  have hw := within_of rel
  obtain ⟨hp, g, d, t, os⟩ := s
  obtain ⟨oD, _, _, hoD, _, _⟩ := hns.count hw
  refine PySem.W.set_plain I.kIn (ox := { cls := .ref C, dict := some dx, data := .fields #[.ref t1, .none, .none, .none, .bool false, .none] }) (od := some oD) ⟨ho, rfl, rfl, hoD⟩ T.sa ?_
  refine PySem.OEX.set_old_by I.kIn ho hns hw (by rw [List.length_map]; omega) hcl c1 c2 c3 c4 hno (fun h' tk' k hn => ?_)
  have hd : ∃ o, h'.get? dx = some o := by
    obtain ⟨o, _, _, e', _⟩ := hn
    exact ⟨o, e'⟩
  exact h _ (I.write (t' := tk') (x := dx) (e := dx) (o := exd dx ((f, y) :: fs)) (by rw [ed]; exact True.intro) (.inl rfl) k hd (exd_ok hn (relO_put ry rel)))
end
/-- self.f = e -/
def tOstI (K : PySem.W.Frag) (f : Str) (to te : TE) : TS := fun D σ H => te σ H fun y H1 => to σ H1 fun x H2 => ∃ a C : Addr, x = .ref a ∧ OexI K C ∧ PySem.W.findIn K (.ref C) f = some none ∧
  ((H2 a = some (exo a C none) ∧ ∀ dx, H2 dx = none → dx ≠ a → D.nx σ (upd (upd H2 dx (exd dx [(f, y)])) a (exo a C (some dx)))) ∨
    ∃ (dx : Addr) (fs : List (Str × V)), H2 a = some (exo a C (some dx)) ∧ H2 dx = some (exd dx fs) ∧ fs.length ≤ 900 ∧ D.nx σ (upd H2 dx (exd dx ((f, y) :: fs))))
section
variable {X : Cx} {o e : Expr} {es : List Expr} {to te : TE} {ta : TA} {f : Str} {p p' pos : Pos}
theorem ps_ostI (ho : PE X o to) (he : PE X e te) (hs : swapsWith e (some (.Attribute o f p')) pos.line X.env = pure false := by rfl) : PS X (.Assign [.Attribute o f p'] e pos) (tOstI X.K f to te) := by
  refine ⟨fun pins s σ H D I h => ?_⟩
  refine plainObj_wpAny_Assign_Attribute (thn (he.run pins s σ H _ I h) fun v s1 ⟨y, H1, I1, r1, q1⟩ => thn (ho.run pins s1 σ H1 _ I1 q1) fun u s2 ⟨x, H2, I2, r2, a, C, ex, T, hno, q⟩ => ?_) hs
  subst ex
  obtain rfl : u = Value.ref a := r2
  rcases q with ⟨ea, q⟩ | ⟨dx, fs, ea, ed, hl, q⟩
  · exact ost_newI T I2 ea hno r1 fun dx s' n ne J => ⟨σ, _, J, q dx n ne⟩
  · exact ost_oldI T I2 ea ed hl hno r1 fun s' J => ⟨σ, _, J, q⟩
end
structure SupI (K : PySem.W.Frag) (C D : Addr) : Prop where
  sub : PySem.W.mroIn K C (.ref D) = some true
  at_ : PySem.W.ks_superIn K C D "__init__" = some (some (.builtin "IndexError.__init__"))
  ve : PySem.W.subIn K (.ref C) (.type "IndexError") = some true
section
variable {X : Cx} {f cda cc D x C dx f2 : Addr} {ar m : Str} {body : List Stmt} {pins : List (Addr × Obj)} {σ : L2.St} {H : Hp} {s : Shared} {fs : List (Str × V)} {Q : VK}
/-- the bound LookupError.__init__ called -/
theorem oinit_boundI {u a : Addr} {us : List Value} {R : Value → Shared → Prop} (T : OexI X.K C) (I : Inv X pins σ H s) (hu : s.heap.get? u = some (PySem.W.kxs_mw "IndexError.__init__" a)) (e : H a = some (exo a C none)) (hl : us.length ≤ sizeLine) (h : ∀ s', Inv X pins σ H s' → R .none s') :
    wpAny (model X.prog X.w) X.A (call (.ref u) us) R X.xe s := by
  obtain ⟨nm, q, N, bs, bm, sn, sub, ab, col, dd, k0, k1, k2, k3, k5, hC, hbm⟩ := T.cls
  obtain ⟨t1, ho⟩ := exo_at I.hok e
  have XK := I.kIn
  obtain ⟨hh, g, d, tk, os⟩ := s
  refine wpAny_call (codeAny_of_tree ?_)
  show wpAny _ X.A.in1 (callAny (.ref u) ⟨us, []⟩) _ _ _
  simp only [callAny]
  refine wpAny_bind (wpAny_load hu ?_)
  simp only [PySem.W.kxs_mw, show (Value.type "method-wrapper" == Value.type "method" || Value.type "method-wrapper" == Value.type "builtin_function_or_method" || Value.type "method-wrapper" == Value.type "method-wrapper") = true by decide, if_true]
  refine PySem.W.KFB.if_so (by decide) ?_
  refine wpAny_bind (PySem.W.check_bound_init F.excBase_IndexError.toExcCallFacts (XK _ _ hC) ho rfl ?_)
  refine wpAny_bind (wpAny_pure (wpAny_pure ?_))
  refine ⟨plainId_quiet F.excBase_IndexError.init.plain _, codeAny_builtin F.excBase_IndexError.initEntry ?_⟩
  refine PySem.W.exc_init_tree (cls := .ref C) (t0 := t1) (dv := none) (c2 := .none) (c3 := .none) (b4 := .bool false) ho hl fun h' k hx _ => ?_
  have J := I.write (t' := tk) (x := a) (e := a) (o := exo a C none) (by rw [e]; exact True.intro) (.inl rfl) k ⟨_, hx⟩ (exo_ok hx)
  have eu : upd H a (exo a C none) = H := by
    funext b
    by_cases hb : b = a
    · rw [hb, upd_same, e]
    · rw [upd_ne hb]
  rw [eu] at J
  exact h _ J
/-- super().__init__('..') in an own error's __init__ -/
theorem xsup_exprI {a : Addr} {t : Str} {j : Nat} {p0 p1 apos pc pos : Pos} {pl : Sem Bool} (SK : SupK X.prog X.K X.mg f cda cc D ar) (SE : SupI X.K C D) (T : OexI X.K C) (I : Inv X pins σ H s)
    (hks : X.env.kindOf "super" = some .globalImplicit) (hkc : X.env.kindOf "__class__" = some .free) (hfu : X.env.func = some f) (hco : X.env.code = .ref cda) (hcl : X.env.cells.lookup ("__class__" : Str) = some cc)
    (hN : X.N[0]? = some ar) (hka : X.env.scope.names.lookup ar = some .local) (h0 : σ[0]? = some (some (.ref a))) (hx : H a = some (exo a C none)) (h : Q .non H)
    (ht : eval (.Call (.Attribute (.Call (.Name "super" p0) [] [] p1) "__init__" apos) [.Constant (.str t) j pc] [] pos) X.env = (do
      let ov ← attributeBase (.Call (.Name "super" p0) [] [] p1) "__init__" X.env (eval (.Call (.Name "super" p0) [] [] p1) X.env)
      standAt apos.atName
      let (f, first) ← holding [ov] (getMethod ov "__init__" pl)
      callWith pos f first (backTo pos (starEach [.Constant (.str t) j pc] X.env)) []) := by rfl)
    (hst : starEach [.Constant (.str t) j pc] X.env = (false, eval (.Constant (.str t) j pc) X.env) :: starEach [] X.env := by rfl) :
    _root_.PySem.wpAt (model X.prog X.w) X.A (.func body X.env) (eval (.Call (.Attribute (.Call (.Name "super" p0) [] [] p1) "__init__" apos) [.Constant (.str t) j pc] [] pos) X.env) (EP X pins σ Q) X.xe s := by
  refine PySem.ks_wpAt_MethodCall (pl := pl) ?_ ht
  obtain ⟨t1, ho⟩ := exo_at I.hok hx
  have IA : PySem.W.InstAt s.heap a { cls := .ref C, dict := none, data := .fields #[.ref t1, .none, .none, .none, .bool false, .none] } C none := ⟨ho, rfl, rfl, trivial⟩
  refine sup_nodeI SK (by decide) SE.sub I hks hkc hfu hco hcl hN hka h0 IA fun so h' hso kp hsz => ?_
  have I1 : Inv X pins σ H { s with heap := h' } := I.kept kp
  have IA1 : PySem.W.InstAt h' a { cls := .ref C, dict := none, data := .fields #[.ref t1, .none, .none, .none, .bool false, .none] } C none := ⟨kp _ _ ho, rfl, rfl, trivial⟩
  have IC : ∃ cdC, PySem.W.clsIn X.K C = some cdC ∧ PySem.W.alongIn X.K "__init__" ((cdC.mro.dropWhile (· != .ref D)).drop 1) = some (some (.builtin "IndexError.__init__")) := by
    have := SE.at_
    unfold PySem.W.ks_superIn at this
    cases hc : PySem.W.clsIn X.K C with
    | none => rw [hc] at this; cases this
    | some cdC => rw [hc] at this; exact ⟨cdC, rfl, this⟩
  obtain ⟨cdC, hcC, hal⟩ := IC
  have hI : PySem.W.Looks (model X.prog X.w) h' (isInstance (.ref a) (.type "IndexError")) true := IA1.type.andThen (PySem.W.looks_subIn I1.kIn SE.ve)
  obtain ⟨hh, g, d, tk, os⟩ := s
  refine PySem.W.kxs_getMethod PySem.W.kxs_IndexError hso (PySem.W.looks_opaque I1.kIn SK.op) (l₀ := cdC.mro) (fun A Q E s k q => wpAny_bind ((PySem.W.looks_clsIn I1.kIn hcC) A _ E s k (wpAny_pure q))) rfl I1.kIn hal hI (PySem.W.ks_ne I1.kIn IA1 hcC) (by decide) ?_
  have I2 : Inv X pins σ H ⟨h'.push (PySem.W.kxs_mw "IndexError.__init__" a), g, d, tk + 1, os⟩ := I1.kept fun b o e => Heap.get?_push_of_some _ e
  have hq0 : h'.objs.size ≠ X.env.locals := fun z => by
    have := I1.lt
    rw [← z] at this
    exact Nat.lt_irrefl _ this
  have I3 := inv_more (q := h'.objs.size) (o := PySem.W.kxs_mw "IndexError.__init__" a) I2 (Heap.get?_push_size _ rfl) (I1.hok.fresh (Nat.le_refl _)) hq0 (I1.nofs (Nat.le_refl _)) (fun v e => by cases e)
  rw [hst]
  refine PySem.W.kxs_callWith (i := "IndexError.__init__") (x := a) rfl (PySem.Calls.evalArgs_plain ?_)
  have hc := (pa_cons (X := X) (pe_str (x := t) (j := j) (pos := pc)) pa_nil hst).run pos ((h'.objs.size, PySem.W.kxs_mw "IndexError.__init__" a) :: pins) _ σ H (fun vs H1 => vs.length = 1 ∧ H1 = H) I3 ⟨rfl, rfl⟩
  rw [hst] at hc
  refine wpAny_mono hc (fun us s3 ⟨vs, H3, I4, r, hv, eH⟩ => ?_) fun _ _ z => z
  subst eH
  have hb3 := (I4.pin _ (List.mem_append_right _ List.mem_cons_self)).1
  refine ⟨hb3, ?_⟩
  have hus : us.length ≤ sizeLine := by
    rw [← r.length, hv]; decide
  exact oinit_boundI T I4 hb3 hx hus fun s' J => ⟨.non, _, inv_fewer J, rfl, h⟩
end
def oexIB (K : PySem.W.Frag) (C : Addr) : Bool := (match K.lookup C with | some ⟨.type "type", _, .cls cd, sl⟩ => (match cd.mro, sl.toList with | .ref C' :: bm, [_, _, _, _, some (.builtin n), _] => C' == C && (n == "IndexError.__new__" && (!cd.hasDel && (cd.hasDict && refsIE bm))) | _, _ => false) | _ => false) && (decide (PySem.W.findIn K (.ref C) "__setattr__" = some (some (.builtin "object.__setattr__"))) &&
  (decide (PySem.W.subIn K (.ref C) (.type "BaseException") = some true) && (decide (PySem.W.typeIn K (.ref C) = some (.type "type")) && PySem.W.keepIn K (.ref C))))
theorem oexIB_ok {K : PySem.W.Frag} {C : Addr} (h : oexIB K C = true) : OexI K C := by
  obtain ⟨h0, h⟩ := ba h
  obtain ⟨h1, h⟩ := ba h
  obtain ⟨h2, h⟩ := ba h
  obtain ⟨h3, h4⟩ := ba h
  refine ⟨?_, of_decide_eq_true h1, of_decide_eq_true h2, of_decide_eq_true h3, h4⟩
  split at h0
  · rename_i dd cd sl ho
    split at h0
    · rename_i C' bm k0 k1 k2 k3 n k5 hm hs
      obtain ⟨g1, h0⟩ := ba h0
      obtain ⟨g2, h0⟩ := ba h0
      obtain ⟨g3, h0⟩ := ba h0
      obtain ⟨g4, g5⟩ := ba h0
      obtain rfl := beq_iff_eq.mp g1
      obtain rfl := beq_iff_eq.mp g2
      obtain ⟨nm, bs, mro, ns, qn, hd, sn, sub, ab, col, dl⟩ := cd
      dsimp only at hm g3 g4
      have g3 : dl = false := by simpa using g3
      subst hm g3 g4
      obtain ⟨l⟩ := sl
      have hs : l = _ := hs
      subst hs
      exact ⟨nm, qn, ns, bs, bm, sn, sub, ab, col, dd, k0, k1, k2, k3, k5, ho, g5⟩
    · cases h0
  · cases h0
theorem OexG.i {K : PySem.W.Frag} {C : Addr} (T : OexI K C) : OexG K C := by
  obtain ⟨nm, q, N, bs, bm, sn, sub, ab, col, dd, k0, k1, k2, k3, k5, hC, hbm⟩ := T.cls
  exact ⟨⟨_, _, _, _, nm, q, N, bs, bm, sn, sub, ab, col, dd, k0, k1, k2, k3, k5, F.excBase_IndexError, fun Y => ie_has Y bm hbm, hC⟩, T.kC⟩
/-- the body of an __init__ that stores its code alone -/
def errBodyN (txt code : Str) (j1 j2 : Nat) (p0 p1 p2 p3 p4 p5 p6 p7 p8 p9 : Pos) : List Stmt :=
  [.Expr (.Call (.Attribute (.Call (.Name "super" p0) [] [] p1) "__init__" p2) [.Constant (.str txt) j1 p3] [] p4) p5,
   .Assign [.Attribute (.Name "self" p6) "code" p7] (.Constant (.str code) j2 p8) p9]
theorem err_initN {P : Program} {w0 : World} {K : PySem.W.Frag} {mg : Str → Option Value} {base : Heap} {x qual txt code : Str} {params : Arguments} {scope : Scope} {dvs : List V} {f cda cc C D : Addr} {fd : FuncData} {k : Nat} {j1 j2 : Nat} {p0 p1 p2 p3 p4 p5 p6 p7 p8 p9 : Pos}
    (F : FunS K x qual params (errBodyN txt code j1 j2 p0 p1 p2 p3 p4 p5 p6 p7 p8 p9) scope dvs f fd cda cc) (S : FnScopeS ["self"] ["self"] scope) (SK : SupK P K mg f cda cc D "self") (ox : OexI K C) (se : SupI K C D) (nc : PySem.W.findIn K (.ref C) "code" = some none)
    (hks : scope.names.lookup ("super" : Str) = some .globalImplicit) (hkc : scope.names.lookup ("__class__" : Str) = some .free) (hks2 : scope.names.lookup ("self" : Str) = some .local) (hi : ∀ L, interactive (PySem.W.ksEnv qual scope L f (.ref cda) cc) = false)
    (hev : ∀ env : Env, ∃ pl : Sem Bool, eval (.Call (.Attribute (.Call (.Name "super" p0) [] [] p1) "__init__" p2) [.Constant (.str txt) j1 p3] [] p4) env = (do
      let ov ← attributeBase (.Call (.Name "super" p0) [] [] p1) "__init__" env (eval (.Call (.Name "super" p0) [] [] p1) env)
      standAt p2.atName
      let (f, first) ← holding [ov] (getMethod ov "__init__" pl)
      callWith p4 f first (backTo p4 (starEach [.Constant (.str txt) j1 p3] env)) [])) :
    FnOk P w0 K mg base (L2.CX P w0) (k + 1) f fd ["self"] (spN C code) := by
  refine fnS_ok F S (fun vs H Q E h => ?_) (fun A outer s H vs Q E hr h => ?_)
  · obtain ⟨a, rfl, _⟩ := h; rfl
  · obtain ⟨a, rfl, ha, hQ⟩ := h
    intro pins s1 I
    obtain ⟨pl, hpl⟩ := hev (supD P w0 K mg base ["self"] qual scope f cda cc A outer s H E).env
    refine PySem.ks_wpAt_execs_cons (PySem.ks_wpAt_Expr_any (PySem.ks_wpAt_mono (xsup_exprI (X := supD P w0 K mg base ["self"] qual scope f cda cc A outer s H E) (body := errBodyN txt code j1 j2 p0 p1 p2 p3 p4 p5 p6 p7 p8 p9) (Q := fun v H1 => v = .non ∧ H1 = H) SK se ox I hks hkc rfl rfl rfl rfl hks2 rfl ha ⟨rfl, rfl⟩ (ht := hpl)) (fun v s2 hv => ?_) fun _ _ z => z) (hi _))
    obtain ⟨v', H2, I2, rv, _, eH⟩ := hv
    subst eH
    refine PySem.wpAt_of_wpAny ?_
    have vis : Vis (supD P w0 K mg base ["self"] qual scope f cda cc A outer s H2 E).env.scope "self" := .inl hks2
    have st1 := ps_ostI (X := supD P w0 K mg base ["self"] qual scope f cda cc A outer s H2 E) (f := "code") (p' := p7) (pos := p9) (pe_var (i := 0) (x := "self") (pos := p6) rfl vis) (pe_str (x := code) (j := j2) (pos := p8))
    refine (pss_one st1).run pins s2 _ _ _ I2 ?_
    exact ⟨.ref a, rfl, a, C, rfl, ox, nc, .inl ⟨ha, fun dx hdx hne => hQ dx hdx hne⟩⟩
theorem FunS.kbn {K : PySem.W.Frag} {x qual : Str} {params : Arguments} {body : List Stmt} {scope : Scope} {f cda cc : Addr} {fd : FuncData} {ps : List Str} (F : FunS K x qual params body scope [] f fd cda cc) (n : Nat) (ks : List Str)
    (h : ∀ (kV doc pm : Value) (an : Option Addr) (cd ct : Value) (us ws : List Value), us.length = n → ws.length = ks.length → bindArgs (PySem.W.ksFn x qual params body scope .none kV doc pm an cd ct cc) ⟨us, ks.zip ws⟩ = pure (ps.zip (us ++ ws))) : KBn K fd ps n ks (fun us ws => us ++ ws) (fun vs zs => vs ++ zs) := by
  obtain ⟨oc, od, dV, kV, doc, pm, an, ct, osl, rfl, lk, hcd, hD⟩ := F.ex
  rcases hD with ⟨_, rfl⟩ | ⟨e, _⟩
  · exact ⟨fun s us ws _ l1 l2 => .of_eq (h kV doc pm an (.ref cda) ct us ws l1 l2), fun r1 r2 => r1.append r2⟩
  · exact absurd rfl e
section
variable {P : Program} {w : World} {K : PySem.W.Frag} {mg : Str → Option Value} {base : Heap} {ci : Ci} {c n : Nat} {x code fld txt par qual : Str} {params : Arguments} {body : List Stmt} {scope : Scope} {fd : FuncData} {cda cc : Addr} {ks : List Str}
/-- an error's __init__, kept: the class's number, facts -/
theorem errV_c (F : FunS K "__init__" qual params body scope [] (ma K (ga K x) "__init__") fd cda cc) (SK : SupK P K mg (ma K (ga K x) "__init__") cda cc (ga K x) "self") (hI : ErrIs txt code fld par body) (S : FnScopeS ["self", par] ["self", par] scope) (hB : errB x fld K = true) (hm : mg x = some (.ref (ga K x))) (hci : (ci c).1 = ga K x)
    (hks : scope.names.lookup ("super" : Str) = some .globalImplicit) (hkc : scope.names.lookup ("__class__" : Str) = some .free) (hks2 : scope.names.lookup ("self" : Str) = some .local) (hkp : scope.names.lookup par = some .local) (hd1 : (par == ("__debug__" : Str)) = false) (hd2 : (par == ("__classdict__" : Str)) = false)
    (hb : KBn K fd ["self", par] (n + 1) ks (fun us ws => us ++ ws) (fun vs zs => vs ++ zs)) : ErrV P w K mg base ci 1 c x n ks (spE (ci c).1 code fld) := by
  obtain ⟨b1, hB⟩ := ba hB
  obtain ⟨b2, hB⟩ := ba hB
  obtain ⟨b3, hB⟩ := ba hB
  obtain ⟨b4, hB⟩ := ba hB
  obtain ⟨b5, hB⟩ := ba hB
  obtain ⟨b6, hB⟩ := ba hB
  obtain ⟨b7, b8⟩ := ba hB
  obtain ⟨j1, j2, p0, p1, p2, p3, p4, p5, p6, p7, p8, p9, p10, p11, p12, p13, rfl, hev⟩ := hI
  have ox := oexB_ok b1
  have ok := err_init (P := P) (w0 := w) (base := base) (k := 0) F S SK (C := ga K x) ⟨ox, ⟨of_decide_eq_true b2, of_decide_eq_true b3, of_decide_eq_true b4⟩, of_decide_eq_true b5, of_decide_eq_true b6⟩ hks hkc hks2 hkp hd1 hd2 (fun _ => rfl) (fun L => by
    show (scope.kind == .module && _) = false
    rw [S.kind]
    rfl) hev
  refine ⟨by rw [hci]; exact .c ox, by rw [hci]; exact hm, _, fd, ["self", par], by rw [hci]; exact of_decide_eq_true b7, of_decide_eq_true b8, by rw [hci]; exact ok, hb⟩
theorem errV_l (F : FunS K "__init__" qual params body scope [] (ma K (ga K x) "__init__") fd cda cc) (SK : SupK P K mg (ma K (ga K x) "__init__") cda cc (ga K x) "self") (hI : ErrIs txt code fld par body) (S : FnScopeS ["self", par] ["self", par] scope) (hB : errLB x fld K = true) (hm : mg x = some (.ref (ga K x))) (hci : (ci c).1 = ga K x)
    (hks : scope.names.lookup ("super" : Str) = some .globalImplicit) (hkc : scope.names.lookup ("__class__" : Str) = some .free) (hks2 : scope.names.lookup ("self" : Str) = some .local) (hkp : scope.names.lookup par = some .local) (hd1 : (par == ("__debug__" : Str)) = false) (hd2 : (par == ("__classdict__" : Str)) = false)
    (hb : KBn K fd ["self", par] (n + 1) ks (fun us ws => us ++ ws) (fun vs zs => vs ++ zs)) : ErrV P w K mg base ci 1 c x n ks (spE (ci c).1 code fld) := by
  obtain ⟨b1, hB⟩ := ba hB
  obtain ⟨b2, hB⟩ := ba hB
  obtain ⟨b3, hB⟩ := ba hB
  obtain ⟨b4, hB⟩ := ba hB
  obtain ⟨b5, hB⟩ := ba hB
  obtain ⟨b6, hB⟩ := ba hB
  obtain ⟨b7, b8⟩ := ba hB
  obtain ⟨j1, j2, p0, p1, p2, p3, p4, p5, p6, p7, p8, p9, p10, p11, p12, p13, rfl, hev⟩ := hI
  have ox := oexLB_ok b1
  have ok := err_initL (P := P) (w0 := w) (base := base) (k := 0) F S SK (C := ga K x) ⟨ox, ⟨of_decide_eq_true b2, of_decide_eq_true b3, of_decide_eq_true b4⟩, of_decide_eq_true b5, of_decide_eq_true b6⟩ hks hkc hks2 hkp hd1 hd2 (fun _ => rfl) (fun L => by
    show (scope.kind == .module && _) = false
    rw [S.kind]
    rfl) hev
  refine ⟨by rw [hci]; exact .l ox, by rw [hci]; exact hm, _, fd, ["self", par], by rw [hci]; exact of_decide_eq_true b7, of_decide_eq_true b8, by rw [hci]; exact ok, hb⟩
def errNB (x : Str) (K : PySem.W.Frag) : Bool := oexIB K (ga K x) && (decide (PySem.W.mroIn K (ga K x) (.ref (ga K x)) = some true) && (decide (PySem.W.ks_superIn K (ga K x) (ga K x) "__init__" = some (some (.builtin "IndexError.__init__"))) && (decide (PySem.W.subIn K (.ref (ga K x)) (.type "IndexError") = some true) &&
  (decide (PySem.W.findIn K (.ref (ga K x)) "code" = some none) && (decide (PySem.W.findIn K (.ref (ga K x)) "__init__" = some (some (.ref (ma K (ga K x) "__init__")))) && decide (PySem.W.typeIn K (.ref (ma K (ga K x) "__init__")) = some (.type "function")))))))
def ErrNIs (txt code : Str) (body : List Stmt) : Prop := ∃ (j1 j2 : Nat) (p0 p1 p2 p3 p4 p5 p6 p7 p8 p9 : Pos), body = errBodyN txt code j1 j2 p0 p1 p2 p3 p4 p5 p6 p7 p8 p9 ∧ ∀ env : Env, ∃ pl : Sem Bool, eval (.Call (.Attribute (.Call (.Name "super" p0) [] [] p1) "__init__" p2) [.Constant (.str txt) j1 p3] [] p4) env = (do
      let ov ← attributeBase (.Call (.Name "super" p0) [] [] p1) "__init__" env (eval (.Call (.Name "super" p0) [] [] p1) env)
      standAt p2.atName
      let (f, first) ← holding [ov] (getMethod ov "__init__" pl)
      callWith p4 f first (backTo p4 (starEach [.Constant (.str txt) j1 p3] env)) [])
theorem errV_n (F : FunS K "__init__" qual params body scope [] (ma K (ga K x) "__init__") fd cda cc) (SK : SupK P K mg (ma K (ga K x) "__init__") cda cc (ga K x) "self") (hI : ErrNIs txt code body) (S : FnScopeS ["self"] ["self"] scope) (hB : errNB x K = true) (hm : mg x = some (.ref (ga K x))) (hci : (ci c).1 = ga K x)
    (hks : scope.names.lookup ("super" : Str) = some .globalImplicit) (hkc : scope.names.lookup ("__class__" : Str) = some .free) (hks2 : scope.names.lookup ("self" : Str) = some .local)
    (hb : KBn K fd ["self"] 1 [] (fun us ws => us ++ ws) (fun vs zs => vs ++ zs)) : ErrV P w K mg base ci 1 c x 0 [] (spN (ci c).1 code) := by
  obtain ⟨b1, hB⟩ := ba hB
  obtain ⟨b2, hB⟩ := ba hB
  obtain ⟨b3, hB⟩ := ba hB
  obtain ⟨b4, hB⟩ := ba hB
  obtain ⟨b5, hB⟩ := ba hB
  obtain ⟨b7, b8⟩ := ba hB
  obtain ⟨j1, j2, p0, p1, p2, p3, p4, p5, p6, p7, p8, p9, rfl, hev⟩ := hI
  have ox := oexIB_ok b1
  have ok := err_initN (P := P) (w0 := w) (base := base) (k := 0) F S SK (C := ga K x) ox ⟨of_decide_eq_true b2, of_decide_eq_true b3, of_decide_eq_true b4⟩ (of_decide_eq_true b5) hks hkc hks2 (fun L => by
    show (scope.kind == .module && _) = false
    rw [S.kind]
    rfl) hev
  refine ⟨by rw [hci]; exact .i ox, by rw [hci]; exact hm, _, fd, ["self"], by rw [hci]; exact of_decide_eq_true b7, of_decide_eq_true b8, by rw [hci]; exact ok, hb⟩
end
/-- a class without own __init__, over a built-in error -/
def errXB (x : Str) (bmB : List Value) (newId : String) (K : PySem.W.Frag) : Bool := PySem.W.keepIn K (.ref (ga K x)) && PySem.W.excIn K (ga K x) bmB newId
theorem errX_mk {K : PySem.W.Frag} {mg : Str → Option Value} {ci : Ci} {c : Nat} {x : Str} {bmB : List Value} {B newId initId : String} (FB : ExcBaseFacts B newId initId bmB) (h : errXB x bmB newId K = true) (hm : mg x = some (.ref (ga K x))) (hci : (ci c).1 = ga K x) : ErrX K mg ci c x :=
  ⟨by rw [hci]; exact hm, by rw [hci]; exact (ba h).1, _, _, _, _, FB, by rw [hci]; exact (ba h).2⟩
end LP
set_option maxHeartbeats 2000000
namespace LP
open PySem PySem.Spec PyProof.Rows L2 He
end LP
set_option maxHeartbeats 0
namespace K
open PySem PySem.Spec PyProof.Rows L2 LP
def topS (i : Nat) : Stmt := PySem.Challenge.pw_lumplooks_k01_errors_by_themselves.main.body.getD i (.Pass ⟨0, 0, 0, 0⟩)
end K
namespace Hd
open PySem PySem.Spec PyProof.Rows L2 LP K
def d0 : DefE := ⟨.fn ("InvalidNumber", some "__init__"), "__init__", "InvalidNumber.__init__", defArgs (inClass (topS 3) 0), defBody (inClass (topS 3) 0), defScope (inClass (topS 3) 0), [], true⟩
def d1 : DefE := ⟨.fn ("InvalidName", some "__init__"), "__init__", "InvalidName.__init__", defArgs (inClass (topS 4) 0), defBody (inClass (topS 4) 0), defScope (inClass (topS 4) 0), [], true⟩
def d2 : DefE := ⟨.fn ("InvalidSpan", some "__init__"), "__init__", "InvalidSpan.__init__", defArgs (inClass (topS 5) 0), defBody (inClass (topS 5) 0), defScope (inClass (topS 5) 0), [], true⟩
def d3 : DefE := ⟨.fn ("InvalidText", some "__init__"), "__init__", "InvalidText.__init__", defArgs (inClass (topS 6) 0), defBody (inClass (topS 6) 0), defScope (inClass (topS 6) 0), [], true⟩
def d4 : DefE := ⟨.fn ("InvalidSeat", some "__init__"), "__init__", "InvalidSeat.__init__", defArgs (inClass (topS 7) 0), defBody (inClass (topS 7) 0), defScope (inClass (topS 7) 0), [], true⟩
def d5 : DefE := ⟨.fn ("InvalidRecord", some "__init__"), "__init__", "InvalidRecord.__init__", defArgs (inClass (topS 8) 0), defBody (inClass (topS 8) 0), defScope (inClass (topS 8) 0), [], true⟩
def d6 : DefE := ⟨.fn ("Clash", some "__init__"), "__init__", "Clash.__init__", defArgs (inClass (topS 9) 0), defBody (inClass (topS 9) 0), defScope (inClass (topS 9) 0), [], true⟩
def d7 : DefE := ⟨.fn ("DuplicateName", some "__init__"), "__init__", "DuplicateName.__init__", defArgs (inClass (topS 10) 0), defBody (inClass (topS 10) 0), defScope (inClass (topS 10) 0), [], true⟩
def d8 : DefE := ⟨.fn ("DuplicateNumber", some "__init__"), "__init__", "DuplicateNumber.__init__", defArgs (inClass (topS 11) 0), defBody (inClass (topS 11) 0), defScope (inClass (topS 11) 0), [], true⟩
def d9 : DefE := ⟨.fn ("TooMany", some "__init__"), "__init__", "TooMany.__init__", defArgs (inClass (topS 12) 0), defBody (inClass (topS 12) 0), defScope (inClass (topS 12) 0), [], true⟩
def d10 : DefE := ⟨.fn ("Full", some "__init__"), "__init__", "Full.__init__", defArgs (inClass (topS 13) 0), defBody (inClass (topS 13) 0), defScope (inClass (topS 13) 0), [], true⟩
def d11 : DefE := ⟨.fn ("NotAThing", some "__init__"), "__init__", "NotAThing.__init__", defArgs (inClass (topS 14) 0), defBody (inClass (topS 14) 0), defScope (inClass (topS 14) 0), [], true⟩
def d12 : DefE := ⟨.fn ("Contradiction", some "__init__"), "__init__", "Contradiction.__init__", defArgs (inClass (topS 15) 0), defBody (inClass (topS 15) 0), defScope (inClass (topS 15) 0), [], true⟩
def d13 : DefE := ⟨.fn ("InvalidRule", some "__init__"), "__init__", "InvalidRule.__init__", defArgs (inClass (topS 16) 0), defBody (inClass (topS 16) 0), defScope (inClass (topS 16) 0), [], true⟩
def d14 : DefE := ⟨.fn ("InvalidCommand", some "__init__"), "__init__", "InvalidCommand.__init__", defArgs (inClass (topS 17) 0), defBody (inClass (topS 17) 0), defScope (inClass (topS 17) 0), [], true⟩
def d15 : DefE := ⟨.fn ("InvalidLimit", some "__init__"), "__init__", "InvalidLimit.__init__", defArgs (inClass (topS 18) 0), defBody (inClass (topS 18) 0), defScope (inClass (topS 18) 0), [], true⟩
def d16 : DefE := ⟨.fn ("InvalidPage", some "__init__"), "__init__", "InvalidPage.__init__", defArgs (inClass (topS 19) 0), defBody (inClass (topS 19) 0), defScope (inClass (topS 19) 0), [], true⟩
def d17 : DefE := ⟨.fn ("UnknownName", some "__init__"), "__init__", "UnknownName.__init__", defArgs (inClass (topS 20) 0), defBody (inClass (topS 20) 0), defScope (inClass (topS 20) 0), [], true⟩
def d18 : DefE := ⟨.fn ("NothingLeft", some "__init__"), "__init__", "NothingLeft.__init__", defArgs (inClass (topS 21) 0), defBody (inClass (topS 21) 0), defScope (inClass (topS 21) 0), [], true⟩
def d19 : DefE := ⟨.fn ("_law_bag", none), "_law_bag", "_law_bag", defArgs (topS 23), defBody (topS 23), defScope (topS 23), [], false⟩
def d20 : DefE := ⟨.fn ("_law_pull", none), "_law_pull", "_law_pull", defArgs (topS 24), defBody (topS 24), defScope (topS 24), [], false⟩
def d21 : DefE := ⟨.fn ("_law_pick", none), "_law_pick", "_law_pick", defArgs (topS 25), defBody (topS 25), defScope (topS 25), [], false⟩
def d22 : DefE := ⟨.fn ("_law_same", none), "_law_same", "_law_same", defArgs (topS 26), defBody (topS 26), defScope (topS 26), [], false⟩
def d23 : DefE := ⟨.fn ("_law_field", none), "_law_field", "_law_field", defArgs (topS 27), defBody (topS 27), defScope (topS 27), [], false⟩
def d24 : DefE := ⟨.fn ("_law_named", none), "_law_named", "_law_named", defArgs (topS 28), defBody (topS 28), defScope (topS 28), [], false⟩
def d25 : DefE := ⟨.fn ("_law_bare", none), "_law_bare", "_law_bare", defArgs (topS 29), defBody (topS 29), defScope (topS 29), [], false⟩
def d26 : DefE := ⟨.fn ("_law_classes_of", none), "_law_classes_of", "_law_classes_of", defArgs (topS 30), defBody (topS 30), defScope (topS 30), [], false⟩
def d27 : DefE := ⟨.fn ("law", none), "law", "law", defArgs (topS 31), defBody (topS 31), defScope (topS 31), [], false⟩
def fn : List DefE := [d0, d1, d2, d3, d4, d5, d6, d7, d8, d9, d10, d11, d12, d13, d14, d15, d16, d17, d18, d19, d20, d21, d22, d23, d24, d25, d26, d27]
def fa : List FaE := [.fa (.glo "_law_bag"), .fa (.glo "_law_pull"), .fa (.glo "_law_pick"), .fa (.glo "_law_same"), .fa (.glo "_law_field"), .fa (.glo "_law_named"), .fa (.glo "_law_bare"), .fa (.glo "_law_classes_of"), .fa (.glo "law"), .fa (.glo "InvalidNumber"), .fa (.glo "InvalidName"), .fa (.glo "InvalidSpan"), .fa (.glo "InvalidText"), .fa (.glo "InvalidSeat"), .fa (.glo "InvalidRecord"), .fa (.glo "Clash"), .fa (.glo "DuplicateName"), .fa (.glo "DuplicateNumber"), .fa (.glo "TooMany"), .fa (.glo "Full"), .fa (.glo "NotAThing"), .fa (.glo "Contradiction"), .fa (.glo "InvalidRule"), .fa (.glo "InvalidCommand"), .fa (.glo "InvalidLimit"), .fa (.glo "InvalidPage"), .fa (.glo "UnknownName"), .fa (.glo "NothingLeft"), .fa (.glo "LumpError"), .ex (errXB "LumpError" [.type "ValueError", .type "Exception", .type "BaseException", .type "object"] "ValueError.__new__"), .fa (.glo "Missing"), .ex (errXB "Missing" [.type "LookupError", .type "Exception", .type "BaseException", .type "object"] "LookupError.__new__"), .ex (excB "InvalidNumber"), .ex (excNo "InvalidNumber" exoNames), .ex (excIs "InvalidNumber" [("InvalidNumber", true), ("InvalidName", false), ("InvalidSpan", false), ("InvalidText", false), ("InvalidSeat", false), ("InvalidRecord", false), ("Clash", false), ("DuplicateName", false), ("DuplicateNumber", false), ("TooMany", false), ("Full", false), ("NotAThing", false), ("Contradiction", false), ("InvalidRule", false), ("InvalidCommand", false), ("InvalidLimit", false), ("InvalidPage", false), ("UnknownName", false), ("NothingLeft", false), ("LumpError", true), ("Missing", false)] [("ValueError", true), ("LookupError", false), ("IndexError", false)]), .ex (excB "InvalidName"), .ex (excNo "InvalidName" exoNames), .ex (excIs "InvalidName" [("InvalidNumber", false), ("InvalidName", true), ("InvalidSpan", false), ("InvalidText", false), ("InvalidSeat", false), ("InvalidRecord", false), ("Clash", false), ("DuplicateName", false), ("DuplicateNumber", false), ("TooMany", false), ("Full", false), ("NotAThing", false), ("Contradiction", false), ("InvalidRule", false), ("InvalidCommand", false), ("InvalidLimit", false), ("InvalidPage", false), ("UnknownName", false), ("NothingLeft", false), ("LumpError", true), ("Missing", false)] [("ValueError", true), ("LookupError", false), ("IndexError", false)]), .ex (excB "InvalidSpan"), .ex (excNo "InvalidSpan" exoNames), .ex (excIs "InvalidSpan" [("InvalidNumber", false), ("InvalidName", false), ("InvalidSpan", true), ("InvalidText", false), ("InvalidSeat", false), ("InvalidRecord", false), ("Clash", false), ("DuplicateName", false), ("DuplicateNumber", false), ("TooMany", false), ("Full", false), ("NotAThing", false), ("Contradiction", false), ("InvalidRule", false), ("InvalidCommand", false), ("InvalidLimit", false), ("InvalidPage", false), ("UnknownName", false), ("NothingLeft", false), ("LumpError", true), ("Missing", false)] [("ValueError", true), ("LookupError", false), ("IndexError", false)]), .ex (excB "InvalidText"), .ex (excNo "InvalidText" exoNames), .ex (excIs "InvalidText" [("InvalidNumber", false), ("InvalidName", false), ("InvalidSpan", false), ("InvalidText", true), ("InvalidSeat", false), ("InvalidRecord", false), ("Clash", false), ("DuplicateName", false), ("DuplicateNumber", false), ("TooMany", false), ("Full", false), ("NotAThing", false), ("Contradiction", false), ("InvalidRule", false), ("InvalidCommand", false), ("InvalidLimit", false), ("InvalidPage", false), ("UnknownName", false), ("NothingLeft", false), ("LumpError", true), ("Missing", false)] [("ValueError", true), ("LookupError", false), ("IndexError", false)]), .ex (excB "InvalidSeat"), .ex (excNo "InvalidSeat" exoNames), .ex (excIs "InvalidSeat" [("InvalidNumber", false), ("InvalidName", false), ("InvalidSpan", false), ("InvalidText", false), ("InvalidSeat", true), ("InvalidRecord", false), ("Clash", false), ("DuplicateName", false), ("DuplicateNumber", false), ("TooMany", false), ("Full", false), ("NotAThing", false), ("Contradiction", false), ("InvalidRule", false), ("InvalidCommand", false), ("InvalidLimit", false), ("InvalidPage", false), ("UnknownName", false), ("NothingLeft", false), ("LumpError", true), ("Missing", false)] [("ValueError", true), ("LookupError", false), ("IndexError", false)]), .ex (excB "InvalidRecord"), .ex (excNo "InvalidRecord" exoNames), .ex (excIs "InvalidRecord" [("InvalidNumber", false), ("InvalidName", false), ("InvalidSpan", false), ("InvalidText", false), ("InvalidSeat", false), ("InvalidRecord", true), ("Clash", false), ("DuplicateName", false), ("DuplicateNumber", false), ("TooMany", false), ("Full", false), ("NotAThing", false), ("Contradiction", false), ("InvalidRule", false), ("InvalidCommand", false), ("InvalidLimit", false), ("InvalidPage", false), ("UnknownName", false), ("NothingLeft", false), ("LumpError", true), ("Missing", false)] [("ValueError", true), ("LookupError", false), ("IndexError", false)]), .ex (excB "Clash"), .ex (excNo "Clash" exoNames), .ex (excIs "Clash" [("InvalidNumber", false), ("InvalidName", false), ("InvalidSpan", false), ("InvalidText", false), ("InvalidSeat", false), ("InvalidRecord", false), ("Clash", true), ("DuplicateName", false), ("DuplicateNumber", false), ("TooMany", false), ("Full", false), ("NotAThing", false), ("Contradiction", false), ("InvalidRule", false), ("InvalidCommand", false), ("InvalidLimit", false), ("InvalidPage", false), ("UnknownName", false), ("NothingLeft", false), ("LumpError", true), ("Missing", false)] [("ValueError", true), ("LookupError", false), ("IndexError", false)]), .ex (excB "DuplicateName"), .ex (excNo "DuplicateName" exoNames), .ex (excIs "DuplicateName" [("InvalidNumber", false), ("InvalidName", false), ("InvalidSpan", false), ("InvalidText", false), ("InvalidSeat", false), ("InvalidRecord", false), ("Clash", false), ("DuplicateName", true), ("DuplicateNumber", false), ("TooMany", false), ("Full", false), ("NotAThing", false), ("Contradiction", false), ("InvalidRule", false), ("InvalidCommand", false), ("InvalidLimit", false), ("InvalidPage", false), ("UnknownName", false), ("NothingLeft", false), ("LumpError", true), ("Missing", false)] [("ValueError", true), ("LookupError", false), ("IndexError", false)]), .ex (excB "DuplicateNumber"), .ex (excNo "DuplicateNumber" exoNames), .ex (excIs "DuplicateNumber" [("InvalidNumber", false), ("InvalidName", false), ("InvalidSpan", false), ("InvalidText", false), ("InvalidSeat", false), ("InvalidRecord", false), ("Clash", false), ("DuplicateName", false), ("DuplicateNumber", true), ("TooMany", false), ("Full", false), ("NotAThing", false), ("Contradiction", false), ("InvalidRule", false), ("InvalidCommand", false), ("InvalidLimit", false), ("InvalidPage", false), ("UnknownName", false), ("NothingLeft", false), ("LumpError", true), ("Missing", false)] [("ValueError", true), ("LookupError", false), ("IndexError", false)]), .ex (excB "TooMany"), .ex (excNo "TooMany" exoNames), .ex (excIs "TooMany" [("InvalidNumber", false), ("InvalidName", false), ("InvalidSpan", false), ("InvalidText", false), ("InvalidSeat", false), ("InvalidRecord", false), ("Clash", false), ("DuplicateName", false), ("DuplicateNumber", false), ("TooMany", true), ("Full", false), ("NotAThing", false), ("Contradiction", false), ("InvalidRule", false), ("InvalidCommand", false), ("InvalidLimit", false), ("InvalidPage", false), ("UnknownName", false), ("NothingLeft", false), ("LumpError", true), ("Missing", false)] [("ValueError", true), ("LookupError", false), ("IndexError", false)]), .ex (excB "Full"), .ex (excNo "Full" exoNames), .ex (excIs "Full" [("InvalidNumber", false), ("InvalidName", false), ("InvalidSpan", false), ("InvalidText", false), ("InvalidSeat", false), ("InvalidRecord", false), ("Clash", false), ("DuplicateName", false), ("DuplicateNumber", false), ("TooMany", false), ("Full", true), ("NotAThing", false), ("Contradiction", false), ("InvalidRule", false), ("InvalidCommand", false), ("InvalidLimit", false), ("InvalidPage", false), ("UnknownName", false), ("NothingLeft", false), ("LumpError", true), ("Missing", false)] [("ValueError", true), ("LookupError", false), ("IndexError", false)]), .ex (excB "NotAThing"), .ex (excNo "NotAThing" exoNames), .ex (excIs "NotAThing" [("InvalidNumber", false), ("InvalidName", false), ("InvalidSpan", false), ("InvalidText", false), ("InvalidSeat", false), ("InvalidRecord", false), ("Clash", false), ("DuplicateName", false), ("DuplicateNumber", false), ("TooMany", false), ("Full", false), ("NotAThing", true), ("Contradiction", false), ("InvalidRule", false), ("InvalidCommand", false), ("InvalidLimit", false), ("InvalidPage", false), ("UnknownName", false), ("NothingLeft", false), ("LumpError", true), ("Missing", false)] [("ValueError", true), ("LookupError", false), ("IndexError", false)]), .ex (excB "Contradiction"), .ex (excNo "Contradiction" exoNames), .ex (excIs "Contradiction" [("InvalidNumber", false), ("InvalidName", false), ("InvalidSpan", false), ("InvalidText", false), ("InvalidSeat", false), ("InvalidRecord", false), ("Clash", false), ("DuplicateName", false), ("DuplicateNumber", false), ("TooMany", false), ("Full", false), ("NotAThing", false), ("Contradiction", true), ("InvalidRule", false), ("InvalidCommand", false), ("InvalidLimit", false), ("InvalidPage", false), ("UnknownName", false), ("NothingLeft", false), ("LumpError", true), ("Missing", false)] [("ValueError", true), ("LookupError", false), ("IndexError", false)]), .ex (excB "InvalidRule"), .ex (excNo "InvalidRule" exoNames), .ex (excIs "InvalidRule" [("InvalidNumber", false), ("InvalidName", false), ("InvalidSpan", false), ("InvalidText", false), ("InvalidSeat", false), ("InvalidRecord", false), ("Clash", false), ("DuplicateName", false), ("DuplicateNumber", false), ("TooMany", false), ("Full", false), ("NotAThing", false), ("Contradiction", false), ("InvalidRule", true), ("InvalidCommand", false), ("InvalidLimit", false), ("InvalidPage", false), ("UnknownName", false), ("NothingLeft", false), ("LumpError", true), ("Missing", false)] [("ValueError", true), ("LookupError", false), ("IndexError", false)]), .ex (excB "InvalidCommand"), .ex (excNo "InvalidCommand" exoNames), .ex (excIs "InvalidCommand" [("InvalidNumber", false), ("InvalidName", false), ("InvalidSpan", false), ("InvalidText", false), ("InvalidSeat", false), ("InvalidRecord", false), ("Clash", false), ("DuplicateName", false), ("DuplicateNumber", false), ("TooMany", false), ("Full", false), ("NotAThing", false), ("Contradiction", false), ("InvalidRule", false), ("InvalidCommand", true), ("InvalidLimit", false), ("InvalidPage", false), ("UnknownName", false), ("NothingLeft", false), ("LumpError", true), ("Missing", false)] [("ValueError", true), ("LookupError", false), ("IndexError", false)]), .ex (excB "InvalidLimit"), .ex (excNo "InvalidLimit" exoNames), .ex (excIs "InvalidLimit" [("InvalidNumber", false), ("InvalidName", false), ("InvalidSpan", false), ("InvalidText", false), ("InvalidSeat", false), ("InvalidRecord", false), ("Clash", false), ("DuplicateName", false), ("DuplicateNumber", false), ("TooMany", false), ("Full", false), ("NotAThing", false), ("Contradiction", false), ("InvalidRule", false), ("InvalidCommand", false), ("InvalidLimit", true), ("InvalidPage", false), ("UnknownName", false), ("NothingLeft", false), ("LumpError", true), ("Missing", false)] [("ValueError", true), ("LookupError", false), ("IndexError", false)]), .ex (excB "InvalidPage"), .ex (excNo "InvalidPage" exoNames), .ex (excIs "InvalidPage" [("InvalidNumber", false), ("InvalidName", false), ("InvalidSpan", false), ("InvalidText", false), ("InvalidSeat", false), ("InvalidRecord", false), ("Clash", false), ("DuplicateName", false), ("DuplicateNumber", false), ("TooMany", false), ("Full", false), ("NotAThing", false), ("Contradiction", false), ("InvalidRule", false), ("InvalidCommand", false), ("InvalidLimit", false), ("InvalidPage", true), ("UnknownName", false), ("NothingLeft", false), ("LumpError", true), ("Missing", false)] [("ValueError", true), ("LookupError", false), ("IndexError", false)]), .ex (excB "UnknownName"), .ex (excNo "UnknownName" exoNames), .ex (excIs "UnknownName" [("InvalidNumber", false), ("InvalidName", false), ("InvalidSpan", false), ("InvalidText", false), ("InvalidSeat", false), ("InvalidRecord", false), ("Clash", false), ("DuplicateName", false), ("DuplicateNumber", false), ("TooMany", false), ("Full", false), ("NotAThing", false), ("Contradiction", false), ("InvalidRule", false), ("InvalidCommand", false), ("InvalidLimit", false), ("InvalidPage", false), ("UnknownName", true), ("NothingLeft", false), ("LumpError", false), ("Missing", true)] [("ValueError", false), ("LookupError", true), ("IndexError", false)]), .ex (excB "NothingLeft"), .ex (excNo "NothingLeft" exoNames), .ex (excIs "NothingLeft" [("InvalidNumber", false), ("InvalidName", false), ("InvalidSpan", false), ("InvalidText", false), ("InvalidSeat", false), ("InvalidRecord", false), ("Clash", false), ("DuplicateName", false), ("DuplicateNumber", false), ("TooMany", false), ("Full", false), ("NotAThing", false), ("Contradiction", false), ("InvalidRule", false), ("InvalidCommand", false), ("InvalidLimit", false), ("InvalidPage", false), ("UnknownName", false), ("NothingLeft", true), ("LumpError", false), ("Missing", false)] [("ValueError", false), ("LookupError", true), ("IndexError", true)]), .ex (excB "LumpError"), .ex (excNo "LumpError" exoNames), .ex (excIs "LumpError" [("InvalidNumber", false), ("InvalidName", false), ("InvalidSpan", false), ("InvalidText", false), ("InvalidSeat", false), ("InvalidRecord", false), ("Clash", false), ("DuplicateName", false), ("DuplicateNumber", false), ("TooMany", false), ("Full", false), ("NotAThing", false), ("Contradiction", false), ("InvalidRule", false), ("InvalidCommand", false), ("InvalidLimit", false), ("InvalidPage", false), ("UnknownName", false), ("NothingLeft", false), ("LumpError", true), ("Missing", false)] [("ValueError", true), ("LookupError", false), ("IndexError", false)]), .ex (excB "Missing"), .ex (excNo "Missing" exoNames), .ex (excIs "Missing" [("InvalidNumber", false), ("InvalidName", false), ("InvalidSpan", false), ("InvalidText", false), ("InvalidSeat", false), ("InvalidRecord", false), ("Clash", false), ("DuplicateName", false), ("DuplicateNumber", false), ("TooMany", false), ("Full", false), ("NotAThing", false), ("Contradiction", false), ("InvalidRule", false), ("InvalidCommand", false), ("InvalidLimit", false), ("InvalidPage", false), ("UnknownName", false), ("NothingLeft", false), ("LumpError", false), ("Missing", true)] [("ValueError", false), ("LookupError", true), ("IndexError", false)]), .ex (errB "InvalidNumber" "given"), .ex (fun K => supOkB "/claim/cut.py" "self" K (d0.at_.ad K) (He.ga K "InvalidNumber")), .ex (errB "InvalidName" "given"), .ex (fun K => supOkB "/claim/cut.py" "self" K (d1.at_.ad K) (He.ga K "InvalidName")), .ex (errB "InvalidSpan" "at"), .ex (fun K => supOkB "/claim/cut.py" "self" K (d2.at_.ad K) (He.ga K "InvalidSpan")), .ex (errB "InvalidText" "given"), .ex (fun K => supOkB "/claim/cut.py" "self" K (d3.at_.ad K) (He.ga K "InvalidText")), .ex (errB "InvalidSeat" "at"), .ex (fun K => supOkB "/claim/cut.py" "self" K (d4.at_.ad K) (He.ga K "InvalidSeat")), .ex (errB "InvalidRecord" "at"), .ex (fun K => supOkB "/claim/cut.py" "self" K (d5.at_.ad K) (He.ga K "InvalidRecord")), .ex (errB "Clash" "at"), .ex (fun K => supOkB "/claim/cut.py" "self" K (d6.at_.ad K) (He.ga K "Clash")), .ex (errB "DuplicateName" "name"), .ex (fun K => supOkB "/claim/cut.py" "self" K (d7.at_.ad K) (He.ga K "DuplicateName")), .ex (errB "DuplicateNumber" "given"), .ex (fun K => supOkB "/claim/cut.py" "self" K (d8.at_.ad K) (He.ga K "DuplicateNumber")), .ex (errB "TooMany" "most"), .ex (fun K => supOkB "/claim/cut.py" "self" K (d9.at_.ad K) (He.ga K "TooMany")), .ex (errB "Full" "limit"), .ex (fun K => supOkB "/claim/cut.py" "self" K (d10.at_.ad K) (He.ga K "Full")), .ex (errB "NotAThing" "name"), .ex (fun K => supOkB "/claim/cut.py" "self" K (d11.at_.ad K) (He.ga K "NotAThing")), .ex (errB "Contradiction" "at"), .ex (fun K => supOkB "/claim/cut.py" "self" K (d12.at_.ad K) (He.ga K "Contradiction")), .ex (errB "InvalidRule" "given"), .ex (fun K => supOkB "/claim/cut.py" "self" K (d13.at_.ad K) (He.ga K "InvalidRule")), .ex (errB "InvalidCommand" "at"), .ex (fun K => supOkB "/claim/cut.py" "self" K (d14.at_.ad K) (He.ga K "InvalidCommand")), .ex (errB "InvalidLimit" "given"), .ex (fun K => supOkB "/claim/cut.py" "self" K (d15.at_.ad K) (He.ga K "InvalidLimit")), .ex (errB "InvalidPage" "line"), .ex (fun K => supOkB "/claim/cut.py" "self" K (d16.at_.ad K) (He.ga K "InvalidPage")), .ex (errLB "UnknownName" "name"), .ex (fun K => supOkB "/claim/cut.py" "self" K (d17.at_.ad K) (He.ga K "UnknownName")), .ex (errNB "NothingLeft"), .ex (fun K => supOkB "/claim/cut.py" "self" K (d18.at_.ad K) (He.ga K "NothingLeft")), .fa (.free "IndexError"), .fa (.free "LookupError"), .fa (.free "ValueError"), .fa (.free "all"), .fa (.free "bool"), .fa (.free "int"), .fa (.free "isinstance"), .fa (.free "len"), .fa (.free "list"), .fa (.free "str"), .fa (.free "super"), .fa (.free "tuple"), .fa (.free "zip")]
abbrev R : PySem.W.OpenRow := PySem.W.OpenLaw.row PySem.Challenge.rw_lumplooks_k01_errors_by_themselves
abbrev hk : PySem.W.Hook := hookE 6 fa fn
def ob (s : PySem.W.SharedT) : He.AlD := obsEG 6 fa fn (HandSHeadRun.getT s)
theorem ob_eq (s : PySem.W.SharedT) : ob s = hk.obs s.abs := obsEG_eq (HandSHeadRun.getT_eq s)
def loose0 : List Str := ["LumpError", "Missing", "InvalidNumber", "InvalidName", "InvalidSpan", "InvalidText", "InvalidSeat", "InvalidRecord", "Clash", "DuplicateName", "DuplicateNumber", "TooMany", "Full", "NotAThing", "Contradiction", "InvalidRule", "InvalidCommand", "InvalidLimit", "InvalidPage", "UnknownName", "NothingLeft", "_law_bag", "_law_pull", "_law_pick", "_law_same"]
def loose25 : List Str := ["_law_field", "_law_named", "_law_bare", "_law_classes_of"]
abbrev loose : List Str := loose0 ++ loose25
theorem opt3 {α β γ δ : Type} {o : Option α} {f : α → β} {g : α → γ} {h : α → δ} {x : β} {y : γ} {z : δ} (h1 : o.map f = some x) (h2 : o.map g = some y) (h3 : o.map h = some z) : o.map (fun s => (f s, g s, h s)) = some (x, y, z) := by
  cases o with
  | none => cases h1
  | some s => cases h1; cases h2; cases h3; rfl
open HandSHeadRun PySem PySem.W PySem.Calls PyProof.Rows in
theorem qC (w : World) (os : OsState) : (endF (stepQ (denQ tabQ) R.prog w) 6000 R.prog w os).map (fun s => ob s) = some (hk.val w) := by kernel_rfl
open HandSHeadRun PySem PySem.W PySem.Calls PyProof.Rows in
theorem qA (w : World) (os : OsState) : (endF (stepQ (denQ tabQ) R.prog w) 6000 R.prog w os).map (fun s => looksF R.prog (boot_heap w.params) s.abs) = some true := by kernel_rfl
open HandSHeadRun PySem PySem.W PySem.Calls PyProof.Rows in
theorem qB (w : World) (os : OsState) : (endF (stepQ (denQ tabQ) R.prog w) 6000 R.prog w os).map (fun s => seenQ (PySem.W.view R.prog [31]) loose (importedModules R.prog.main.body) (fun s => xlAt (PySem.W.view R.prog [31]) [] s && recOk R.toRowW.records s) s.abs) = some (openGood (PySem.W.view R.prog [31]) loose) := by kernel_rfl
theorem run (w : World) : HandSHeadRun.RunEq R (PySem.W.view R.prog [31]) hk ob 6000 loose w := by
  intro os
  exact opt3 (qA w os) (qB w os) (qC w os)
end Hd
set_option maxHeartbeats 0
namespace K
open PySem PySem.Spec PyProof.Rows L2 LP
/-- alike, n deep -/
def D.sam : Nat → D → Bool
  | _, .non => true | _, .bl _ => true | _, .int _ => true | _, .str _ => true
  | n + 1, .lst l => l.all fun x => D.sam n x
  | n + 1, .tup l => l.all fun x => D.sam n x
  | _, _ => false
open Classical in
noncomputable def G_same (n : Nat) : PC := fun ds => match ds with
  | [x, y] => if x = y ∧ D.sam n x = true then some (.ok (.bl true)) else none
  | _ => none
/-- the bag: cells, place, pool, state, count -/
def bagMO (cs : List Int) (at_ : Nat) (pool st n : Int) : MO := .lst [.d (.lst (cs.map .int)), .d (.int at_), .d (.int pool), .d (.int st), .d (.int n)]
def Bag (m : MO) : Prop := ∃ cs at_ pool st n, m = bagMO cs at_ pool st n ∧ 0 ≤ st ∧ st < 2147483579 ∧ cs.length ≤ 63
noncomputable def G_prev : Nat → PC
  | 0 => fun _ => none
  | n + 1 => G_same n
def fc_bag : FC := fun as S _ Q => ∃ (k : Nat) (cs : List Int), as = [.loc k] ∧ S[k]? = some (.scr (cs.map .int)) ∧ cs.length ≤ 63 ∧ ∀ m, Bag m → Q (.loc S.length) (S ++ [m])
def fc_pull : FC := fun as S _ Q => ∃ k m many, as = [.loc k, .d (.int many)] ∧ S[k]? = some m ∧ Bag m ∧ 0 < many ∧ many < 1152921504606846976 ∧ ∀ r m', Bag m' → 0 ≤ r → r < many → Q (.d (.int r)) (S.set k m')
/-- the rows of a list or a text -/
def rowsOf : D → Option (List D)
  | .lst l => some l
  | .str s => some (s.cps.toList.map fun c => .str ⟨#[c]⟩)
  | _ => none
def fc_pick : FC := fun as S _ Q => ∃ k m rows l, as = [.loc k, .d rows] ∧ S[k]? = some m ∧ Bag m ∧ rowsOf rows = some l ∧ 0 < l.length ∧ l.length < 1000 ∧ ∀ d m', Bag m' → d ∈ l → Q (.d d) (S.set k m')
def eCode : List Nat := [1, 2, 3, 4, 5, 6, 7, 8, 9, 10, 11, 12, 13, 14, 15, 16, 17, 18, 19]
def eAll : List Nat := [1, 2, 3, 4, 5, 6, 7, 8, 9, 10, 11, 12, 13, 14, 15, 16, 17, 18, 19, 20, 21]
theorem eCode_of {P : Nat → Prop} (h1 : P 1) (h2 : P 2) (h3 : P 3) (h4 : P 4) (h5 : P 5) (h6 : P 6) (h7 : P 7) (h8 : P 8) (h9 : P 9) (h10 : P 10) (h11 : P 11) (h12 : P 12) (h13 : P 13) (h14 : P 14) (h15 : P 15) (h16 : P 16) (h17 : P 17) (h18 : P 18) (h19 : P 19) : ∀ c ∈ eCode, P c := by
  intro c hc
  simp only [eCode, List.mem_cons, List.not_mem_nil, or_false] at hc
  rcases hc with rfl | rfl | rfl | rfl | rfl | rfl | rfl | rfl | rfl | rfl | rfl | rfl | rfl | rfl | rfl | rfl | rfl | rfl | rfl <;> assumption
theorem eAll_of {P : Nat → Prop} (h1 : P 1) (h2 : P 2) (h3 : P 3) (h4 : P 4) (h5 : P 5) (h6 : P 6) (h7 : P 7) (h8 : P 8) (h9 : P 9) (h10 : P 10) (h11 : P 11) (h12 : P 12) (h13 : P 13) (h14 : P 14) (h15 : P 15) (h16 : P 16) (h17 : P 17) (h18 : P 18) (h19 : P 19) (h20 : P 20) (h21 : P 21) : ∀ c ∈ eAll, P c := by
  intro c hc
  simp only [eAll, List.mem_cons, List.not_mem_nil, or_false] at hc
  rcases hc with rfl | rfl | rfl | rfl | rfl | rfl | rfl | rfl | rfl | rfl | rfl | rfl | rfl | rfl | rfl | rfl | rfl | rfl | rfl | rfl | rfl <;> assumption
structure ET where
  c : Nat
  code : Str
  fld : Str
def errT : List ET := [⟨1, "InvalidNumber", "given"⟩, ⟨2, "InvalidName", "given"⟩, ⟨3, "InvalidSpan", "at"⟩, ⟨4, "InvalidText", "given"⟩, ⟨5, "InvalidSeat", "at"⟩, ⟨6, "InvalidRecord", "at"⟩, ⟨7, "Clash", "at"⟩, ⟨8, "DuplicateName", "name"⟩, ⟨9, "DuplicateNumber", "given"⟩,
  ⟨10, "TooMany", "most"⟩, ⟨11, "Full", "limit"⟩, ⟨12, "NotAThing", "name"⟩, ⟨13, "Contradiction", "at"⟩, ⟨14, "InvalidRule", "given"⟩, ⟨15, "InvalidCommand", "at"⟩, ⟨16, "InvalidLimit", "given"⟩, ⟨17, "InvalidPage", "line"⟩, ⟨18, "UnknownName", "name"⟩]
/-- such an error with the value d -/
def exOf (d : D) (t : ET) : D := .exc t.c [t.fld, "code"] [d, .str t.code]
def G_excs : PC := fun ds => match ds with
  | [d] => some (.ok (.lst (errT.map (exOf d))))
  | _ => none
open Classical in
noncomputable def G_fieldV : PC := fun ds => match ds with
  | [.exc c [f, g] [d, .str x]] => if g = "code" ∧ (⟨c, x, f⟩ : ET) ∈ errT then some (.ok (.tup [d])) else none
  | _ => none
def G_classes : PC := fun ds => match ds with
  | [.exc c _ _] => if c ∈ errT.map (·.c) then some (.ok (.int 1)) else if c = 19 then some (.ok (.int 0)) else none
  | _ => none
end K
set_option maxHeartbeats 0
namespace K
open PySem PySem.Spec PyProof.Rows L2 LP
structure Tc (mg : Str → Option Value) : Prop where
  f_IndexError : mg "IndexError" = none
  f_LookupError : mg "LookupError" = none
  f_ValueError : mg "ValueError" = none
  f_all : mg "all" = none
  f_bool : mg "bool" = none
  f_int : mg "int" = none
  f_isinstance : mg "isinstance" = none
  f_len : mg "len" = none
  f_list : mg "list" = none
  f_str : mg "str" = none
  f_tuple : mg "tuple" = none
  f_zip : mg "zip" = none
def N_l_bag : List Str := ["_law_script", "_law_state", "_law_cell"]
theorem sc_l_bag : FnScope N_l_bag ["_law_script"] (defScope (topS 23)) := ⟨rfl, rfl, rfl, by decide +kernel, rfl, by decide +kernel, by decide +kernel⟩
def w_l_bag_for1_0  : WS :=
  wAsg 1 (wP (fOp gMod (fCall gIntA (fCons (fOp gPlus (fOp gPlus (fOp gTimes (fV 1) (fC (.int 48947))) (fOp gMod (fCall gIntA (fCons (fV 2) (fNil))) (fC (.int 2147483563)))) (fC (.int 37))) (fNil))) (fC (.int 2147483579))))
def w_l_bag_2  : WS :=
  wRet (wNewL (wPs (fCons (fComp (iL (fSl (fV 0) (oN) (oS (fC (.int 63))))) (tgN 2) [2] (fun _ _ => some true) (fCall gIntA (fCons (fV 2) (fNil)))) (fCons (fC (.int 0)) (fCons (fC (.int 0)) (fCons (fV 1) (fCons (fC (.int 0)) (fNil))))))))
def w_l_bag_1  : WS :=
  wSeq (wFor (wI (iL (fSl (fV 0) (oN) (oS (fC (.int 63)))))) (tgN 2)
  (w_l_bag_for1_0)) (w_l_bag_2)
def w_l_bag_0  : WS :=
  wSeq (wAsg 1 (wP (fC (.int 10021)))) (w_l_bag_1)
abbrev w_l_bag  : WS := w_l_bag_0
theorem b_l_bag {P : Program} {w0 : World} {K : PySem.W.Frag} {mg : Str → Option Value} {base : Heap} {ci : Ci} {f : Addr}  (T : Tc mg)  :
    Body P w0 K mg base ci N_l_bag "_law_bag" (defScope (topS 23)) f (0) (defBody (topS 23)) (w_l_bag ) := by
  intro cdv A outer s H E hr
  have ND : N_l_bag.Nodup := sc_l_bag.nd
  unfold w_l_bag w_l_bag_0 w_l_bag_1 w_l_bag_2 w_l_bag_for1_0
  exact rss_cons (rs_asg 1 ND (re_p (rp_int)))
      (rss_cons (rs_for (passes_of rfl) rfl (rie_p (ri_list (rp_sl (rp_v 0) (ro_n) (ro_s (rp_int))))) (rg_n 2 ND (by rfl) (loc_of (by kernel_rfl)))
      (rss_one (rs_asg 1 ND (re_p (rp_op o_mod (rp_callTy c_intA (gl_of (by kernel_rfl)) T.f_int (by decide +kernel) (rps_cons (rp_op o_plus (rp_op o_plus (rp_op o_times (rp_v 1) (rp_int)) (rp_op o_mod (rp_callTy c_intA (gl_of (by kernel_rfl)) T.f_int (by decide +kernel) (rps_cons (rp_v 2) (rps_nil))) (rp_int))) (rp_int)) (rps_nil))) (rp_int))))))
      (rss_one (rs_ret (re_newL (ra_p (rps_cons (rp_lcv [("_law_cell", 2)] rfl rfl ND (ri_list (rp_sl (rp_v 0) (ro_n) (ro_s (rp_int)))) (by kernel_rfl) (fun _ _ _ _ _ => rg_n 2 ND (by rfl) (loc_of (by kernel_rfl))) (fun _ _ _ _ _ => rc_nil) (fun _ _ _ _ _ => rp_callTy c_intA (gl_of (by kernel_rfl)) T.f_int (by decide +kernel) (rps_cons (rp_v 2) (rps_nil)))) (rps_cons (rp_int) (rps_cons (rp_int) (rps_cons (rp_v 1) (rps_cons (rp_int) (rps_nil)))))))))))
def N_l_pull : List Str := ["_law_bag_here", "_law_many", "_law_state", "_law_cell", "_law_digit"]
theorem sc_l_pull : FnScope N_l_pull ["_law_bag_here", "_law_many"] (defScope (topS 24)) := ⟨rfl, rfl, rfl, by decide +kernel, rfl, by decide +kernel, by decide +kernel⟩
def w_l_pull_5  : WS :=
  wRet (wP (fOp gMod (fCall gIntA (fCons (fOp gPlus (fOp gFdivW (fOp gIx (fV 0) (fC (.int 3))) (fC (.int 79))) (fOp gTimes (fOp gMod (fCall gIntA (fCons (fOp gIx (fV 0) (fC (.int 3))) (fNil))) (fC (.int 7919))) (fC (.int 71)))) (fNil))) (fV 1)))
def w_l_pull_4  : WS :=
  wSeq (wSetIx (wP (fV 0)) (wP (fC (.int 3))) (wP (fOp gMod (fCall gIntA (fCons (fOp gPlus (fOp gPlus (fOp gPlus (fOp gPow (fV 2) (fC (.int 3))) (fOp gTimes (fV 2) (fC (.int 40111)))) (fOp gTimes (fOp gIx (fV 0) (fC (.int 4))) (fC (.int 1299583)))) (fC (.int 61027))) (fNil))) (fC (.int 2147483579))))) (w_l_pull_5)
def w_l_pull_3  : WS :=
  wSeq (wAsg 2 (wP (fOp gIx (fV 0) (fC (.int 3))))) (w_l_pull_4)
def w_l_pull_2  : WS :=
  wSeq (wIf (wB (bV (fOp gGt (fOp gIx (fV 0) (fC (.int 2))) (fC (.int 0)))))
  (wSeq (wAsg 4 (wP (fOp gMod (fCall gIntA (fCons (fOp gIx (fV 0) (fC (.int 2))) (fNil))) (fV 1))))
  (wSeq (wSetIx (wP (fV 0)) (wP (fC (.int 2))) (wP (fOp gFdivW (fCall gIntA (fCons (fOp gIx (fV 0) (fC (.int 2))) (fNil))) (fV 1))))
  (wRet (wP (fV 4)))))
  (wNext)) (w_l_pull_3)
def w_l_pull_1  : WS :=
  wSeq (wIf (wB (bAnd (bV (fOp (gEqU false) (fOp gIx (fV 0) (fC (.int 2))) (fC (.int 0)))) (bV (fOp gLt (fOp gIx (fV 0) (fC (.int 1))) (fCall gLen (fCons (fOp gIx (fV 0) (fC (.int 0))) (fNil)))))))
  (wSeq (wAsg 3 (wP (fOp gIx (fOp gIx (fV 0) (fC (.int 0))) (fOp gIx (fV 0) (fC (.int 1))))))
  (wSeq (wSetIx (wP (fV 0)) (wP (fC (.int 1))) (wP (fOp gPlus (fOp gIx (fV 0) (fC (.int 1))) (fC (.int 1)))))
  (wSeq (wIf (wB (bV (fOp gGe (fV 3) (fOp gPow (fC (.int 10)) (fC (.int 18))))))
  (wSetIx (wP (fV 0)) (wP (fC (.int 2))) (wP (fV 3)))
  (wNext))
  (wSetIx (wP (fV 0)) (wP (fC (.int 3))) (wP (fOp gMod (fCall gIntA (fCons (fOp gPlus (fOp gPlus (fOp gTimes (fOp gIx (fV 0) (fC (.int 3))) (fC (.int 39901))) (fOp gTimes (fOp gMod (fCall gIntA (fCons (fV 3) (fNil))) (fC (.int 2147483497))) (fC (.int 40361)))) (fC (.int 73))) (fNil))) (fC (.int 2147483579))))))))
  (wNext)) (w_l_pull_2)
def w_l_pull_0  : WS :=
  wSeq (wSetIx (wP (fV 0)) (wP (fC (.int 4))) (wP (fOp gPlus (fOp gIx (fV 0) (fC (.int 4))) (fC (.int 1))))) (w_l_pull_1)
abbrev w_l_pull  : WS := w_l_pull_0
theorem b_l_pull {P : Program} {w0 : World} {K : PySem.W.Frag} {mg : Str → Option Value} {base : Heap} {ci : Ci} {f : Addr}  (T : Tc mg)  :
    Body P w0 K mg base ci N_l_pull "_law_pull" (defScope (topS 24)) f (0) (defBody (topS 24)) (w_l_pull ) := by
  intro cdv A outer s H E hr
  have ND : N_l_pull.Nodup := sc_l_pull.nd
  unfold w_l_pull w_l_pull_0 w_l_pull_1 w_l_pull_2 w_l_pull_3 w_l_pull_4 w_l_pull_5
  exact rss_cons (rs_setIx (re_p (rp_v 0)) (re_p (rp_int)) (re_p (rp_op o_plus (rp_ix (rp_v 0) (rp_int)) (rp_int))))
      (rss_cons (rs_if (rt_b (rb_w (rw_and (rb_cmp (o_eqU hr.units) (rp_ix (rp_v 0) (rp_int)) (rp_int) (nomark _)) (rw_and1 (rb_cmp o_lt (rp_ix (rp_v 0) (rp_int)) (rp_callB c_len (gl_of (by kernel_rfl)) T.f_len (by decide +kernel) (rps_cons (rp_ix (rp_v 0) (rp_int)) (rps_nil))) (nomark _))))))
      (rss_cons (rs_asg 3 ND (re_p (rp_ix (rp_ix (rp_v 0) (rp_int)) (rp_ix (rp_v 0) (rp_int)))))
      (rss_cons (rs_setIx (re_p (rp_v 0)) (re_p (rp_int)) (re_p (rp_op o_plus (rp_ix (rp_v 0) (rp_int)) (rp_int))))
      (rss_cons (rs_if (rt_b (rb_cmp o_ge (rp_v 3) (rp_op o_pow (rp_int) (rp_int)) (nomark _)))
      (rss_one (rs_setIx (re_p (rp_v 0)) (re_p (rp_int)) (re_p (rp_v 3))))
      (rss_nil))
      (rss_one (rs_setIx (re_p (rp_v 0)) (re_p (rp_int)) (re_p (rp_op o_mod (rp_callTy c_intA (gl_of (by kernel_rfl)) T.f_int (by decide +kernel) (rps_cons (rp_op o_plus (rp_op o_plus (rp_op o_times (rp_ix (rp_v 0) (rp_int)) (rp_int)) (rp_op o_times (rp_op o_mod (rp_callTy c_intA (gl_of (by kernel_rfl)) T.f_int (by decide +kernel) (rps_cons (rp_v 3) (rps_nil))) (rp_int)) (rp_int))) (rp_int)) (rps_nil))) (rp_int))))))))
      (rss_nil))
      (rss_cons (rs_if (rt_b (rb_cmp o_gt (rp_ix (rp_v 0) (rp_int)) (rp_int) (nomark _)))
      (rss_cons (rs_asg 4 ND (re_p (rp_op o_mod (rp_callTy c_intA (gl_of (by kernel_rfl)) T.f_int (by decide +kernel) (rps_cons (rp_ix (rp_v 0) (rp_int)) (rps_nil))) (rp_v 1))))
      (rss_cons (rs_setIx (re_p (rp_v 0)) (re_p (rp_int)) (re_p (rp_op o_fdivW (rp_callTy c_intA (gl_of (by kernel_rfl)) T.f_int (by decide +kernel) (rps_cons (rp_ix (rp_v 0) (rp_int)) (rps_nil))) (rp_v 1))))
      (rss_one (rs_ret (re_p (rp_v 4))))))
      (rss_nil))
      (rss_cons (rs_asg 2 ND (re_p (rp_ix (rp_v 0) (rp_int))))
      (rss_cons (rs_setIx (re_p (rp_v 0)) (re_p (rp_int)) (re_p (rp_op o_mod (rp_callTy c_intA (gl_of (by kernel_rfl)) T.f_int (by decide +kernel) (rps_cons (rp_op o_plus (rp_op o_plus (rp_op o_plus (rp_op o_pow (rp_v 2) (rp_int)) (rp_op o_times (rp_v 2) (rp_int))) (rp_op o_times (rp_ix (rp_v 0) (rp_int)) (rp_int))) (rp_int)) (rps_nil))) (rp_int))))
      (rss_one (rs_ret (re_p (rp_op o_mod (rp_callTy c_intA (gl_of (by kernel_rfl)) T.f_int (by decide +kernel) (rps_cons (rp_op o_plus (rp_op o_fdivW (rp_ix (rp_v 0) (rp_int)) (rp_int)) (rp_op o_times (rp_op o_mod (rp_callTy c_intA (gl_of (by kernel_rfl)) T.f_int (by decide +kernel) (rps_cons (rp_ix (rp_v 0) (rp_int)) (rps_nil))) (rp_int)) (rp_int))) (rps_nil))) (rp_v 1)))))))))
def N_l_pick : List Str := ["_law_bag_here", "_law_rows"]
theorem sc_l_pick : FnScope N_l_pick ["_law_bag_here", "_law_rows"] (defScope (topS 25)) := ⟨rfl, rfl, rfl, by decide +kernel, rfl, by decide +kernel, by decide +kernel⟩
def w_l_pick_0  : WS :=
  wRet (wOp gIx (wP (fV 1)) (wFnM [] fc_pull (wPs (fCons (fV 0) (fCons (fCall gLen (fCons (fV 1) (fNil))) (fNil))))))
abbrev w_l_pick  : WS := w_l_pick_0
theorem b_l_pick {P : Program} {w0 : World} {K : PySem.W.Frag} {mg : Str → Option Value} {base : Heap} {ci : Ci} {f : Addr}  (T : Tc mg) (C_l_pull : CallP P w0 K mg base ci (1) "_law_pull" [] (spOf K ci fc_pull)) :
    Body P w0 K mg base ci N_l_pick "_law_pick" (defScope (topS 25)) f (1) (defBody (topS 25)) (w_l_pick ) := by
  intro cdv A outer s H E hr
  have ND : N_l_pick.Nodup := sc_l_pick.nd
  unfold w_l_pick w_l_pick_0
  exact rss_one (rs_ret (re_ix (re_p (rp_v 1)) (re_callM C_l_pull (hr.mono (by omega)) (gl_of (by kernel_rfl)) (ra_p (rps_cons (rp_v 0) (rps_cons (rp_callB c_len (gl_of (by kernel_rfl)) T.f_len (by decide +kernel) (rps_cons (rp_v 1) (rps_nil))) (rps_nil)))))))
def N_l_same : List Str := ["_law_found", "_law_due", "_law_one", "_law_two"]
theorem sc_l_same : FnScope N_l_same ["_law_found", "_law_due"] (defScope (topS 26)) := ⟨rfl, rfl, rfl, by decide +kernel, rfl, by decide +kernel, by decide +kernel⟩
def w_l_same_4 (G_rec : PC) : WS :=
  wRet (wP (fAnd (fOp (gEqU false) (fIsi [.str] (fV 1)) (fIsi [.str] (fV 0))) (fOp (gEqU false) (fV 0) (fV 1))))
def w_l_same_3 (G_rec : PC) : WS :=
  wSeq (wIf (wB (bV (fOp (gEqU true) (fIsi [.int] (fV 1)) (fIsi [.int] (fV 0)))))
  (wRet (wP (fC (.bl false))))
  (wNext)) (w_l_same_4 G_rec)
def w_l_same_2 (G_rec : PC) : WS :=
  wSeq (wIf (wB (bV (fOp (gEqU true) (fIsi [.bool] (fV 1)) (fIsi [.bool] (fV 0)))))
  (wRet (wP (fC (.bl false))))
  (wNext)) (w_l_same_3 G_rec)
def w_l_same_1 (G_rec : PC) : WS :=
  wSeq (wIf (wB (bOr (bV (fOp (gIsN false) (fV 1) (fC .non))) (bV (fOp (gIsN false) (fV 0) (fC .non)))))
  (wRet (wP (fAnd (fOp (gIsN false) (fV 1) (fC .non)) (fOp (gIsN false) (fV 0) (fC .non)))))
  (wNext)) (w_l_same_2 G_rec)
def w_l_same_0 (G_rec : PC) : WS :=
  wSeq (wIf (wB (bV (fIsi [.list, .tuple] (fV 1))))
  (wSeq (wIf (wB (bV (fOp (gEqU true) (fIsi [.list] (fV 0)) (fIsi [.list] (fV 1)))))
  (wRet (wP (fC (.bl false))))
  (wNext))
  (wSeq (wIf (wB (bV (fOp (gEqU true) (fIsi [.tuple] (fV 0)) (fIsi [.tuple] (fV 1)))))
  (wRet (wP (fC (.bl false))))
  (wNext))
  (wRet (wP (fAnd (fOp (gEqU false) (fCall gLen (fCons (fV 0) (fNil))) (fCall gLen (fCons (fV 1) (fNil)))) (fCall (gBools fun l => l.all id) (fCons (fComp (iZQ (fV 0) (fV 1)) (tgT [2, 3]) [2, 3] (fun _ _ => some true) (fFn [] G_rec (fCons (fV 2) (fCons (fV 3) (fNil))))) (fNil))))))))
  (wNext)) (w_l_same_1 G_rec)
abbrev w_l_same (G_rec : PC) : WS := w_l_same_0 G_rec
theorem b_l_same {P : Program} {w0 : World} {K : PySem.W.Frag} {mg : Str → Option Value} {base : Heap} {ci : Ci} {f : Addr} (G_rec : PC) (T : Tc mg) (C_l_same : CallP P w0 K mg base ci (n) "_law_same" [] (spP K ci G_rec)) :
    Body P w0 K mg base ci N_l_same "_law_same" (defScope (topS 26)) f (n) (defBody (topS 26)) (w_l_same G_rec) := by
  intro cdv A outer s H E hr
  have ND : N_l_same.Nodup := sc_l_same.nd
  unfold w_l_same w_l_same_0 w_l_same_1 w_l_same_2 w_l_same_3 w_l_same_4
  exact rss_cons (rs_if (rt_b (rb_v (rp_isi2 .list .tuple (gl_of (by kernel_rfl)) T.f_isinstance (gl_of (by kernel_rfl)) T.f_list (by decide +kernel) (gl_of (by kernel_rfl)) T.f_tuple (by decide +kernel) (rp_v 1))))
      (rss_cons (rs_if (rt_b (rb_cmp (o_neU hr.units) (rp_isi .list (gl_of (by kernel_rfl)) T.f_isinstance (gl_of (by kernel_rfl)) T.f_list (by decide +kernel) (rp_v 0)) (rp_isi .list (gl_of (by kernel_rfl)) T.f_isinstance (gl_of (by kernel_rfl)) T.f_list (by decide +kernel) (rp_v 1)) (nomark _)))
      (rss_one (rs_ret (re_p (rp_bl))))
      (rss_nil))
      (rss_cons (rs_if (rt_b (rb_cmp (o_neU hr.units) (rp_isi .tuple (gl_of (by kernel_rfl)) T.f_isinstance (gl_of (by kernel_rfl)) T.f_tuple (by decide +kernel) (rp_v 0)) (rp_isi .tuple (gl_of (by kernel_rfl)) T.f_isinstance (gl_of (by kernel_rfl)) T.f_tuple (by decide +kernel) (rp_v 1)) (nomark _)))
      (rss_one (rs_ret (re_p (rp_bl))))
      (rss_nil))
      (rss_one (rs_ret (re_p (rp_and (rp_cmp (o_eqU hr.units) (rp_callB c_len (gl_of (by kernel_rfl)) T.f_len (by decide +kernel) (rps_cons (rp_v 0) (rps_nil))) (rp_callB c_len (gl_of (by kernel_rfl)) T.f_len (by decide +kernel) (rps_cons (rp_v 1) (rps_nil))) (nomark _)) (rp_one (rp_callB (c_all rfl) (gl_of (by kernel_rfl)) T.f_all (by decide +kernel) (rps_cons (rp_lcv [("_law_one", 2), ("_law_two", 3)] rfl rfl ND (ri_zipQ (gl_of (by kernel_rfl)) T.f_zip (rp_v 0) (rp_v 1)) (by kernel_rfl) (fun _ _ _ _ _ => rg_t rfl (rgs_n 2 ND (by rfl) (loc_of (by kernel_rfl)) (rgs_n 3 ND (by rfl) (loc_of (by kernel_rfl)) (rgs_nil)))) (fun _ _ _ _ _ => rc_nil) (fun _ _ _ _ _ => rp_call C_l_same (hr.mono (by omega)) (gl_of (by kernel_rfl)) (rps_cons (rp_v 2) (rps_cons (rp_v 3) (rps_nil))))) (rps_nil))))))))))
      (rss_nil))
      (rss_cons (rs_if (rt_b (rb_w (rw_or (rb_cmp o_is (rp_v 1) (rp_non) (nomark _)) (rw_or1 (rb_cmp o_is (rp_v 0) (rp_non) (nomark _))))))
      (rss_one (rs_ret (re_p (rp_and (rp_cmp o_is (rp_v 1) (rp_non) (nomark _)) (rp_one (rp_cmp o_is (rp_v 0) (rp_non) (nomark _)))))))
      (rss_nil))
      (rss_cons (rs_if (rt_b (rb_cmp (o_neU hr.units) (rp_isi .bool (gl_of (by kernel_rfl)) T.f_isinstance (gl_of (by kernel_rfl)) T.f_bool (by decide +kernel) (rp_v 1)) (rp_isi .bool (gl_of (by kernel_rfl)) T.f_isinstance (gl_of (by kernel_rfl)) T.f_bool (by decide +kernel) (rp_v 0)) (nomark _)))
      (rss_one (rs_ret (re_p (rp_bl))))
      (rss_nil))
      (rss_cons (rs_if (rt_b (rb_cmp (o_neU hr.units) (rp_isi .int (gl_of (by kernel_rfl)) T.f_isinstance (gl_of (by kernel_rfl)) T.f_int (by decide +kernel) (rp_v 1)) (rp_isi .int (gl_of (by kernel_rfl)) T.f_isinstance (gl_of (by kernel_rfl)) T.f_int (by decide +kernel) (rp_v 0)) (nomark _)))
      (rss_one (rs_ret (re_p (rp_bl))))
      (rss_nil))
      (rss_one (rs_ret (re_p (rp_and (rp_cmp (o_eqU hr.units) (rp_isi .str (gl_of (by kernel_rfl)) T.f_isinstance (gl_of (by kernel_rfl)) T.f_str (by decide +kernel) (rp_v 1)) (rp_isi .str (gl_of (by kernel_rfl)) T.f_isinstance (gl_of (by kernel_rfl)) T.f_str (by decide +kernel) (rp_v 0)) (nomark _)) (rp_one (rp_cmp (o_eqU hr.units) (rp_v 0) (rp_v 1) (nomark _))))))))))
def N_l_field : List Str := ["_law_e"]
theorem sc_l_field : FnScope N_l_field ["_law_e"] (defScope (topS 27)) := ⟨rfl, rfl, rfl, by decide +kernel, rfl, by decide +kernel, by decide +kernel⟩
def w_l_field_4  : WS :=
  wRet (wP (fIf (bV (fOp (gEqU false) (fXat eCode "code" (fV 0)) (fC (.str "InvalidPage")))) (fTup (fCons (fXat eCode "line" (fV 0)) (fNil))) (fTup (fCons (fXat eCode "given" (fV 0)) (fNil)))))
def w_l_field_3  : WS :=
  wSeq (wIf (wB (bV (fOp (gEqU false) (fXat eCode "code" (fV 0)) (fC (.str "NothingLeft")))))
  (wRet (wP (fTup (fNil))))
  (wNext)) (w_l_field_4)
def w_l_field_2  : WS :=
  wSeq (wIf (wB (bV (fOp (gInU false) (fXat eCode "code" (fV 0)) (fTup (fCons (fC (.str "TooMany")) (fCons (fC (.str "Full")) (fNil)))))))
  (wRet (wP (fIf (bV (fOp (gEqU false) (fXat eCode "code" (fV 0)) (fC (.str "TooMany")))) (fTup (fCons (fXat eCode "most" (fV 0)) (fNil))) (fTup (fCons (fXat eCode "limit" (fV 0)) (fNil))))))
  (wNext)) (w_l_field_3)
def w_l_field_1  : WS :=
  wSeq (wIf (wB (bV (fOp (gInU false) (fXat eCode "code" (fV 0)) (fTup (fCons (fC (.str "DuplicateName")) (fCons (fC (.str "NotAThing")) (fCons (fC (.str "UnknownName")) (fNil))))))))
  (wRet (wP (fTup (fCons (fXat eCode "name" (fV 0)) (fNil)))))
  (wNext)) (w_l_field_2)
def w_l_field_0  : WS :=
  wSeq (wIf (wB (bV (fOp (gInU false) (fXat eCode "code" (fV 0)) (fTup (fCons (fC (.str "InvalidSpan")) (fCons (fC (.str "InvalidSeat")) (fCons (fC (.str "InvalidRecord")) (fCons (fC (.str "Clash")) (fCons (fC (.str "Contradiction")) (fCons (fC (.str "InvalidCommand")) (fNil)))))))))))
  (wRet (wP (fTup (fCons (fXat eCode "at" (fV 0)) (fNil)))))
  (wNext)) (w_l_field_1)
abbrev w_l_field  : WS := w_l_field_0
theorem b_l_field {P : Program} {w0 : World} {K : PySem.W.Frag} {mg : Str → Option Value} {base : Heap} {ci : Ci} {f : Addr}  (T : Tc mg) (XA_code : ∀ c ∈ (eCode : List Nat), ExcC K (ci c).1 ∧ PySem.W.findIn K (.ref (ci c).1) "code" = some none) (XA_at : ∀ c ∈ (eCode : List Nat), ExcC K (ci c).1 ∧ PySem.W.findIn K (.ref (ci c).1) "at" = some none) (XA_name : ∀ c ∈ (eCode : List Nat), ExcC K (ci c).1 ∧ PySem.W.findIn K (.ref (ci c).1) "name" = some none) (XA_most : ∀ c ∈ (eCode : List Nat), ExcC K (ci c).1 ∧ PySem.W.findIn K (.ref (ci c).1) "most" = some none) (XA_limit : ∀ c ∈ (eCode : List Nat), ExcC K (ci c).1 ∧ PySem.W.findIn K (.ref (ci c).1) "limit" = some none) (XA_line : ∀ c ∈ (eCode : List Nat), ExcC K (ci c).1 ∧ PySem.W.findIn K (.ref (ci c).1) "line" = some none) (XA_given : ∀ c ∈ (eCode : List Nat), ExcC K (ci c).1 ∧ PySem.W.findIn K (.ref (ci c).1) "given" = some none) :
    Body P w0 K mg base ci N_l_field "_law_field" (defScope (topS 27)) f (0) (defBody (topS 27)) (w_l_field ) := by
  intro cdv A outer s H E hr
  have ND : N_l_field.Nodup := sc_l_field.nd
  unfold w_l_field w_l_field_0 w_l_field_1 w_l_field_2 w_l_field_3 w_l_field_4
  exact rss_cons (rs_if (rt_b (rb_cmp o_inU (rp_xat XA_code (rp_v 0)) (rp_tup (rps_cons (rp_str) (rps_cons (rp_str) (rps_cons (rp_str) (rps_cons (rp_str) (rps_cons (rp_str) (rps_cons (rp_str) (rps_nil)))))))) (by rfl)))
      (rss_one (rs_ret (re_p (rp_tup (rps_cons (rp_xat XA_at (rp_v 0)) (rps_nil))))))
      (rss_nil))
      (rss_cons (rs_if (rt_b (rb_cmp o_inU (rp_xat XA_code (rp_v 0)) (rp_tup (rps_cons (rp_str) (rps_cons (rp_str) (rps_cons (rp_str) (rps_nil))))) (by rfl)))
      (rss_one (rs_ret (re_p (rp_tup (rps_cons (rp_xat XA_name (rp_v 0)) (rps_nil))))))
      (rss_nil))
      (rss_cons (rs_if (rt_b (rb_cmp o_inU (rp_xat XA_code (rp_v 0)) (rp_tup (rps_cons (rp_str) (rps_cons (rp_str) (rps_nil)))) (by rfl)))
      (rss_one (rs_ret (re_p (rp_ife (rb_cmp (o_eqU hr.units) (rp_xat XA_code (rp_v 0)) (rp_str) (nomark _)) (rp_tup (rps_cons (rp_xat XA_most (rp_v 0)) (rps_nil))) (rp_tup (rps_cons (rp_xat XA_limit (rp_v 0)) (rps_nil)))))))
      (rss_nil))
      (rss_cons (rs_if (rt_b (rb_cmp (o_eqU hr.units) (rp_xat XA_code (rp_v 0)) (rp_str) (nomark _)))
      (rss_one (rs_ret (re_p (rp_tup (rps_nil)))))
      (rss_nil))
      (rss_one (rs_ret (re_p (rp_ife (rb_cmp (o_eqU hr.units) (rp_xat XA_code (rp_v 0)) (rp_str) (nomark _)) (rp_tup (rps_cons (rp_xat XA_line (rp_v 0)) (rps_nil))) (rp_tup (rps_cons (rp_xat XA_given (rp_v 0)) (rps_nil))))))))))
def N_l_named : List Str := ["_law_one", "_law_found"]
theorem sc_l_named : FnScope N_l_named ["_law_one"] (defScope (topS 28)) := ⟨rfl, rfl, rfl, by decide +kernel, rfl, by decide +kernel, by decide +kernel⟩
def w_l_named_4  : WS :=
  wRet (wP (fOp gPlus (fV 1) (fLst (fCons (fErrV 17 "InvalidPage" "line" (fV 0)) (fCons (fErrV 18 "UnknownName" "name" (fV 0)) (fNil))))))
def w_l_named_3  : WS :=
  wSeq (wAsg 1 (wP (fOp gPlus (fV 1) (fLst (fCons (fErrV 13 "Contradiction" "at" (fV 0)) (fCons (fErrV 14 "InvalidRule" "given" (fV 0)) (fCons (fErrV 15 "InvalidCommand" "at" (fV 0)) (fCons (fErrV 16 "InvalidLimit" "given" (fV 0)) (fNil))))))))) (w_l_named_4)
def w_l_named_2  : WS :=
  wSeq (wAsg 1 (wP (fOp gPlus (fV 1) (fLst (fCons (fErrV 9 "DuplicateNumber" "given" (fV 0)) (fCons (fErrV 10 "TooMany" "most" (fV 0)) (fCons (fErrV 11 "Full" "limit" (fV 0)) (fCons (fErrV 12 "NotAThing" "name" (fV 0)) (fNil))))))))) (w_l_named_3)
def w_l_named_1  : WS :=
  wSeq (wAsg 1 (wP (fOp gPlus (fV 1) (fLst (fCons (fErrV 5 "InvalidSeat" "at" (fV 0)) (fCons (fErrV 6 "InvalidRecord" "at" (fV 0)) (fCons (fErrV 7 "Clash" "at" (fV 0)) (fCons (fErrV 8 "DuplicateName" "name" (fV 0)) (fNil))))))))) (w_l_named_2)
def w_l_named_0  : WS :=
  wSeq (wAsg 1 (wP (fLst (fCons (fErrV 1 "InvalidNumber" "given" (fV 0)) (fCons (fErrV 2 "InvalidName" "given" (fV 0)) (fCons (fErrV 3 "InvalidSpan" "at" (fV 0)) (fCons (fErrV 4 "InvalidText" "given" (fV 0)) (fNil)))))))) (w_l_named_1)
abbrev w_l_named  : WS := w_l_named_0
theorem b_l_named {P : Program} {w0 : World} {K : PySem.W.Frag} {mg : Str → Option Value} {base : Heap} {ci : Ci} {f : Addr}  (T : Tc mg) (EV0_InvalidNumber : ErrV P w0 K mg base ci 1 1 "InvalidNumber" 0 ["given"] (spE (ci 1).1 "InvalidNumber" "given")) (EV0_InvalidName : ErrV P w0 K mg base ci 1 2 "InvalidName" 0 ["given"] (spE (ci 2).1 "InvalidName" "given")) (EV0_InvalidSpan : ErrV P w0 K mg base ci 1 3 "InvalidSpan" 0 ["at"] (spE (ci 3).1 "InvalidSpan" "at")) (EV0_InvalidText : ErrV P w0 K mg base ci 1 4 "InvalidText" 0 ["given"] (spE (ci 4).1 "InvalidText" "given")) (EV0_InvalidSeat : ErrV P w0 K mg base ci 1 5 "InvalidSeat" 0 ["at"] (spE (ci 5).1 "InvalidSeat" "at")) (EV0_InvalidRecord : ErrV P w0 K mg base ci 1 6 "InvalidRecord" 0 ["at"] (spE (ci 6).1 "InvalidRecord" "at")) (EV0_Clash : ErrV P w0 K mg base ci 1 7 "Clash" 0 ["at"] (spE (ci 7).1 "Clash" "at")) (EV0_DuplicateName : ErrV P w0 K mg base ci 1 8 "DuplicateName" 0 ["name"] (spE (ci 8).1 "DuplicateName" "name")) (EV0_DuplicateNumber : ErrV P w0 K mg base ci 1 9 "DuplicateNumber" 0 ["given"] (spE (ci 9).1 "DuplicateNumber" "given")) (EV0_TooMany : ErrV P w0 K mg base ci 1 10 "TooMany" 0 ["most"] (spE (ci 10).1 "TooMany" "most")) (EV0_Full : ErrV P w0 K mg base ci 1 11 "Full" 0 ["limit"] (spE (ci 11).1 "Full" "limit")) (EV0_NotAThing : ErrV P w0 K mg base ci 1 12 "NotAThing" 0 ["name"] (spE (ci 12).1 "NotAThing" "name")) (EV0_Contradiction : ErrV P w0 K mg base ci 1 13 "Contradiction" 0 ["at"] (spE (ci 13).1 "Contradiction" "at")) (EV0_InvalidRule : ErrV P w0 K mg base ci 1 14 "InvalidRule" 0 ["given"] (spE (ci 14).1 "InvalidRule" "given")) (EV0_InvalidCommand : ErrV P w0 K mg base ci 1 15 "InvalidCommand" 0 ["at"] (spE (ci 15).1 "InvalidCommand" "at")) (EV0_InvalidLimit : ErrV P w0 K mg base ci 1 16 "InvalidLimit" 0 ["given"] (spE (ci 16).1 "InvalidLimit" "given")) (EV0_InvalidPage : ErrV P w0 K mg base ci 1 17 "InvalidPage" 0 ["line"] (spE (ci 17).1 "InvalidPage" "line")) (EV0_UnknownName : ErrV P w0 K mg base ci 1 18 "UnknownName" 0 ["name"] (spE (ci 18).1 "UnknownName" "name")) :
    Body P w0 K mg base ci N_l_named "_law_named" (defScope (topS 28)) f (3) (defBody (topS 28)) (w_l_named ) := by
  intro cdv A outer s H E hr
  have ND : N_l_named.Nodup := sc_l_named.nd
  unfold w_l_named w_l_named_0 w_l_named_1 w_l_named_2 w_l_named_3 w_l_named_4
  exact rss_cons (rs_asg 1 ND (re_p (rp_lst (rps_cons (rp_errV0 EV0_InvalidNumber (hr.mono (by omega)) (gl_of (by kernel_rfl)) (rp_v 0)) (rps_cons (rp_errV0 EV0_InvalidName (hr.mono (by omega)) (gl_of (by kernel_rfl)) (rp_v 0)) (rps_cons (rp_errV0 EV0_InvalidSpan (hr.mono (by omega)) (gl_of (by kernel_rfl)) (rp_v 0)) (rps_cons (rp_errV0 EV0_InvalidText (hr.mono (by omega)) (gl_of (by kernel_rfl)) (rp_v 0)) (rps_nil))))))))
      (rss_cons (rs_asg 1 ND (re_p (rp_op o_plus (rp_v 1) (rp_lst (rps_cons (rp_errV0 EV0_InvalidSeat (hr.mono (by omega)) (gl_of (by kernel_rfl)) (rp_v 0)) (rps_cons (rp_errV0 EV0_InvalidRecord (hr.mono (by omega)) (gl_of (by kernel_rfl)) (rp_v 0)) (rps_cons (rp_errV0 EV0_Clash (hr.mono (by omega)) (gl_of (by kernel_rfl)) (rp_v 0)) (rps_cons (rp_errV0 EV0_DuplicateName (hr.mono (by omega)) (gl_of (by kernel_rfl)) (rp_v 0)) (rps_nil)))))))))
      (rss_cons (rs_asg 1 ND (re_p (rp_op o_plus (rp_v 1) (rp_lst (rps_cons (rp_errV0 EV0_DuplicateNumber (hr.mono (by omega)) (gl_of (by kernel_rfl)) (rp_v 0)) (rps_cons (rp_errV0 EV0_TooMany (hr.mono (by omega)) (gl_of (by kernel_rfl)) (rp_v 0)) (rps_cons (rp_errV0 EV0_Full (hr.mono (by omega)) (gl_of (by kernel_rfl)) (rp_v 0)) (rps_cons (rp_errV0 EV0_NotAThing (hr.mono (by omega)) (gl_of (by kernel_rfl)) (rp_v 0)) (rps_nil)))))))))
      (rss_cons (rs_asg 1 ND (re_p (rp_op o_plus (rp_v 1) (rp_lst (rps_cons (rp_errV0 EV0_Contradiction (hr.mono (by omega)) (gl_of (by kernel_rfl)) (rp_v 0)) (rps_cons (rp_errV0 EV0_InvalidRule (hr.mono (by omega)) (gl_of (by kernel_rfl)) (rp_v 0)) (rps_cons (rp_errV0 EV0_InvalidCommand (hr.mono (by omega)) (gl_of (by kernel_rfl)) (rp_v 0)) (rps_cons (rp_errV0 EV0_InvalidLimit (hr.mono (by omega)) (gl_of (by kernel_rfl)) (rp_v 0)) (rps_nil)))))))))
      (rss_one (rs_ret (re_p (rp_op o_plus (rp_v 1) (rp_lst (rps_cons (rp_errV0 EV0_InvalidPage (hr.mono (by omega)) (gl_of (by kernel_rfl)) (rp_v 0)) (rps_cons (rp_errV0 EV0_UnknownName (hr.mono (by omega)) (gl_of (by kernel_rfl)) (rp_v 0)) (rps_nil)))))))))))
def N_l_bare : List Str := ["_law_one", "_law_found"]
theorem sc_l_bare : FnScope N_l_bare ["_law_one"] (defScope (topS 29)) := ⟨rfl, rfl, rfl, by decide +kernel, rfl, by decide +kernel, by decide +kernel⟩
def w_l_bare_3  : WS :=
  wRet (wP (fOp gPlus (fV 1) (fLst (fCons (fErrV 17 "InvalidPage" "line" (fV 0)) (fCons (fErrV 18 "UnknownName" "name" (fV 0)) (fNil))))))
def w_l_bare_2  : WS :=
  wSeq (wAsg 1 (wP (fOp gPlus (fV 1) (fLst (fCons (fErrV 12 "NotAThing" "name" (fV 0)) (fCons (fErrV 13 "Contradiction" "at" (fV 0)) (fCons (fErrV 14 "InvalidRule" "given" (fV 0)) (fCons (fErrV 15 "InvalidCommand" "at" (fV 0)) (fCons (fErrV 16 "InvalidLimit" "given" (fV 0)) (fNil)))))))))) (w_l_bare_3)
def w_l_bare_1  : WS :=
  wSeq (wAsg 1 (wP (fOp gPlus (fV 1) (fLst (fCons (fErrV 6 "InvalidRecord" "at" (fV 0)) (fCons (fErrV 7 "Clash" "at" (fV 0)) (fCons (fErrV 8 "DuplicateName" "name" (fV 0)) (fCons (fErrV 9 "DuplicateNumber" "given" (fV 0)) (fCons (fErrV 10 "TooMany" "most" (fV 0)) (fCons (fErrV 11 "Full" "limit" (fV 0)) (fNil))))))))))) (w_l_bare_2)
def w_l_bare_0  : WS :=
  wSeq (wAsg 1 (wP (fLst (fCons (fErrV 1 "InvalidNumber" "given" (fV 0)) (fCons (fErrV 2 "InvalidName" "given" (fV 0)) (fCons (fErrV 3 "InvalidSpan" "at" (fV 0)) (fCons (fErrV 4 "InvalidText" "given" (fV 0)) (fCons (fErrV 5 "InvalidSeat" "at" (fV 0)) (fNil))))))))) (w_l_bare_1)
abbrev w_l_bare  : WS := w_l_bare_0
theorem b_l_bare {P : Program} {w0 : World} {K : PySem.W.Frag} {mg : Str → Option Value} {base : Heap} {ci : Ci} {f : Addr}  (T : Tc mg) (EV1_InvalidNumber : ErrV P w0 K mg base ci 1 1 "InvalidNumber" 1 [] (spE (ci 1).1 "InvalidNumber" "given")) (EV1_InvalidName : ErrV P w0 K mg base ci 1 2 "InvalidName" 1 [] (spE (ci 2).1 "InvalidName" "given")) (EV1_InvalidSpan : ErrV P w0 K mg base ci 1 3 "InvalidSpan" 1 [] (spE (ci 3).1 "InvalidSpan" "at")) (EV1_InvalidText : ErrV P w0 K mg base ci 1 4 "InvalidText" 1 [] (spE (ci 4).1 "InvalidText" "given")) (EV1_InvalidSeat : ErrV P w0 K mg base ci 1 5 "InvalidSeat" 1 [] (spE (ci 5).1 "InvalidSeat" "at")) (EV1_InvalidRecord : ErrV P w0 K mg base ci 1 6 "InvalidRecord" 1 [] (spE (ci 6).1 "InvalidRecord" "at")) (EV1_Clash : ErrV P w0 K mg base ci 1 7 "Clash" 1 [] (spE (ci 7).1 "Clash" "at")) (EV1_DuplicateName : ErrV P w0 K mg base ci 1 8 "DuplicateName" 1 [] (spE (ci 8).1 "DuplicateName" "name")) (EV1_DuplicateNumber : ErrV P w0 K mg base ci 1 9 "DuplicateNumber" 1 [] (spE (ci 9).1 "DuplicateNumber" "given")) (EV1_TooMany : ErrV P w0 K mg base ci 1 10 "TooMany" 1 [] (spE (ci 10).1 "TooMany" "most")) (EV1_Full : ErrV P w0 K mg base ci 1 11 "Full" 1 [] (spE (ci 11).1 "Full" "limit")) (EV1_NotAThing : ErrV P w0 K mg base ci 1 12 "NotAThing" 1 [] (spE (ci 12).1 "NotAThing" "name")) (EV1_Contradiction : ErrV P w0 K mg base ci 1 13 "Contradiction" 1 [] (spE (ci 13).1 "Contradiction" "at")) (EV1_InvalidRule : ErrV P w0 K mg base ci 1 14 "InvalidRule" 1 [] (spE (ci 14).1 "InvalidRule" "given")) (EV1_InvalidCommand : ErrV P w0 K mg base ci 1 15 "InvalidCommand" 1 [] (spE (ci 15).1 "InvalidCommand" "at")) (EV1_InvalidLimit : ErrV P w0 K mg base ci 1 16 "InvalidLimit" 1 [] (spE (ci 16).1 "InvalidLimit" "given")) (EV1_InvalidPage : ErrV P w0 K mg base ci 1 17 "InvalidPage" 1 [] (spE (ci 17).1 "InvalidPage" "line")) (EV1_UnknownName : ErrV P w0 K mg base ci 1 18 "UnknownName" 1 [] (spE (ci 18).1 "UnknownName" "name")) :
    Body P w0 K mg base ci N_l_bare "_law_bare" (defScope (topS 29)) f (3) (defBody (topS 29)) (w_l_bare ) := by
  intro cdv A outer s H E hr
  have ND : N_l_bare.Nodup := sc_l_bare.nd
  unfold w_l_bare w_l_bare_0 w_l_bare_1 w_l_bare_2 w_l_bare_3
  exact rss_cons (rs_asg 1 ND (re_p (rp_lst (rps_cons (rp_errV1 EV1_InvalidNumber (hr.mono (by omega)) (gl_of (by kernel_rfl)) (rp_v 0)) (rps_cons (rp_errV1 EV1_InvalidName (hr.mono (by omega)) (gl_of (by kernel_rfl)) (rp_v 0)) (rps_cons (rp_errV1 EV1_InvalidSpan (hr.mono (by omega)) (gl_of (by kernel_rfl)) (rp_v 0)) (rps_cons (rp_errV1 EV1_InvalidText (hr.mono (by omega)) (gl_of (by kernel_rfl)) (rp_v 0)) (rps_cons (rp_errV1 EV1_InvalidSeat (hr.mono (by omega)) (gl_of (by kernel_rfl)) (rp_v 0)) (rps_nil)))))))))
      (rss_cons (rs_asg 1 ND (re_p (rp_op o_plus (rp_v 1) (rp_lst (rps_cons (rp_errV1 EV1_InvalidRecord (hr.mono (by omega)) (gl_of (by kernel_rfl)) (rp_v 0)) (rps_cons (rp_errV1 EV1_Clash (hr.mono (by omega)) (gl_of (by kernel_rfl)) (rp_v 0)) (rps_cons (rp_errV1 EV1_DuplicateName (hr.mono (by omega)) (gl_of (by kernel_rfl)) (rp_v 0)) (rps_cons (rp_errV1 EV1_DuplicateNumber (hr.mono (by omega)) (gl_of (by kernel_rfl)) (rp_v 0)) (rps_cons (rp_errV1 EV1_TooMany (hr.mono (by omega)) (gl_of (by kernel_rfl)) (rp_v 0)) (rps_cons (rp_errV1 EV1_Full (hr.mono (by omega)) (gl_of (by kernel_rfl)) (rp_v 0)) (rps_nil)))))))))))
      (rss_cons (rs_asg 1 ND (re_p (rp_op o_plus (rp_v 1) (rp_lst (rps_cons (rp_errV1 EV1_NotAThing (hr.mono (by omega)) (gl_of (by kernel_rfl)) (rp_v 0)) (rps_cons (rp_errV1 EV1_Contradiction (hr.mono (by omega)) (gl_of (by kernel_rfl)) (rp_v 0)) (rps_cons (rp_errV1 EV1_InvalidRule (hr.mono (by omega)) (gl_of (by kernel_rfl)) (rp_v 0)) (rps_cons (rp_errV1 EV1_InvalidCommand (hr.mono (by omega)) (gl_of (by kernel_rfl)) (rp_v 0)) (rps_cons (rp_errV1 EV1_InvalidLimit (hr.mono (by omega)) (gl_of (by kernel_rfl)) (rp_v 0)) (rps_nil))))))))))
      (rss_one (rs_ret (re_p (rp_op o_plus (rp_v 1) (rp_lst (rps_cons (rp_errV1 EV1_InvalidPage (hr.mono (by omega)) (gl_of (by kernel_rfl)) (rp_v 0)) (rps_cons (rp_errV1 EV1_UnknownName (hr.mono (by omega)) (gl_of (by kernel_rfl)) (rp_v 0)) (rps_nil))))))))))
def N_l_classes_of : List Str := ["_law_e", "_law_found", "_law_told"]
theorem sc_l_classes_of : FnScope N_l_classes_of ["_law_e"] (defScope (topS 30)) := ⟨rfl, rfl, rfl, by decide +kernel, rfl, by decide +kernel, by decide +kernel⟩
def w_l_classes_of_5  : WS :=
  wRet (wP (fCall gLen (fCons (fComp (iL (fOp gPlus (fV 1) (fLst (fCons (fXis eAll [17] (fV 0)) (fCons (fXis eAll [18] (fV 0)) (fNil)))))) (tgN 2) [2] (bV (fV 2)) (fV 2)) (fNil))))
def w_l_classes_of_4  : WS :=
  wSeq (wAsg 1 (wP (fOp gPlus (fV 1) (fLst (fCons (fXis eAll [14] (fV 0)) (fCons (fXis eAll [15] (fV 0)) (fCons (fXis eAll [16] (fV 0)) (fNil)))))))) (w_l_classes_of_5)
def w_l_classes_of_3  : WS :=
  wSeq (wAsg 1 (wP (fOp gPlus (fV 1) (fLst (fCons (fXis eAll [10] (fV 0)) (fCons (fXis eAll [11] (fV 0)) (fCons (fXis eAll [12] (fV 0)) (fCons (fXis eAll [13] (fV 0)) (fNil))))))))) (w_l_classes_of_4)
def w_l_classes_of_2  : WS :=
  wSeq (wAsg 1 (wP (fOp gPlus (fV 1) (fLst (fCons (fXis eAll [7] (fV 0)) (fCons (fXis eAll [8] (fV 0)) (fCons (fXis eAll [9] (fV 0)) (fNil)))))))) (w_l_classes_of_3)
def w_l_classes_of_1  : WS :=
  wSeq (wAsg 1 (wP (fOp gPlus (fV 1) (fLst (fCons (fXis eAll [4] (fV 0)) (fCons (fXis eAll [5] (fV 0)) (fCons (fXis eAll [6] (fV 0)) (fNil)))))))) (w_l_classes_of_2)
def w_l_classes_of_0  : WS :=
  wSeq (wAsg 1 (wP (fLst (fCons (fXis eAll [1] (fV 0)) (fCons (fXis eAll [2] (fV 0)) (fCons (fXis eAll [3] (fV 0)) (fNil))))))) (w_l_classes_of_1)
abbrev w_l_classes_of  : WS := w_l_classes_of_0
theorem b_l_classes_of {P : Program} {w0 : World} {K : PySem.W.Frag} {mg : Str → Option Value} {base : Heap} {ci : Ci} {f : Addr}  (T : Tc mg) (XI_InvalidNumber : ∀ c ∈ (eAll : List Nat), ExcC K (ci c).1 ∧ PySem.W.kitOne K (.ref (ci c).1) (.ref (ci 1).1) = some (([1] : List Nat).contains c)) (gm_InvalidNumber : mg "InvalidNumber" = some (.ref (ci 1).1)) (XI_InvalidName : ∀ c ∈ (eAll : List Nat), ExcC K (ci c).1 ∧ PySem.W.kitOne K (.ref (ci c).1) (.ref (ci 2).1) = some (([2] : List Nat).contains c)) (gm_InvalidName : mg "InvalidName" = some (.ref (ci 2).1)) (XI_InvalidSpan : ∀ c ∈ (eAll : List Nat), ExcC K (ci c).1 ∧ PySem.W.kitOne K (.ref (ci c).1) (.ref (ci 3).1) = some (([3] : List Nat).contains c)) (gm_InvalidSpan : mg "InvalidSpan" = some (.ref (ci 3).1)) (XI_InvalidText : ∀ c ∈ (eAll : List Nat), ExcC K (ci c).1 ∧ PySem.W.kitOne K (.ref (ci c).1) (.ref (ci 4).1) = some (([4] : List Nat).contains c)) (gm_InvalidText : mg "InvalidText" = some (.ref (ci 4).1)) (XI_InvalidSeat : ∀ c ∈ (eAll : List Nat), ExcC K (ci c).1 ∧ PySem.W.kitOne K (.ref (ci c).1) (.ref (ci 5).1) = some (([5] : List Nat).contains c)) (gm_InvalidSeat : mg "InvalidSeat" = some (.ref (ci 5).1)) (XI_InvalidRecord : ∀ c ∈ (eAll : List Nat), ExcC K (ci c).1 ∧ PySem.W.kitOne K (.ref (ci c).1) (.ref (ci 6).1) = some (([6] : List Nat).contains c)) (gm_InvalidRecord : mg "InvalidRecord" = some (.ref (ci 6).1)) (XI_Clash : ∀ c ∈ (eAll : List Nat), ExcC K (ci c).1 ∧ PySem.W.kitOne K (.ref (ci c).1) (.ref (ci 7).1) = some (([7] : List Nat).contains c)) (gm_Clash : mg "Clash" = some (.ref (ci 7).1)) (XI_DuplicateName : ∀ c ∈ (eAll : List Nat), ExcC K (ci c).1 ∧ PySem.W.kitOne K (.ref (ci c).1) (.ref (ci 8).1) = some (([8] : List Nat).contains c)) (gm_DuplicateName : mg "DuplicateName" = some (.ref (ci 8).1)) (XI_DuplicateNumber : ∀ c ∈ (eAll : List Nat), ExcC K (ci c).1 ∧ PySem.W.kitOne K (.ref (ci c).1) (.ref (ci 9).1) = some (([9] : List Nat).contains c)) (gm_DuplicateNumber : mg "DuplicateNumber" = some (.ref (ci 9).1)) (XI_TooMany : ∀ c ∈ (eAll : List Nat), ExcC K (ci c).1 ∧ PySem.W.kitOne K (.ref (ci c).1) (.ref (ci 10).1) = some (([10] : List Nat).contains c)) (gm_TooMany : mg "TooMany" = some (.ref (ci 10).1)) (XI_Full : ∀ c ∈ (eAll : List Nat), ExcC K (ci c).1 ∧ PySem.W.kitOne K (.ref (ci c).1) (.ref (ci 11).1) = some (([11] : List Nat).contains c)) (gm_Full : mg "Full" = some (.ref (ci 11).1)) (XI_NotAThing : ∀ c ∈ (eAll : List Nat), ExcC K (ci c).1 ∧ PySem.W.kitOne K (.ref (ci c).1) (.ref (ci 12).1) = some (([12] : List Nat).contains c)) (gm_NotAThing : mg "NotAThing" = some (.ref (ci 12).1)) (XI_Contradiction : ∀ c ∈ (eAll : List Nat), ExcC K (ci c).1 ∧ PySem.W.kitOne K (.ref (ci c).1) (.ref (ci 13).1) = some (([13] : List Nat).contains c)) (gm_Contradiction : mg "Contradiction" = some (.ref (ci 13).1)) (XI_InvalidRule : ∀ c ∈ (eAll : List Nat), ExcC K (ci c).1 ∧ PySem.W.kitOne K (.ref (ci c).1) (.ref (ci 14).1) = some (([14] : List Nat).contains c)) (gm_InvalidRule : mg "InvalidRule" = some (.ref (ci 14).1)) (XI_InvalidCommand : ∀ c ∈ (eAll : List Nat), ExcC K (ci c).1 ∧ PySem.W.kitOne K (.ref (ci c).1) (.ref (ci 15).1) = some (([15] : List Nat).contains c)) (gm_InvalidCommand : mg "InvalidCommand" = some (.ref (ci 15).1)) (XI_InvalidLimit : ∀ c ∈ (eAll : List Nat), ExcC K (ci c).1 ∧ PySem.W.kitOne K (.ref (ci c).1) (.ref (ci 16).1) = some (([16] : List Nat).contains c)) (gm_InvalidLimit : mg "InvalidLimit" = some (.ref (ci 16).1)) (XI_InvalidPage : ∀ c ∈ (eAll : List Nat), ExcC K (ci c).1 ∧ PySem.W.kitOne K (.ref (ci c).1) (.ref (ci 17).1) = some (([17] : List Nat).contains c)) (gm_InvalidPage : mg "InvalidPage" = some (.ref (ci 17).1)) (XI_UnknownName : ∀ c ∈ (eAll : List Nat), ExcC K (ci c).1 ∧ PySem.W.kitOne K (.ref (ci c).1) (.ref (ci 18).1) = some (([18] : List Nat).contains c)) (gm_UnknownName : mg "UnknownName" = some (.ref (ci 18).1)) :
    Body P w0 K mg base ci N_l_classes_of "_law_classes_of" (defScope (topS 30)) f (0) (defBody (topS 30)) (w_l_classes_of ) := by
  intro cdv A outer s H E hr
  have ND : N_l_classes_of.Nodup := sc_l_classes_of.nd
  unfold w_l_classes_of w_l_classes_of_0 w_l_classes_of_1 w_l_classes_of_2 w_l_classes_of_3 w_l_classes_of_4 w_l_classes_of_5
  exact rss_cons (rs_asg 1 ND (re_p (rp_lst (rps_cons (rp_xisO XI_InvalidNumber (gl_of (by kernel_rfl)) T.f_isinstance (gl_of (by kernel_rfl)) gm_InvalidNumber (rp_v 0)) (rps_cons (rp_xisO XI_InvalidName (gl_of (by kernel_rfl)) T.f_isinstance (gl_of (by kernel_rfl)) gm_InvalidName (rp_v 0)) (rps_cons (rp_xisO XI_InvalidSpan (gl_of (by kernel_rfl)) T.f_isinstance (gl_of (by kernel_rfl)) gm_InvalidSpan (rp_v 0)) (rps_nil)))))))
      (rss_cons (rs_asg 1 ND (re_p (rp_op o_plus (rp_v 1) (rp_lst (rps_cons (rp_xisO XI_InvalidText (gl_of (by kernel_rfl)) T.f_isinstance (gl_of (by kernel_rfl)) gm_InvalidText (rp_v 0)) (rps_cons (rp_xisO XI_InvalidSeat (gl_of (by kernel_rfl)) T.f_isinstance (gl_of (by kernel_rfl)) gm_InvalidSeat (rp_v 0)) (rps_cons (rp_xisO XI_InvalidRecord (gl_of (by kernel_rfl)) T.f_isinstance (gl_of (by kernel_rfl)) gm_InvalidRecord (rp_v 0)) (rps_nil))))))))
      (rss_cons (rs_asg 1 ND (re_p (rp_op o_plus (rp_v 1) (rp_lst (rps_cons (rp_xisO XI_Clash (gl_of (by kernel_rfl)) T.f_isinstance (gl_of (by kernel_rfl)) gm_Clash (rp_v 0)) (rps_cons (rp_xisO XI_DuplicateName (gl_of (by kernel_rfl)) T.f_isinstance (gl_of (by kernel_rfl)) gm_DuplicateName (rp_v 0)) (rps_cons (rp_xisO XI_DuplicateNumber (gl_of (by kernel_rfl)) T.f_isinstance (gl_of (by kernel_rfl)) gm_DuplicateNumber (rp_v 0)) (rps_nil))))))))
      (rss_cons (rs_asg 1 ND (re_p (rp_op o_plus (rp_v 1) (rp_lst (rps_cons (rp_xisO XI_TooMany (gl_of (by kernel_rfl)) T.f_isinstance (gl_of (by kernel_rfl)) gm_TooMany (rp_v 0)) (rps_cons (rp_xisO XI_Full (gl_of (by kernel_rfl)) T.f_isinstance (gl_of (by kernel_rfl)) gm_Full (rp_v 0)) (rps_cons (rp_xisO XI_NotAThing (gl_of (by kernel_rfl)) T.f_isinstance (gl_of (by kernel_rfl)) gm_NotAThing (rp_v 0)) (rps_cons (rp_xisO XI_Contradiction (gl_of (by kernel_rfl)) T.f_isinstance (gl_of (by kernel_rfl)) gm_Contradiction (rp_v 0)) (rps_nil)))))))))
      (rss_cons (rs_asg 1 ND (re_p (rp_op o_plus (rp_v 1) (rp_lst (rps_cons (rp_xisO XI_InvalidRule (gl_of (by kernel_rfl)) T.f_isinstance (gl_of (by kernel_rfl)) gm_InvalidRule (rp_v 0)) (rps_cons (rp_xisO XI_InvalidCommand (gl_of (by kernel_rfl)) T.f_isinstance (gl_of (by kernel_rfl)) gm_InvalidCommand (rp_v 0)) (rps_cons (rp_xisO XI_InvalidLimit (gl_of (by kernel_rfl)) T.f_isinstance (gl_of (by kernel_rfl)) gm_InvalidLimit (rp_v 0)) (rps_nil))))))))
      (rss_one (rs_ret (re_p (rp_callB c_len (gl_of (by kernel_rfl)) T.f_len (by decide +kernel) (rps_cons (rp_lcv [("_law_told", 2)] rfl rfl ND (ri_list (rp_op o_plus (rp_v 1) (rp_lst (rps_cons (rp_xisO XI_InvalidPage (gl_of (by kernel_rfl)) T.f_isinstance (gl_of (by kernel_rfl)) gm_InvalidPage (rp_v 0)) (rps_cons (rp_xisO XI_UnknownName (gl_of (by kernel_rfl)) T.f_isinstance (gl_of (by kernel_rfl)) gm_UnknownName (rp_v 0)) (rps_nil)))))) (by kernel_rfl) (fun _ _ _ _ _ => rg_n 2 ND (by rfl) (loc_of (by kernel_rfl))) (fun _ _ _ _ _ => rc_one (rb_v (rp_v 2))) (fun _ _ _ _ _ => rp_v 2)) (rps_nil))))))))))
def N_law : List Str := ["_law_script", "_law_bag_here", "_law_one", "_law_codes", "_law_e", "_law_end", "_law_found", "_law_named_here", "_law_bare_here", "_law_low"]
theorem sc_law : FnScope N_law ["_law_script"] (defScope (topS 31)) := ⟨rfl, rfl, rfl, by decide +kernel, rfl, by decide +kernel, by decide +kernel⟩
def w_law_for1_3  : WS :=
  wIf (wB (bOr (bV (fOp (gEqU true) (fFn [] G_classes (fCons (fV 4) (fNil))) (fC (.int 1)))) (bV (fXis eAll [19] (fV 4)))))
  (wRet (wP (fC (.bl false))))
  (wNext)
def w_law_for1_2  : WS :=
  wSeq (wIf (wB (bNot (bV (fFn [] (G_same 3) (fCons (fOp gPlus (fV 6) (fLst (fCons (fXis eAll [19] (fV 4)) (fNil)))) (fCons (fLst (fCons (fNot (fV 9)) (fCons (fNot (fV 9)) (fCons (fV 9) (fCons (fV 9) (fCons (fC (.bl false)) (fNil))))))) (fNil)))))))
  (wRet (wP (fC (.bl false))))
  (wNext)) (w_law_for1_3)
def w_law_for1_1  : WS :=
  wSeq (wAsg 6 (wP (fLst (fCons (fXis eAll [1, 2, 3, 4, 5, 6, 7, 8, 9, 10, 11, 12, 13, 14, 15, 16, 17, 20] (fV 4)) (fCons (fXis eAll [1, 2, 3, 4, 5, 6, 7, 8, 9, 10, 11, 12, 13, 14, 15, 16, 17, 20] (fV 4)) (fCons (fXis eAll [18, 21] (fV 4)) (fCons (fXis eAll [18, 19, 21] (fV 4)) (fNil)))))))) (w_law_for1_2)
def w_law_for1_0  : WS :=
  wSeq (wAsg 9 (wP (fOp (gEqU false) (fXat eCode "code" (fV 4)) (fC (.str "UnknownName"))))) (w_law_for1_1)
def w_law_12  : WS :=
  wRet (wP (fAnd (fXis eAll [1, 2, 3, 4, 5, 6, 7, 8, 9, 10, 11, 12, 13, 14, 15, 16, 17, 20] (fErrX 20 (fC (.str "x")))) (fXis eAll [18, 19, 21] (fErrX 21 (fC (.str "x"))))))
def w_law_11  : WS :=
  wSeq (wIf (wB (bNot (bV (fFn [] (G_same 3) (fCons (fLst (fCons (fV 6) (fCons (fXat eCode "code" (fV 5)) (fNil)))) (fCons (fLst (fCons (fLst (fCons (fC (.bl true)) (fCons (fC (.bl false)) (fCons (fC (.bl false)) (fCons (fC (.int 0)) (fNil)))))) (fCons (fC (.str "NothingLeft")) (fNil)))) (fNil)))))))
  (wRet (wP (fC (.bl false))))
  (wNext)) (w_law_12)
def w_law_10  : WS :=
  wSeq (wAsg 6 (wP (fLst (fCons (fXis eAll [19] (fV 5)) (fCons (fXis eAll [1, 2, 3, 4, 5, 6, 7, 8, 9, 10, 11, 12, 13, 14, 15, 16, 17, 20] (fV 5)) (fCons (fXis eAll [18, 21] (fV 5)) (fCons (fFn [] G_classes (fCons (fV 5) (fNil))) (fNil)))))))) (w_law_11)
def w_law_9  : WS :=
  wSeq (wAsg 5 (wP (fErrN 19 "NothingLeft"))) (w_law_10)
def w_law_8  : WS :=
  wSeq (wFor (wI (iL (fOp gPlus (fV 8) (fV 7)))) (tgN 4)
  (w_law_for1_0)) (w_law_9)
def w_law_7  : WS :=
  wSeq (wIf (wB (bNot (bV (fFn [] (G_same 3) (fCons (fComp (iL (fOp gPlus (fV 7) (fV 8))) (tgN 4) [4] (fun _ _ => some true) (fFn [] G_fieldV (fCons (fV 4) (fNil)))) (fCons (fOp gTimes (fLst (fCons (fTup (fCons (fV 2) (fNil))) (fNil))) (fC (.int 36))) (fNil)))))))
  (wRet (wP (fC (.bl false))))
  (wNext)) (w_law_8)
def w_law_6  : WS :=
  wSeq (wIf (wB (bOr (bNot (bV (fFn [] (G_same 3) (fCons (fComp (iL (fV 7)) (tgN 4) [4] (fun _ _ => some true) (fXat eCode "code" (fV 4))) (fCons (fV 3) (fNil)))))) (bNot (bV (fFn [] (G_same 3) (fCons (fComp (iL (fV 8)) (tgN 4) [4] (fun _ _ => some true) (fXat eCode "code" (fV 4))) (fCons (fV 3) (fNil))))))))
  (wRet (wP (fC (.bl false))))
  (wNext)) (w_law_7)
def w_law_5  : WS :=
  wSeq (wPar [7, 8] (wPs (fCons (fFn [] G_excs (fCons (fV 2) (fNil))) (fCons (fFn [] G_excs (fCons (fV 2) (fNil))) (fNil))))) (w_law_6)
def w_law_4  : WS :=
  wSeq (wAsg 3 (wP (fOp gPlus (fV 3) (fLst (fCons (fC (.str "InvalidCommand")) (fCons (fC (.str "InvalidLimit")) (fCons (fC (.str "InvalidPage")) (fCons (fC (.str "UnknownName")) (fNil))))))))) (w_law_5)
def w_law_3  : WS :=
  wSeq (wAsg 3 (wP (fOp gPlus (fV 3) (fLst (fCons (fC (.str "DuplicateName")) (fCons (fC (.str "DuplicateNumber")) (fCons (fC (.str "TooMany")) (fCons (fC (.str "Full")) (fCons (fC (.str "NotAThing")) (fCons (fC (.str "Contradiction")) (fCons (fC (.str "InvalidRule")) (fNil)))))))))))) (w_law_4)
def w_law_2  : WS :=
  wSeq (wAsg 3 (wP (fLst (fCons (fC (.str "InvalidNumber")) (fCons (fC (.str "InvalidName")) (fCons (fC (.str "InvalidSpan")) (fCons (fC (.str "InvalidText")) (fCons (fC (.str "InvalidSeat")) (fCons (fC (.str "InvalidRecord")) (fCons (fC (.str "Clash")) (fNil))))))))))) (w_law_3)
def w_law_1  : WS :=
  wSeq (wAsg 2 (wFnM [] fc_pick (wCons (wP (fV 1)) (wCons (wLst (wCons (wP (fC .non)) (wCons (wP (fC (.bl true))) (wCons (wP (fC (.int 0))) (wCons (wP (fC (.str "a"))) (wCons (wP (fLst (fCons (fC (.int 1)) (fNil)))) (wCons (wP (fTup (fCons (fC (.int 2)) (fCons (fC (.str "b")) (fNil))))) (wCons (wFnM [] fc_pull (wPs (fCons (fV 1) (fCons (fOp gPow (fC (.int 10)) (fC (.int 18))) (fNil))))) (wCons (wOp gSub (wP (fC (.int 0))) (wFnM [] fc_pull (wPs (fCons (fV 1) (fCons (fC (.int 9)) (fNil)))))) (wNil)))))))))) (wNil))))) (w_law_2)
def w_law_0  : WS :=
  wSeq (wAsg 1 (wFnM [] fc_bag (wPs (fCons (fV 0) (fNil))))) (w_law_1)
abbrev w_law  : WS := w_law_0
theorem b_law {P : Program} {w0 : World} {K : PySem.W.Frag} {mg : Str → Option Value} {base : Heap} {ci : Ci} {f : Addr}  (T : Tc mg) (C_l_bag : CallP P w0 K mg base ci (1) "_law_bag" [] (spOf K ci fc_bag)) (C_l_pick : CallP P w0 K mg base ci (2) "_law_pick" [] (spOf K ci fc_pick)) (C_l_pull : CallP P w0 K mg base ci (1) "_law_pull" [] (spOf K ci fc_pull)) (C_l_named : CallP P w0 K mg base ci (4) "_law_named" [] (spP K ci G_excs)) (C_l_bare : CallP P w0 K mg base ci (4) "_law_bare" [] (spP K ci G_excs)) (C_l_same : CallP P w0 K mg base ci (4) "_law_same" [] (spP K ci (G_same 3))) (C_l_field : CallP P w0 K mg base ci (1) "_law_field" [] (spP K ci G_fieldV)) (C_l_classes_of : CallP P w0 K mg base ci (1) "_law_classes_of" [] (spP K ci G_classes)) (XA_code : ∀ c ∈ (eCode : List Nat), ExcC K (ci c).1 ∧ PySem.W.findIn K (.ref (ci c).1) "code" = some none) (XI_NothingLeft : ∀ c ∈ (eAll : List Nat), ExcC K (ci c).1 ∧ PySem.W.kitOne K (.ref (ci c).1) (.ref (ci 19).1) = some (([19] : List Nat).contains c)) (gm_NothingLeft : mg "NothingLeft" = some (.ref (ci 19).1)) (XI_LumpError : ∀ c ∈ (eAll : List Nat), ExcC K (ci c).1 ∧ PySem.W.kitOne K (.ref (ci c).1) (.ref (ci 20).1) = some (([1, 2, 3, 4, 5, 6, 7, 8, 9, 10, 11, 12, 13, 14, 15, 16, 17, 20] : List Nat).contains c)) (gm_LumpError : mg "LumpError" = some (.ref (ci 20).1)) (XI_Missing : ∀ c ∈ (eAll : List Nat), ExcC K (ci c).1 ∧ PySem.W.kitOne K (.ref (ci c).1) (.ref (ci 21).1) = some (([18, 21] : List Nat).contains c)) (gm_Missing : mg "Missing" = some (.ref (ci 21).1)) (XI_ValueError : ∀ c ∈ (eAll : List Nat), ExcC K (ci c).1 ∧ PySem.W.kitOne K (.ref (ci c).1) (.type "ValueError") = some (([1, 2, 3, 4, 5, 6, 7, 8, 9, 10, 11, 12, 13, 14, 15, 16, 17, 20] : List Nat).contains c)) (XI_LookupError : ∀ c ∈ (eAll : List Nat), ExcC K (ci c).1 ∧ PySem.W.kitOne K (.ref (ci c).1) (.type "LookupError") = some (([18, 19, 21] : List Nat).contains c)) (XI_IndexError : ∀ c ∈ (eAll : List Nat), ExcC K (ci c).1 ∧ PySem.W.kitOne K (.ref (ci c).1) (.type "IndexError") = some (([19] : List Nat).contains c)) (EVN_NothingLeft : ErrV P w0 K mg base ci 1 19 "NothingLeft" 0 [] (spN (ci 19).1 "NothingLeft")) (EX_LumpError : ErrX K mg ci 20 "LumpError") (EX_Missing : ErrX K mg ci 21 "Missing") :
    Body P w0 K mg base ci N_law "law" (defScope (topS 31)) f (5) (defBody (topS 31)) (w_law ) := by
  intro cdv A outer s H E hr
  have ND : N_law.Nodup := sc_law.nd
  unfold w_law w_law_0 w_law_1 w_law_2 w_law_3 w_law_4 w_law_5 w_law_6 w_law_7 w_law_8 w_law_9 w_law_10 w_law_11 w_law_12 w_law_for1_0 w_law_for1_1 w_law_for1_2 w_law_for1_3
  exact rss_cons (rs_asg 1 ND (re_callM C_l_bag (hr.mono (by omega)) (gl_of (by kernel_rfl)) (ra_p (rps_cons (rp_v 0) (rps_nil)))))
      (rss_cons (rs_asg 2 ND (re_callM C_l_pick (hr.mono (by omega)) (gl_of (by kernel_rfl)) (ra_cons (re_p (rp_v 1)) (ra_cons (re_lst (ra_cons (re_p (rp_non)) (ra_cons (re_p (rp_bl)) (ra_cons (re_p (rp_int)) (ra_cons (re_p (rp_str)) (ra_cons (re_p (rp_lst (rps_cons (rp_int) (rps_nil)))) (ra_cons (re_p (rp_tup (rps_cons (rp_int) (rps_cons (rp_str) (rps_nil))))) (ra_cons (re_callM C_l_pull (hr.mono (by omega)) (gl_of (by kernel_rfl)) (ra_p (rps_cons (rp_v 1) (rps_cons (rp_op o_pow (rp_int) (rp_int)) (rps_nil))))) (ra_cons (re_op o_sub (re_p (rp_int)) (re_callM C_l_pull (hr.mono (by omega)) (gl_of (by kernel_rfl)) (ra_p (rps_cons (rp_v 1) (rps_cons (rp_int) (rps_nil)))))) (ra_nil)))))))))) (ra_nil)))))
      (rss_cons (rs_asg 3 ND (re_p (rp_lst (rps_cons (rp_str) (rps_cons (rp_str) (rps_cons (rp_str) (rps_cons (rp_str) (rps_cons (rp_str) (rps_cons (rp_str) (rps_cons (rp_str) (rps_nil)))))))))))
      (rss_cons (rs_asg 3 ND (re_p (rp_op o_plus (rp_v 3) (rp_lst (rps_cons (rp_str) (rps_cons (rp_str) (rps_cons (rp_str) (rps_cons (rp_str) (rps_cons (rp_str) (rps_cons (rp_str) (rps_cons (rp_str) (rps_nil))))))))))))
      (rss_cons (rs_asg 3 ND (re_p (rp_op o_plus (rp_v 3) (rp_lst (rps_cons (rp_str) (rps_cons (rp_str) (rps_cons (rp_str) (rps_cons (rp_str) (rps_nil)))))))))
      (rss_cons (rs_par2 rfl ND (ra_p (rps_cons (rp_call C_l_named (hr.mono (by omega)) (gl_of (by kernel_rfl)) (rps_cons (rp_v 2) (rps_nil))) (rps_cons (rp_call C_l_bare (hr.mono (by omega)) (gl_of (by kernel_rfl)) (rps_cons (rp_v 2) (rps_nil))) (rps_nil)))))
      (rss_cons (rs_if (rt_b (rb_w (rw_or (rb_not (rb_v (rp_call C_l_same (hr.mono (by omega)) (gl_of (by kernel_rfl)) (rps_cons (rp_lcv [("_law_e", 4)] rfl rfl ND (ri_list (rp_v 7)) (by kernel_rfl) (fun _ _ _ _ _ => rg_n 4 ND (by rfl) (loc_of (by kernel_rfl))) (fun _ _ _ _ _ => rc_nil) (fun _ _ _ _ _ => rp_xat XA_code (rp_v 4))) (rps_cons (rp_v 3) (rps_nil)))))) (rw_or1 (rb_not (rb_v (rp_call C_l_same (hr.mono (by omega)) (gl_of (by kernel_rfl)) (rps_cons (rp_lcv [("_law_e", 4)] rfl rfl ND (ri_list (rp_v 8)) (by kernel_rfl) (fun _ _ _ _ _ => rg_n 4 ND (by rfl) (loc_of (by kernel_rfl))) (fun _ _ _ _ _ => rc_nil) (fun _ _ _ _ _ => rp_xat XA_code (rp_v 4))) (rps_cons (rp_v 3) (rps_nil))))))))))
      (rss_one (rs_ret (re_p (rp_bl))))
      (rss_nil))
      (rss_cons (rs_if (rt_b (rb_not (rb_v (rp_call C_l_same (hr.mono (by omega)) (gl_of (by kernel_rfl)) (rps_cons (rp_lcv [("_law_e", 4)] rfl rfl ND (ri_list (rp_op o_plus (rp_v 7) (rp_v 8))) (by kernel_rfl) (fun _ _ _ _ _ => rg_n 4 ND (by rfl) (loc_of (by kernel_rfl))) (fun _ _ _ _ _ => rc_nil) (fun _ _ _ _ _ => rp_call C_l_field (hr.mono (by omega)) (gl_of (by kernel_rfl)) (rps_cons (rp_v 4) (rps_nil)))) (rps_cons (rp_op o_times (rp_lst (rps_cons (rp_tup (rps_cons (rp_v 2) (rps_nil))) (rps_nil))) (rp_int)) (rps_nil)))))))
      (rss_one (rs_ret (re_p (rp_bl))))
      (rss_nil))
      (rss_cons (rs_for (passes_of rfl) rfl (rie_p (ri_list (rp_op o_plus (rp_v 8) (rp_v 7)))) (rg_n 4 ND (by rfl) (loc_of (by kernel_rfl)))
      (rss_cons (rs_asg 9 ND (re_p (rp_cmp (o_eqU hr.units) (rp_xat XA_code (rp_v 4)) (rp_str) (nomark _))))
      (rss_cons (rs_asg 6 ND (re_p (rp_lst (rps_cons (rp_xisO XI_LumpError (gl_of (by kernel_rfl)) T.f_isinstance (gl_of (by kernel_rfl)) gm_LumpError (rp_v 4)) (rps_cons (rp_xisB (n := "ValueError") (t := "ValueError") XI_ValueError (gl_of (by kernel_rfl)) T.f_isinstance (gl_of (by kernel_rfl)) T.f_ValueError (by decide +kernel) (rp_v 4)) (rps_cons (rp_xisO XI_Missing (gl_of (by kernel_rfl)) T.f_isinstance (gl_of (by kernel_rfl)) gm_Missing (rp_v 4)) (rps_cons (rp_xisB (n := "LookupError") (t := "LookupError") XI_LookupError (gl_of (by kernel_rfl)) T.f_isinstance (gl_of (by kernel_rfl)) T.f_LookupError (by decide +kernel) (rp_v 4)) (rps_nil))))))))
      (rss_cons (rs_if (rt_b (rb_not (rb_v (rp_call C_l_same (hr.mono (by omega)) (gl_of (by kernel_rfl)) (rps_cons (rp_op o_plus (rp_v 6) (rp_lst (rps_cons (rp_xisB (n := "IndexError") (t := "IndexError") XI_IndexError (gl_of (by kernel_rfl)) T.f_isinstance (gl_of (by kernel_rfl)) T.f_IndexError (by decide +kernel) (rp_v 4)) (rps_nil)))) (rps_cons (rp_lst (rps_cons (rp_not (rp_v 9)) (rps_cons (rp_not (rp_v 9)) (rps_cons (rp_v 9) (rps_cons (rp_v 9) (rps_cons (rp_bl) (rps_nil))))))) (rps_nil)))))))
      (rss_one (rs_ret (re_p (rp_bl))))
      (rss_nil))
      (rss_one (rs_if (rt_b (rb_w (rw_or (rb_cmp (o_neU hr.units) (rp_call C_l_classes_of (hr.mono (by omega)) (gl_of (by kernel_rfl)) (rps_cons (rp_v 4) (rps_nil))) (rp_int) (nomark _)) (rw_or1 (rb_v (rp_xisO XI_NothingLeft (gl_of (by kernel_rfl)) T.f_isinstance (gl_of (by kernel_rfl)) gm_NothingLeft (rp_v 4)))))))
      (rss_one (rs_ret (re_p (rp_bl))))
      (rss_nil)))))))
      (rss_cons (rs_asg 5 ND (re_p (rp_errN EVN_NothingLeft (hr.mono (by omega)) (gl_of (by kernel_rfl)))))
      (rss_cons (rs_asg 6 ND (re_p (rp_lst (rps_cons (rp_xisB (n := "IndexError") (t := "IndexError") XI_IndexError (gl_of (by kernel_rfl)) T.f_isinstance (gl_of (by kernel_rfl)) T.f_IndexError (by decide +kernel) (rp_v 5)) (rps_cons (rp_xisO XI_LumpError (gl_of (by kernel_rfl)) T.f_isinstance (gl_of (by kernel_rfl)) gm_LumpError (rp_v 5)) (rps_cons (rp_xisO XI_Missing (gl_of (by kernel_rfl)) T.f_isinstance (gl_of (by kernel_rfl)) gm_Missing (rp_v 5)) (rps_cons (rp_call C_l_classes_of (hr.mono (by omega)) (gl_of (by kernel_rfl)) (rps_cons (rp_v 5) (rps_nil))) (rps_nil))))))))
      (rss_cons (rs_if (rt_b (rb_not (rb_v (rp_call C_l_same (hr.mono (by omega)) (gl_of (by kernel_rfl)) (rps_cons (rp_lst (rps_cons (rp_v 6) (rps_cons (rp_xat XA_code (rp_v 5)) (rps_nil)))) (rps_cons (rp_lst (rps_cons (rp_lst (rps_cons (rp_bl) (rps_cons (rp_bl) (rps_cons (rp_bl) (rps_cons (rp_int) (rps_nil)))))) (rps_cons (rp_str) (rps_nil)))) (rps_nil)))))))
      (rss_one (rs_ret (re_p (rp_bl))))
      (rss_nil))
      (rss_one (rs_ret (re_p (rp_and (rp_xisB (n := "ValueError") (t := "ValueError") XI_ValueError (gl_of (by kernel_rfl)) T.f_isinstance (gl_of (by kernel_rfl)) T.f_ValueError (by decide +kernel) (rp_errX EX_LumpError (gl_of (by kernel_rfl)) (rp_str))) (rp_one (rp_xisB (n := "LookupError") (t := "LookupError") XI_LookupError (gl_of (by kernel_rfl)) T.f_isinstance (gl_of (by kernel_rfl)) T.f_LookupError (by decide +kernel) (rp_errX EX_Missing (gl_of (by kernel_rfl)) (rp_str)))))))))))))))))))
end K
set_option maxHeartbeats 4000000
namespace K
open PySem PySem.Spec PyProof.Rows L2 LP
abbrev dnP (o : Except Er D) : Dn := { nx := fun _ _ => o = .ok .non, rt := fun a _ => ∃ d, a = .d d ∧ o = .ok d, ex := fun er _ => o = .error er }
theorem dBools_map : ∀ l : List Bool, dBools (l.map .bl) = some l
  | [] => rfl
  | b :: l => by rw [List.map_cons, dBools, dBools_map l]; rfl
theorem zip_pair : ∀ l : List D, List.zipWith LP.pairD l l = l.map fun d => LP.pairD d d
  | [] => rfl
  | d :: l => by rw [List.zipWith_cons_cons, zip_pair l]; rfl
theorem comp_sameL (m : Nat) (l : List D) (hl : ∀ d ∈ l, D.sam m d = true) : compL (eltF (tgT [2, 3]) [2, 3] (fun _ _ => some true) (fFn [] (G_same m) (fCons (fV 2) (fCons (fV 3) fNil))) [some (.d (.lst l)), some (.d (.lst l)), none, none] []) (List.zipWith LP.pairD l l) = some ((l.map fun _ => true).map .bl) := by
  rw [zip_pair, compL_map, List.map_map, ← compL_some]
  refine compL_congr fun d hd => ?_
  simp [eltF, tgT, setAll, wipeG, LP.pairD, fFn, fCons, fV, fNil, LP.dataOf, G_same, hl d hd, A.toD]
theorem comp_sameT (m : Nat) (l : List D) (hl : ∀ d ∈ l, D.sam m d = true) : compL (eltF (tgT [2, 3]) [2, 3] (fun _ _ => some true) (fFn [] (G_same m) (fCons (fV 2) (fCons (fV 3) fNil))) [some (.d (.tup l)), some (.d (.tup l)), none, none] []) (List.zipWith LP.pairD l l) = some ((l.map fun _ => true).map .bl) := by
  rw [zip_pair, compL_map, List.map_map, ← compL_some]
  refine compL_congr fun d hd => ?_
  simp [eltF, tgT, setAll, wipeG, LP.pairD, fFn, fCons, fV, fNil, LP.dataOf, G_same, hl d hd, A.toD]
theorem comp_same (m : Nat) (l : List D) (hl : ∀ d ∈ l, D.sam m d = true) : fComp (iZQ (fV 0) (fV 1)) (tgT [2, 3]) [2, 3] (fun _ _ => some true) (fFn [] (G_same m) (fCons (fV 2) (fCons (fV 3) fNil))) [some (.d (.lst l)), some (.d (.lst l)), none, none] [] = some (.d (.lst ((l.map fun _ => true).map .bl))) := by
  simp only [fComp, iZQ, twoT, viewT, fV, List.getElem?_cons_zero, List.getElem?_cons_succ, Option.bind_some, Option.map_some, viewL, comp_sameL m l hl]
theorem comp_same' (m : Nat) (l : List D) (hl : ∀ d ∈ l, D.sam m d = true) : fComp (iZQ (fV 0) (fV 1)) (tgT [2, 3]) [2, 3] (fun _ _ => some true) (fFn [] (G_same m) (fCons (fV 2) (fCons (fV 3) fNil))) [some (.d (.tup l)), some (.d (.tup l)), none, none] [] = some (.d (.lst ((l.map fun _ => true).map .bl))) := by
  simp only [fComp, iZQ, twoT, viewT, fV, List.getElem?_cons_zero, List.getElem?_cons_succ, Option.bind_some, Option.map_some, comp_sameT m l hl]
theorem all_true (S : So) (l : List D) : gBools (fun l => l.all id) S [.d (.lst ((l.map fun _ => true).map .bl))] = some (.bl true) := by
  simp only [gBools, viewL, Option.bind_some, dBools_map, Option.map_some]
  congr 2
  simp
theorem v_same (n : Nat) (ds : List D) (o : Except Er D) (h : G_same n ds = some o) : w_l_same (G_prev n) (stG N_l_same (ds.map A.d)) [] (dnP o) := by
  unfold G_same at h
  split at h
  · rename_i x y
    split at h
    · rename_i hc
      obtain ⟨rfl, hs⟩ := hc
      cases h
      cases x with
      | lst l =>
        cases n with
        | zero => cases hs
        | succ m =>
          have hl : ∀ d ∈ l, D.sam m d = true := by simpa [D.sam] using hs
          have c := comp_same m l hl
          simp only [w_l_same_0, w_l_same_1, w_l_same_2, w_l_same_3, w_l_same_4, N_l_same, G_prev, c, all_true, stG, wSeq, wIf, wAsg, wRet, wRetN, wNext, wDrop, wP, wB, wPs, wCons, wNil, wOp, wFn, wPar, wAsgT, wTup, wLst, wNewL, setIx_eq, setA, wM1, wI, wFor, bV, bNot, bAnd, bOr, fOp, fC, fV, fCons, fNil, fCall, fIsi, fAnd, fOr, fNot, chain_le, fTup, fLst, fIf, fFn, tgN, tgT, setAll, gI, gLen, gLe, gLt, gGe, gGt, LP.gSub, gMod, gFdiv, gPow, gPlus, gTimes, gIntA, gInt, gIsN, gIx, tyA, TN.sub, LP.dataOf, A.toD, viewL, viewQ, viewT, gEq_ii, gEq_ss, gEq_bb, gEq_nn, fSl, slV, oN, oS, iL, iR1, wFnM, gFdivW, tNot', tV, wFrz, fFld, fldV, gEither, gOwnIn, gOwnBin, gOwnEq, fIsiO, gIsiO, fProp, propV, fMeth, fMake, fMakeV, twoT, viewT, iZQ, iET, Option.bind_some, Option.map_some, Option.bind_none, Option.map_none, Option.bind, Option.map, List.getElem?_cons_zero, List.getElem?_cons_succ, List.getElem?_nil, List.set_cons_zero, List.set_cons_succ, List.set_nil, if_true, if_false, ↓reduceIte, Bool.not_true, Bool.not_false, decide_true, decide_false, Bool.false_eq_true, reduceCtorEq, true_and, false_and, and_true, and_false, not_true, not_false_eq_true, List.any_cons, List.any_nil, Bool.or_false, Bool.or_true, Bool.true_or, Bool.false_or, Bool.and_true, Bool.true_and, Bool.and_false, Bool.false_and, exists_eq_left, exists_eq_left', Option.some.injEq, A.d.injEq, D.int.injEq, D.bl.injEq, D.str.injEq, D.lst.injEq, D.tup.injEq, Except.ok.injEq, List.cons_append, List.nil_append, List.map_cons, List.map_nil, List.length_cons, List.length_nil, List.replicate, Nat.reduceSub, Nat.reduceAdd, List.append_nil, eq_self, or_true, true_or, or_false, false_or, Int.reduceNeg, Int.reducePow, Int.reduceLT, Int.reduceLE, List.length_set]
      | tup l =>
        cases n with
        | zero => cases hs
        | succ m =>
          have hl : ∀ d ∈ l, D.sam m d = true := by simpa [D.sam] using hs
          have c := comp_same' m l hl
          simp only [w_l_same_0, w_l_same_1, w_l_same_2, w_l_same_3, w_l_same_4, N_l_same, G_prev, c, all_true, stG, wSeq, wIf, wAsg, wRet, wRetN, wNext, wDrop, wP, wB, wPs, wCons, wNil, wOp, wFn, wPar, wAsgT, wTup, wLst, wNewL, setIx_eq, setA, wM1, wI, wFor, bV, bNot, bAnd, bOr, fOp, fC, fV, fCons, fNil, fCall, fIsi, fAnd, fOr, fNot, chain_le, fTup, fLst, fIf, fFn, tgN, tgT, setAll, gI, gLen, gLe, gLt, gGe, gGt, LP.gSub, gMod, gFdiv, gPow, gPlus, gTimes, gIntA, gInt, gIsN, gIx, tyA, TN.sub, LP.dataOf, A.toD, viewL, viewQ, viewT, gEq_ii, gEq_ss, gEq_bb, gEq_nn, fSl, slV, oN, oS, iL, iR1, wFnM, gFdivW, tNot', tV, wFrz, fFld, fldV, gEither, gOwnIn, gOwnBin, gOwnEq, fIsiO, gIsiO, fProp, propV, fMeth, fMake, fMakeV, twoT, viewT, iZQ, iET, Option.bind_some, Option.map_some, Option.bind_none, Option.map_none, Option.bind, Option.map, List.getElem?_cons_zero, List.getElem?_cons_succ, List.getElem?_nil, List.set_cons_zero, List.set_cons_succ, List.set_nil, if_true, if_false, ↓reduceIte, Bool.not_true, Bool.not_false, decide_true, decide_false, Bool.false_eq_true, reduceCtorEq, true_and, false_and, and_true, and_false, not_true, not_false_eq_true, List.any_cons, List.any_nil, Bool.or_false, Bool.or_true, Bool.true_or, Bool.false_or, Bool.and_true, Bool.true_and, Bool.and_false, Bool.false_and, exists_eq_left, exists_eq_left', Option.some.injEq, A.d.injEq, D.int.injEq, D.bl.injEq, D.str.injEq, D.lst.injEq, D.tup.injEq, Except.ok.injEq, List.cons_append, List.nil_append, List.map_cons, List.map_nil, List.length_cons, List.length_nil, List.replicate, Nat.reduceSub, Nat.reduceAdd, List.append_nil, eq_self, or_true, true_or, or_false, false_or, Int.reduceNeg, Int.reducePow, Int.reduceLT, Int.reduceLE, List.length_set]
      | ins c l => cases n <;> cases hs
      | dic c l => cases n <;> cases hs
      | fn a => cases n <;> cases hs
      | exc c ns l => cases n <;> cases hs
      | non => simp only [w_l_same_0, w_l_same_1, w_l_same_2, w_l_same_3, w_l_same_4, N_l_same, stG, wSeq, wIf, wAsg, wRet, wRetN, wNext, wDrop, wP, wB, wPs, wCons, wNil, wOp, wFn, wPar, wAsgT, wTup, wLst, wNewL, setIx_eq, setA, wM1, wI, wFor, bV, bNot, bAnd, bOr, fOp, fC, fV, fCons, fNil, fCall, fIsi, fAnd, fOr, fNot, chain_le, fTup, fLst, fIf, fFn, tgN, tgT, setAll, gI, gLen, gLe, gLt, gGe, gGt, LP.gSub, gMod, gFdiv, gPow, gPlus, gTimes, gIntA, gInt, gIsN, gIx, tyA, TN.sub, LP.dataOf, A.toD, viewL, viewQ, viewT, gEq_ii, gEq_ss, gEq_bb, gEq_nn, fSl, slV, oN, oS, iL, iR1, wFnM, gFdivW, tNot', tV, wFrz, fFld, fldV, gEither, gOwnIn, gOwnBin, gOwnEq, fIsiO, gIsiO, fProp, propV, fMeth, fMake, fMakeV, twoT, viewT, iZQ, iET, Option.bind_some, Option.map_some, Option.bind_none, Option.map_none, Option.bind, Option.map, List.getElem?_cons_zero, List.getElem?_cons_succ, List.getElem?_nil, List.set_cons_zero, List.set_cons_succ, List.set_nil, if_true, if_false, ↓reduceIte, Bool.not_true, Bool.not_false, decide_true, decide_false, Bool.false_eq_true, reduceCtorEq, true_and, false_and, and_true, and_false, not_true, not_false_eq_true, List.any_cons, List.any_nil, Bool.or_false, Bool.or_true, Bool.true_or, Bool.false_or, Bool.and_true, Bool.true_and, Bool.and_false, Bool.false_and, exists_eq_left, exists_eq_left', Option.some.injEq, A.d.injEq, D.int.injEq, D.bl.injEq, D.str.injEq, D.lst.injEq, D.tup.injEq, Except.ok.injEq, List.cons_append, List.nil_append, List.map_cons, List.map_nil, List.length_cons, List.length_nil, List.replicate, Nat.reduceSub, Nat.reduceAdd, List.append_nil, eq_self, or_true, true_or, or_false, false_or, Int.reduceNeg, Int.reducePow, Int.reduceLT, Int.reduceLE, List.length_set]
      | bl b => simp only [w_l_same_0, w_l_same_1, w_l_same_2, w_l_same_3, w_l_same_4, N_l_same, stG, wSeq, wIf, wAsg, wRet, wRetN, wNext, wDrop, wP, wB, wPs, wCons, wNil, wOp, wFn, wPar, wAsgT, wTup, wLst, wNewL, setIx_eq, setA, wM1, wI, wFor, bV, bNot, bAnd, bOr, fOp, fC, fV, fCons, fNil, fCall, fIsi, fAnd, fOr, fNot, chain_le, fTup, fLst, fIf, fFn, tgN, tgT, setAll, gI, gLen, gLe, gLt, gGe, gGt, LP.gSub, gMod, gFdiv, gPow, gPlus, gTimes, gIntA, gInt, gIsN, gIx, tyA, TN.sub, LP.dataOf, A.toD, viewL, viewQ, viewT, gEq_ii, gEq_ss, gEq_bb, gEq_nn, fSl, slV, oN, oS, iL, iR1, wFnM, gFdivW, tNot', tV, wFrz, fFld, fldV, gEither, gOwnIn, gOwnBin, gOwnEq, fIsiO, gIsiO, fProp, propV, fMeth, fMake, fMakeV, twoT, viewT, iZQ, iET, Option.bind_some, Option.map_some, Option.bind_none, Option.map_none, Option.bind, Option.map, List.getElem?_cons_zero, List.getElem?_cons_succ, List.getElem?_nil, List.set_cons_zero, List.set_cons_succ, List.set_nil, if_true, if_false, ↓reduceIte, Bool.not_true, Bool.not_false, decide_true, decide_false, Bool.false_eq_true, reduceCtorEq, true_and, false_and, and_true, and_false, not_true, not_false_eq_true, List.any_cons, List.any_nil, Bool.or_false, Bool.or_true, Bool.true_or, Bool.false_or, Bool.and_true, Bool.true_and, Bool.and_false, Bool.false_and, exists_eq_left, exists_eq_left', Option.some.injEq, A.d.injEq, D.int.injEq, D.bl.injEq, D.str.injEq, D.lst.injEq, D.tup.injEq, Except.ok.injEq, List.cons_append, List.nil_append, List.map_cons, List.map_nil, List.length_cons, List.length_nil, List.replicate, Nat.reduceSub, Nat.reduceAdd, List.append_nil, eq_self, or_true, true_or, or_false, false_or, Int.reduceNeg, Int.reducePow, Int.reduceLT, Int.reduceLE, List.length_set]
      | int b => simp only [w_l_same_0, w_l_same_1, w_l_same_2, w_l_same_3, w_l_same_4, N_l_same, stG, wSeq, wIf, wAsg, wRet, wRetN, wNext, wDrop, wP, wB, wPs, wCons, wNil, wOp, wFn, wPar, wAsgT, wTup, wLst, wNewL, setIx_eq, setA, wM1, wI, wFor, bV, bNot, bAnd, bOr, fOp, fC, fV, fCons, fNil, fCall, fIsi, fAnd, fOr, fNot, chain_le, fTup, fLst, fIf, fFn, tgN, tgT, setAll, gI, gLen, gLe, gLt, gGe, gGt, LP.gSub, gMod, gFdiv, gPow, gPlus, gTimes, gIntA, gInt, gIsN, gIx, tyA, TN.sub, LP.dataOf, A.toD, viewL, viewQ, viewT, gEq_ii, gEq_ss, gEq_bb, gEq_nn, fSl, slV, oN, oS, iL, iR1, wFnM, gFdivW, tNot', tV, wFrz, fFld, fldV, gEither, gOwnIn, gOwnBin, gOwnEq, fIsiO, gIsiO, fProp, propV, fMeth, fMake, fMakeV, twoT, viewT, iZQ, iET, Option.bind_some, Option.map_some, Option.bind_none, Option.map_none, Option.bind, Option.map, List.getElem?_cons_zero, List.getElem?_cons_succ, List.getElem?_nil, List.set_cons_zero, List.set_cons_succ, List.set_nil, if_true, if_false, ↓reduceIte, Bool.not_true, Bool.not_false, decide_true, decide_false, Bool.false_eq_true, reduceCtorEq, true_and, false_and, and_true, and_false, not_true, not_false_eq_true, List.any_cons, List.any_nil, Bool.or_false, Bool.or_true, Bool.true_or, Bool.false_or, Bool.and_true, Bool.true_and, Bool.and_false, Bool.false_and, exists_eq_left, exists_eq_left', Option.some.injEq, A.d.injEq, D.int.injEq, D.bl.injEq, D.str.injEq, D.lst.injEq, D.tup.injEq, Except.ok.injEq, List.cons_append, List.nil_append, List.map_cons, List.map_nil, List.length_cons, List.length_nil, List.replicate, Nat.reduceSub, Nat.reduceAdd, List.append_nil, eq_self, or_true, true_or, or_false, false_or, Int.reduceNeg, Int.reducePow, Int.reduceLT, Int.reduceLE, List.length_set]
      | str b => simp only [w_l_same_0, w_l_same_1, w_l_same_2, w_l_same_3, w_l_same_4, N_l_same, stG, wSeq, wIf, wAsg, wRet, wRetN, wNext, wDrop, wP, wB, wPs, wCons, wNil, wOp, wFn, wPar, wAsgT, wTup, wLst, wNewL, setIx_eq, setA, wM1, wI, wFor, bV, bNot, bAnd, bOr, fOp, fC, fV, fCons, fNil, fCall, fIsi, fAnd, fOr, fNot, chain_le, fTup, fLst, fIf, fFn, tgN, tgT, setAll, gI, gLen, gLe, gLt, gGe, gGt, LP.gSub, gMod, gFdiv, gPow, gPlus, gTimes, gIntA, gInt, gIsN, gIx, tyA, TN.sub, LP.dataOf, A.toD, viewL, viewQ, viewT, gEq_ii, gEq_ss, gEq_bb, gEq_nn, fSl, slV, oN, oS, iL, iR1, wFnM, gFdivW, tNot', tV, wFrz, fFld, fldV, gEither, gOwnIn, gOwnBin, gOwnEq, fIsiO, gIsiO, fProp, propV, fMeth, fMake, fMakeV, twoT, viewT, iZQ, iET, Option.bind_some, Option.map_some, Option.bind_none, Option.map_none, Option.bind, Option.map, List.getElem?_cons_zero, List.getElem?_cons_succ, List.getElem?_nil, List.set_cons_zero, List.set_cons_succ, List.set_nil, if_true, if_false, ↓reduceIte, Bool.not_true, Bool.not_false, decide_true, decide_false, Bool.false_eq_true, reduceCtorEq, true_and, false_and, and_true, and_false, not_true, not_false_eq_true, List.any_cons, List.any_nil, Bool.or_false, Bool.or_true, Bool.true_or, Bool.false_or, Bool.and_true, Bool.true_and, Bool.and_false, Bool.false_and, exists_eq_left, exists_eq_left', Option.some.injEq, A.d.injEq, D.int.injEq, D.bl.injEq, D.str.injEq, D.lst.injEq, D.tup.injEq, Except.ok.injEq, List.cons_append, List.nil_append, List.map_cons, List.map_nil, List.length_cons, List.length_nil, List.replicate, Nat.reduceSub, Nat.reduceAdd, List.append_nil, eq_self, or_true, true_or, or_false, false_or, Int.reduceNeg, Int.reducePow, Int.reduceLT, Int.reduceLE, List.length_set]
    · cases h
  · cases h
theorem at0 {α : Type} (a b c d e : α) : atI [a, b, c, d, e] (0 : Int) = some a := rfl
theorem at1 {α : Type} (a b c d e : α) : atI [a, b, c, d, e] (1 : Int) = some b := rfl
theorem at2 {α : Type} (a b c d e : α) : atI [a, b, c, d, e] (2 : Int) = some c := rfl
theorem at3 {α : Type} (a b c d e : α) : atI [a, b, c, d, e] (3 : Int) = some d := rfl
theorem at4 {α : Type} (a b c d e : α) : atI [a, b, c, d, e] (4 : Int) = some e := rfl
theorem x0 : ixN 5 (0 : Int) = some 0 := rfl
theorem x1 : ixN 5 (1 : Int) = some 1 := rfl
theorem x2 : ixN 5 (2 : Int) = some 2 := rfl
theorem x3 : ixN 5 (3 : Int) = some 3 := rfl
theorem x4 : ixN 5 (4 : Int) = some 4 := rfl
theorem lt_of {S : So} {k : Nat} {m : MO} (h : S[k]? = some m) : k < S.length := by
  obtain ⟨h, _⟩ := List.getElem?_eq_some_iff.mp h
  exact h
theorem natAbs_lt {st : Int} (h0 : 0 ≤ st) (h1 : st < 2147483579) : (st.natAbs < 2 ^ 64) = True := by
  apply eq_true
  have : (2 : Nat) ^ 64 = 18446744073709551616 := by decide
  omega
theorem n10 : (Int.natAbs 10 < 2 ^ 64) = True := eq_true (by decide)
theorem pull_end {k : Nat} {many : Int} {S : So} {E : Dn} {a2 a3 a4 : Option A} {cs : List Int} {at_ : Nat} {pool st n : Int} (hS : S[k]? = some (bagMO cs at_ pool st n)) (h0 : 0 ≤ st) (h1 : st < 2147483579) (h3 : cs.length ≤ 63) (h4 : 0 < many)
    (hQ : ∀ r m', Bag m' → 0 ≤ r → r < many → E.rt (.d (.int r)) (S.set k m')) : w_l_pull_3 [some (.loc k), some (.d (.int many)), a2, a3, a4] S E := by
  have hk := lt_of hS
  have hm : (0 < many) = True := eq_true h4
  have hn := natAbs_lt h0 h1
  unfold bagMO at hS
  simp only [w_l_pull_3, w_l_pull_4, w_l_pull_5, hS, hk, hm, hn, at0, at1, at2, at3, at4, x0, x1, x2, x3, x4, List.getElem?_set_self, stG, wSeq, wIf, wAsg, wRet, wRetN, wNext, wDrop, wP, wB, wPs, wCons, wNil, wOp, wFn, wPar, wAsgT, wTup, wLst, wNewL, setIx_eq, setA, wM1, wI, wFor, bV, bNot, bAnd, bOr, fOp, fC, fV, fCons, fNil, fCall, fIsi, fAnd, fOr, fNot, chain_le, fTup, fLst, fIf, fFn, tgN, tgT, setAll, gI, gLen, gLe, gLt, gGe, gGt, LP.gSub, gMod, gFdiv, gPow, gPlus, gTimes, gIntA, gInt, gIsN, gIx, tyA, TN.sub, LP.dataOf, A.toD, viewL, viewQ, viewT, gEq_ii, gEq_ss, gEq_bb, gEq_nn, fSl, slV, oN, oS, iL, iR1, wFnM, gFdivW, tNot', tV, wFrz, fFld, fldV, gEither, gOwnIn, gOwnBin, gOwnEq, fIsiO, gIsiO, fProp, propV, fMeth, fMake, fMakeV, twoT, viewT, iZQ, iET, Option.bind_some, Option.map_some, Option.bind_none, Option.map_none, Option.bind, Option.map, List.getElem?_cons_zero, List.getElem?_cons_succ, List.getElem?_nil, List.set_cons_zero, List.set_cons_succ, List.set_nil, if_true, if_false, ↓reduceIte, Bool.not_true, Bool.not_false, decide_true, decide_false, Bool.false_eq_true, reduceCtorEq, true_and, false_and, and_true, and_false, not_true, not_false_eq_true, List.any_cons, List.any_nil, Bool.or_false, Bool.or_true, Bool.true_or, Bool.false_or, Bool.and_true, Bool.true_and, Bool.and_false, Bool.false_and, exists_eq_left, exists_eq_left', Option.some.injEq, A.d.injEq, D.int.injEq, D.bl.injEq, D.str.injEq, D.lst.injEq, D.tup.injEq, Except.ok.injEq, List.cons_append, List.nil_append, List.map_cons, List.map_nil, List.length_cons, List.length_nil, List.replicate, Nat.reduceSub, Nat.reduceAdd, List.append_nil, eq_self, or_true, true_or, or_false, false_or, Int.reduceNeg, Int.reducePow, Int.reduceLT, Int.reduceLE, List.length_set]
  exact hQ _ _ ⟨cs, at_, pool, _, n, rfl, Int.emod_nonneg _ (by decide), Int.emod_lt_of_pos _ (by decide), h3⟩ (Int.emod_nonneg _ (by omega)) (Int.emod_lt_of_pos _ h4)
theorem pull_mid {k : Nat} {many : Int} {S : So} {E : Dn} {a2 a3 a4 : Option A} {cs : List Int} {at_ : Nat} {pool st n : Int} (hS : S[k]? = some (bagMO cs at_ pool st n)) (h0 : 0 ≤ st) (h1 : st < 2147483579) (h3 : cs.length ≤ 63) (h4 : 0 < many) (h5 : many < 1152921504606846976)
    (hQ : ∀ r m', Bag m' → 0 ≤ r → r < many → E.rt (.d (.int r)) (S.set k m')) : w_l_pull_2 [some (.loc k), some (.d (.int many)), a2, a3, a4] S E := by
  have hk := lt_of hS
  have hm : (0 < many) = True := eq_true h4
  have hm5 : (many < 18446744073709551616) = True := eq_true (by omega)
  have hS' := hS
  unfold bagMO at hS
  by_cases hp : 0 < pool
  · have hp := eq_true hp
    simp only [w_l_pull_2, hS, hk, hm, hm5, hp, at0, at1, at2, at3, at4, x0, x1, x2, x3, x4, List.getElem?_set_self, stG, wSeq, wIf, wAsg, wRet, wRetN, wNext, wDrop, wP, wB, wPs, wCons, wNil, wOp, wFn, wPar, wAsgT, wTup, wLst, wNewL, setIx_eq, setA, wM1, wI, wFor, bV, bNot, bAnd, bOr, fOp, fC, fV, fCons, fNil, fCall, fIsi, fAnd, fOr, fNot, chain_le, fTup, fLst, fIf, fFn, tgN, tgT, setAll, gI, gLen, gLe, gLt, gGe, gGt, LP.gSub, gMod, gFdiv, gPow, gPlus, gTimes, gIntA, gInt, gIsN, gIx, tyA, TN.sub, LP.dataOf, A.toD, viewL, viewQ, viewT, gEq_ii, gEq_ss, gEq_bb, gEq_nn, fSl, slV, oN, oS, iL, iR1, wFnM, gFdivW, tNot', tV, wFrz, fFld, fldV, gEither, gOwnIn, gOwnBin, gOwnEq, fIsiO, gIsiO, fProp, propV, fMeth, fMake, fMakeV, twoT, viewT, iZQ, iET, Option.bind_some, Option.map_some, Option.bind_none, Option.map_none, Option.bind, Option.map, List.getElem?_cons_zero, List.getElem?_cons_succ, List.getElem?_nil, List.set_cons_zero, List.set_cons_succ, List.set_nil, if_true, if_false, ↓reduceIte, Bool.not_true, Bool.not_false, decide_true, decide_false, Bool.false_eq_true, reduceCtorEq, true_and, false_and, and_true, and_false, not_true, not_false_eq_true, List.any_cons, List.any_nil, Bool.or_false, Bool.or_true, Bool.true_or, Bool.false_or, Bool.and_true, Bool.true_and, Bool.and_false, Bool.false_and, exists_eq_left, exists_eq_left', Option.some.injEq, A.d.injEq, D.int.injEq, D.bl.injEq, D.str.injEq, D.lst.injEq, D.tup.injEq, Except.ok.injEq, List.cons_append, List.nil_append, List.map_cons, List.map_nil, List.length_cons, List.length_nil, List.replicate, Nat.reduceSub, Nat.reduceAdd, List.append_nil, eq_self, or_true, true_or, or_false, false_or, Int.reduceNeg, Int.reducePow, Int.reduceLT, Int.reduceLE, List.length_set]
    exact hQ _ _ ⟨cs, at_, _, st, n, rfl, h0, h1, h3⟩ (Int.emod_nonneg _ (by omega)) (Int.emod_lt_of_pos _ h4)
  · have hp := eq_false hp
    simp only [w_l_pull_2, hS, hk, hm, hm5, hp, at0, at1, at2, at3, at4, x0, x1, x2, x3, x4, List.getElem?_set_self, stG, wSeq, wIf, wAsg, wRet, wRetN, wNext, wDrop, wP, wB, wPs, wCons, wNil, wOp, wFn, wPar, wAsgT, wTup, wLst, wNewL, setIx_eq, setA, wM1, wI, wFor, bV, bNot, bAnd, bOr, fOp, fC, fV, fCons, fNil, fCall, fIsi, fAnd, fOr, fNot, chain_le, fTup, fLst, fIf, fFn, tgN, tgT, setAll, gI, gLen, gLe, gLt, gGe, gGt, LP.gSub, gMod, gFdiv, gPow, gPlus, gTimes, gIntA, gInt, gIsN, gIx, tyA, TN.sub, LP.dataOf, A.toD, viewL, viewQ, viewT, gEq_ii, gEq_ss, gEq_bb, gEq_nn, fSl, slV, oN, oS, iL, iR1, wFnM, gFdivW, tNot', tV, wFrz, fFld, fldV, gEither, gOwnIn, gOwnBin, gOwnEq, fIsiO, gIsiO, fProp, propV, fMeth, fMake, fMakeV, twoT, viewT, iZQ, iET, Option.bind_some, Option.map_some, Option.bind_none, Option.map_none, Option.bind, Option.map, List.getElem?_cons_zero, List.getElem?_cons_succ, List.getElem?_nil, List.set_cons_zero, List.set_cons_succ, List.set_nil, if_true, if_false, ↓reduceIte, Bool.not_true, Bool.not_false, decide_true, decide_false, Bool.false_eq_true, reduceCtorEq, true_and, false_and, and_true, and_false, not_true, not_false_eq_true, List.any_cons, List.any_nil, Bool.or_false, Bool.or_true, Bool.true_or, Bool.false_or, Bool.and_true, Bool.true_and, Bool.and_false, Bool.false_and, exists_eq_left, exists_eq_left', Option.some.injEq, A.d.injEq, D.int.injEq, D.bl.injEq, D.str.injEq, D.lst.injEq, D.tup.injEq, Except.ok.injEq, List.cons_append, List.nil_append, List.map_cons, List.map_nil, List.length_cons, List.length_nil, List.replicate, Nat.reduceSub, Nat.reduceAdd, List.append_nil, eq_self, or_true, true_or, or_false, false_or, Int.reduceNeg, Int.reducePow, Int.reduceLT, Int.reduceLE, List.length_set]
    exact pull_end hS' h0 h1 h3 h4 hQ
theorem at_cells {cs : List Int} {at_ : Nat} {c : Int} (h : cs[at_]? = some c) : atI (cs.map D.int) (at_ : Int) = some (.int c) := by
  obtain ⟨hl, _⟩ := List.getElem?_eq_some_iff.mp h
  have : ixN (cs.map D.int).length (at_ : Int) = some at_ := by
    unfold ixN
    rw [if_pos (by omega), if_pos (by simpa using hl)]
    rfl
  rw [atI, this, Option.bind_some, List.getElem?_map, h]
  rfl
theorem pull_1 {k : Nat} {many : Int} {S : So} {E : Dn} {a2 a3 a4 : Option A} {cs : List Int} {at_ : Nat} {pool st n : Int} (hS : S[k]? = some (bagMO cs at_ pool st n)) (h0 : 0 ≤ st) (h1 : st < 2147483579) (h3 : cs.length ≤ 63) (h4 : 0 < many) (h5 : many < 1152921504606846976)
    (hQ : ∀ r m', Bag m' → 0 ≤ r → r < many → E.rt (.d (.int r)) (S.set k m')) : w_l_pull_1 [some (.loc k), some (.d (.int many)), a2, a3, a4] S E := by
  have hk := lt_of hS
  have hS' := hS
  unfold bagMO at hS
  by_cases hp : pool = 0
  · by_cases ha : at_ < cs.length
    · have hc : cs[at_]? = some cs[at_] := List.getElem?_eq_getElem ha
      have hat := at_cells hc
      have ha2 : ((at_ : Int) < (cs.length : Int)) = True := eq_true (by omega)
      have hpw : (10 : Int) ^ 18 = 1000000000000000000 := by decide
      have hp2 := eq_true hp
      have fin_ : ∀ (p x : Int), w_l_pull_2 [some (.loc k), some (.d (.int many)), a2, some (.d (.int cs[at_])), a4] (S.set k (.lst [.d (.lst (cs.map .int)), .d (.int ((at_ : Int) + 1)), .d (.int p), .d (.int (x % 2147483579)), .d (.int n)])) E := fun p x =>
        pull_mid (cs := cs) (at_ := at_ + 1) (pool := p) (st := x % 2147483579) (n := n) (by rw [List.getElem?_set_self hk]; rfl) (Int.emod_nonneg _ (by decide)) (Int.emod_lt_of_pos _ (by decide)) h3 h4 h5 fun r m' b r0 r1 => by
          rw [List.set_set]; exact hQ r m' b r0 r1
      by_cases hb : (10 : Int) ^ Int.toNat 18 ≤ cs[at_]
      · have hb2 := eq_true hb
        simp only [w_l_pull_1, hS, hk, hp2, ha2, hb2, hat, n10, at0, at1, at2, at3, at4, x0, x1, x2, x3, x4, List.getElem?_set_self, List.length_map, List.set_set, stG, wSeq, wIf, wAsg, wRet, wRetN, wNext, wDrop, wP, wB, wPs, wCons, wNil, wOp, wFn, wPar, wAsgT, wTup, wLst, wNewL, setIx_eq, setA, wM1, wI, wFor, bV, bNot, bAnd, bOr, fOp, fC, fV, fCons, fNil, fCall, fIsi, fAnd, fOr, fNot, chain_le, fTup, fLst, fIf, fFn, tgN, tgT, setAll, gI, gLen, gLe, gLt, gGe, gGt, LP.gSub, gMod, gFdiv, gPow, gPlus, gTimes, gIntA, gInt, gIsN, gIx, tyA, TN.sub, LP.dataOf, A.toD, viewL, viewQ, viewT, gEq_ii, gEq_ss, gEq_bb, gEq_nn, fSl, slV, oN, oS, iL, iR1, wFnM, gFdivW, tNot', tV, wFrz, fFld, fldV, gEither, gOwnIn, gOwnBin, gOwnEq, fIsiO, gIsiO, fProp, propV, fMeth, fMake, fMakeV, twoT, viewT, iZQ, iET, Option.bind_some, Option.map_some, Option.bind_none, Option.map_none, Option.bind, Option.map, List.getElem?_cons_zero, List.getElem?_cons_succ, List.getElem?_nil, List.set_cons_zero, List.set_cons_succ, List.set_nil, if_true, if_false, ↓reduceIte, Bool.not_true, Bool.not_false, decide_true, decide_false, Bool.false_eq_true, reduceCtorEq, true_and, false_and, and_true, and_false, not_true, not_false_eq_true, List.any_cons, List.any_nil, Bool.or_false, Bool.or_true, Bool.true_or, Bool.false_or, Bool.and_true, Bool.true_and, Bool.and_false, Bool.false_and, exists_eq_left, exists_eq_left', Option.some.injEq, A.d.injEq, D.int.injEq, D.bl.injEq, D.str.injEq, D.lst.injEq, D.tup.injEq, Except.ok.injEq, List.cons_append, List.nil_append, List.map_cons, List.map_nil, List.length_cons, List.length_nil, List.replicate, Nat.reduceSub, Nat.reduceAdd, List.append_nil, eq_self, or_true, true_or, or_false, false_or, Int.reduceNeg, Int.reducePow, Int.reduceLT, Int.reduceLE, List.length_set]
        exact fin_ _ _
      · have hb2 := eq_false hb
        simp only [w_l_pull_1, hS, hk, hp2, ha2, hb2, hat, n10, at0, at1, at2, at3, at4, x0, x1, x2, x3, x4, List.getElem?_set_self, List.length_map, List.set_set, stG, wSeq, wIf, wAsg, wRet, wRetN, wNext, wDrop, wP, wB, wPs, wCons, wNil, wOp, wFn, wPar, wAsgT, wTup, wLst, wNewL, setIx_eq, setA, wM1, wI, wFor, bV, bNot, bAnd, bOr, fOp, fC, fV, fCons, fNil, fCall, fIsi, fAnd, fOr, fNot, chain_le, fTup, fLst, fIf, fFn, tgN, tgT, setAll, gI, gLen, gLe, gLt, gGe, gGt, LP.gSub, gMod, gFdiv, gPow, gPlus, gTimes, gIntA, gInt, gIsN, gIx, tyA, TN.sub, LP.dataOf, A.toD, viewL, viewQ, viewT, gEq_ii, gEq_ss, gEq_bb, gEq_nn, fSl, slV, oN, oS, iL, iR1, wFnM, gFdivW, tNot', tV, wFrz, fFld, fldV, gEither, gOwnIn, gOwnBin, gOwnEq, fIsiO, gIsiO, fProp, propV, fMeth, fMake, fMakeV, twoT, viewT, iZQ, iET, Option.bind_some, Option.map_some, Option.bind_none, Option.map_none, Option.bind, Option.map, List.getElem?_cons_zero, List.getElem?_cons_succ, List.getElem?_nil, List.set_cons_zero, List.set_cons_succ, List.set_nil, if_true, if_false, ↓reduceIte, Bool.not_true, Bool.not_false, decide_true, decide_false, Bool.false_eq_true, reduceCtorEq, true_and, false_and, and_true, and_false, not_true, not_false_eq_true, List.any_cons, List.any_nil, Bool.or_false, Bool.or_true, Bool.true_or, Bool.false_or, Bool.and_true, Bool.true_and, Bool.and_false, Bool.false_and, exists_eq_left, exists_eq_left', Option.some.injEq, A.d.injEq, D.int.injEq, D.bl.injEq, D.str.injEq, D.lst.injEq, D.tup.injEq, Except.ok.injEq, List.cons_append, List.nil_append, List.map_cons, List.map_nil, List.length_cons, List.length_nil, List.replicate, Nat.reduceSub, Nat.reduceAdd, List.append_nil, eq_self, or_true, true_or, or_false, false_or, Int.reduceNeg, Int.reducePow, Int.reduceLT, Int.reduceLE, List.length_set]
        exact fin_ _ _
    · have ha2 : ((at_ : Int) < (cs.length : Int)) = False := eq_false (by omega)
      have hp2 := eq_true hp
      simp only [w_l_pull_1, hS, hk, hp2, ha2, at0, at1, at2, at3, at4, x0, x1, x2, x3, x4, List.getElem?_set_self, List.length_map, stG, wSeq, wIf, wAsg, wRet, wRetN, wNext, wDrop, wP, wB, wPs, wCons, wNil, wOp, wFn, wPar, wAsgT, wTup, wLst, wNewL, setIx_eq, setA, wM1, wI, wFor, bV, bNot, bAnd, bOr, fOp, fC, fV, fCons, fNil, fCall, fIsi, fAnd, fOr, fNot, chain_le, fTup, fLst, fIf, fFn, tgN, tgT, setAll, gI, gLen, gLe, gLt, gGe, gGt, LP.gSub, gMod, gFdiv, gPow, gPlus, gTimes, gIntA, gInt, gIsN, gIx, tyA, TN.sub, LP.dataOf, A.toD, viewL, viewQ, viewT, gEq_ii, gEq_ss, gEq_bb, gEq_nn, fSl, slV, oN, oS, iL, iR1, wFnM, gFdivW, tNot', tV, wFrz, fFld, fldV, gEither, gOwnIn, gOwnBin, gOwnEq, fIsiO, gIsiO, fProp, propV, fMeth, fMake, fMakeV, twoT, viewT, iZQ, iET, Option.bind_some, Option.map_some, Option.bind_none, Option.map_none, Option.bind, Option.map, List.getElem?_cons_zero, List.getElem?_cons_succ, List.getElem?_nil, List.set_cons_zero, List.set_cons_succ, List.set_nil, if_true, if_false, ↓reduceIte, Bool.not_true, Bool.not_false, decide_true, decide_false, Bool.false_eq_true, reduceCtorEq, true_and, false_and, and_true, and_false, not_true, not_false_eq_true, List.any_cons, List.any_nil, Bool.or_false, Bool.or_true, Bool.true_or, Bool.false_or, Bool.and_true, Bool.true_and, Bool.and_false, Bool.false_and, exists_eq_left, exists_eq_left', Option.some.injEq, A.d.injEq, D.int.injEq, D.bl.injEq, D.str.injEq, D.lst.injEq, D.tup.injEq, Except.ok.injEq, List.cons_append, List.nil_append, List.map_cons, List.map_nil, List.length_cons, List.length_nil, List.replicate, Nat.reduceSub, Nat.reduceAdd, List.append_nil, eq_self, or_true, true_or, or_false, false_or, Int.reduceNeg, Int.reducePow, Int.reduceLT, Int.reduceLE, List.length_set]
      exact pull_mid hS' h0 h1 h3 h4 h5 hQ
  · have hp2 := eq_false hp
    simp only [w_l_pull_1, hS, hk, hp2, at0, at1, at2, at3, at4, x0, x1, x2, x3, x4, List.getElem?_set_self, List.length_map, stG, wSeq, wIf, wAsg, wRet, wRetN, wNext, wDrop, wP, wB, wPs, wCons, wNil, wOp, wFn, wPar, wAsgT, wTup, wLst, wNewL, setIx_eq, setA, wM1, wI, wFor, bV, bNot, bAnd, bOr, fOp, fC, fV, fCons, fNil, fCall, fIsi, fAnd, fOr, fNot, chain_le, fTup, fLst, fIf, fFn, tgN, tgT, setAll, gI, gLen, gLe, gLt, gGe, gGt, LP.gSub, gMod, gFdiv, gPow, gPlus, gTimes, gIntA, gInt, gIsN, gIx, tyA, TN.sub, LP.dataOf, A.toD, viewL, viewQ, viewT, gEq_ii, gEq_ss, gEq_bb, gEq_nn, fSl, slV, oN, oS, iL, iR1, wFnM, gFdivW, tNot', tV, wFrz, fFld, fldV, gEither, gOwnIn, gOwnBin, gOwnEq, fIsiO, gIsiO, fProp, propV, fMeth, fMake, fMakeV, twoT, viewT, iZQ, iET, Option.bind_some, Option.map_some, Option.bind_none, Option.map_none, Option.bind, Option.map, List.getElem?_cons_zero, List.getElem?_cons_succ, List.getElem?_nil, List.set_cons_zero, List.set_cons_succ, List.set_nil, if_true, if_false, ↓reduceIte, Bool.not_true, Bool.not_false, decide_true, decide_false, Bool.false_eq_true, reduceCtorEq, true_and, false_and, and_true, and_false, not_true, not_false_eq_true, List.any_cons, List.any_nil, Bool.or_false, Bool.or_true, Bool.true_or, Bool.false_or, Bool.and_true, Bool.true_and, Bool.and_false, Bool.false_and, exists_eq_left, exists_eq_left', Option.some.injEq, A.d.injEq, D.int.injEq, D.bl.injEq, D.str.injEq, D.lst.injEq, D.tup.injEq, Except.ok.injEq, List.cons_append, List.nil_append, List.map_cons, List.map_nil, List.length_cons, List.length_nil, List.replicate, Nat.reduceSub, Nat.reduceAdd, List.append_nil, eq_self, or_true, true_or, or_false, false_or, Int.reduceNeg, Int.reducePow, Int.reduceLT, Int.reduceLE, List.length_set]
    exact pull_mid hS' h0 h1 h3 h4 h5 hQ
theorem v_pull (as : List A) (S : So) (ex : EK) (Q : AK) (h : fc_pull as S ex Q) : w_l_pull (stG N_l_pull as) S { nx := fun _ S' => Q (.d .non) S', rt := Q, ex := ex } := by
  obtain ⟨k, m, many, rfl, hS, ⟨cs, at_, pool, st, n, rfl, h0, h1, h3⟩, h4, h5, hQ⟩ := h
  have hk := lt_of hS
  have hS' := hS
  unfold bagMO at hS
  simp only [w_l_pull_0, N_l_pull, hS, hk, at0, at1, at2, at3, at4, x0, x1, x2, x3, x4, List.getElem?_set_self, List.length_map, stG, wSeq, wIf, wAsg, wRet, wRetN, wNext, wDrop, wP, wB, wPs, wCons, wNil, wOp, wFn, wPar, wAsgT, wTup, wLst, wNewL, setIx_eq, setA, wM1, wI, wFor, bV, bNot, bAnd, bOr, fOp, fC, fV, fCons, fNil, fCall, fIsi, fAnd, fOr, fNot, chain_le, fTup, fLst, fIf, fFn, tgN, tgT, setAll, gI, gLen, gLe, gLt, gGe, gGt, LP.gSub, gMod, gFdiv, gPow, gPlus, gTimes, gIntA, gInt, gIsN, gIx, tyA, TN.sub, LP.dataOf, A.toD, viewL, viewQ, viewT, gEq_ii, gEq_ss, gEq_bb, gEq_nn, fSl, slV, oN, oS, iL, iR1, wFnM, gFdivW, tNot', tV, wFrz, fFld, fldV, gEither, gOwnIn, gOwnBin, gOwnEq, fIsiO, gIsiO, fProp, propV, fMeth, fMake, fMakeV, twoT, viewT, iZQ, iET, Option.bind_some, Option.map_some, Option.bind_none, Option.map_none, Option.bind, Option.map, List.getElem?_cons_zero, List.getElem?_cons_succ, List.getElem?_nil, List.set_cons_zero, List.set_cons_succ, List.set_nil, if_true, if_false, ↓reduceIte, Bool.not_true, Bool.not_false, decide_true, decide_false, Bool.false_eq_true, reduceCtorEq, true_and, false_and, and_true, and_false, not_true, not_false_eq_true, List.any_cons, List.any_nil, Bool.or_false, Bool.or_true, Bool.true_or, Bool.false_or, Bool.and_true, Bool.true_and, Bool.and_false, Bool.false_and, exists_eq_left, exists_eq_left', Option.some.injEq, A.d.injEq, D.int.injEq, D.bl.injEq, D.str.injEq, D.lst.injEq, D.tup.injEq, Except.ok.injEq, List.cons_append, List.nil_append, List.map_cons, List.map_nil, List.length_cons, List.length_nil, List.replicate, Nat.reduceSub, Nat.reduceAdd, List.append_nil, eq_self, or_true, true_or, or_false, false_or, Int.reduceNeg, Int.reducePow, Int.reduceLT, Int.reduceLE, List.length_set]
  exact pull_1 (cs := cs) (at_ := at_) (pool := pool) (st := st) (n := n + 1) (by rw [List.getElem?_set_self hk]; rfl) h0 h1 h3 h4 h5 fun r m' b r0 r1 => by
    show Q _ _
    rw [List.set_set]; exact hQ r m' b r0 r1
theorem rows_len {rows : D} {l : List D} (S : So) (h : rowsOf rows = some l) (hl : l.length < 1000) : gLen S [.d rows] = some (.int l.length) := by
  unfold rowsOf at h
  split at h
  · cases h; simp only [gLen, viewQ, viewL, Option.map_some]
  · cases h
    rename_i s
    have e : s.length = s.cps.toList.length := by simp [Str.length]
    rw [List.length_map] at hl
    have : s.length ≤ sizeLine := Nat.le_trans (by omega : s.length ≤ 1000) (by decide)
    simp only [gLen]
    rw [if_pos this, List.length_map, e]
  · cases h
theorem at_nat {α : Type} {l : List α} {r : Int} (h0 : 0 ≤ r) (h1 : r < l.length) : ∃ d, atI l r = some d ∧ d ∈ l := by
  have : ixN l.length r = some r.toNat := by
    unfold ixN
    rw [if_pos h0, if_pos h1]
  have hl : r.toNat < l.length := by omega
  refine ⟨l[r.toNat], ?_, List.getElem_mem hl⟩
  rw [atI, this, Option.bind_some, List.getElem?_eq_getElem hl]
theorem rows_ix {rows : D} {l : List D} {S : So} {r : Int} (h : rowsOf rows = some l) (hl : l.length < 1000) (h0 : 0 ≤ r) (h1 : r < l.length) : ∃ d, gIx S (.d rows) (.d (.int r)) = some d ∧ d ∈ l := by
  unfold rowsOf at h
  split at h
  · cases h
    obtain ⟨d, e, m⟩ := at_nat h0 h1
    exact ⟨d, by simp only [gIx, viewQ, viewL, Option.bind_some, e], m⟩
  · cases h
    rename_i s
    have e : s.length = s.cps.toList.length := by simp [Str.length]
    rw [List.length_map] at hl h1
    have : s.length ≤ sizeLine := Nat.le_trans (by omega : s.length ≤ 1000) (by decide)
    obtain ⟨c, e2, m⟩ := at_nat h0 h1
    exact ⟨_, by simp only [gIx, this, if_true, e2, Option.map_some], List.mem_map.mpr ⟨c, m, rfl⟩⟩
  · cases h
theorem v_pick (as : List A) (S : So) (ex : EK) (Q : AK) (h : fc_pick as S ex Q) : w_l_pick (stG N_l_pick as) S { nx := fun _ S' => Q (.d .non) S', rt := Q, ex := ex } := by
  obtain ⟨k, m, rows, l, rfl, hS, hb, hr, h0, h1, hQ⟩ := h
  simp only [w_l_pick_0, N_l_pick, rows_len S hr h1, wFnM, stG, wSeq, wIf, wAsg, wRet, wRetN, wNext, wDrop, wP, wB, wPs, wCons, wNil, wOp, wFn, wPar, wAsgT, wTup, wLst, wNewL, setIx_eq, setA, wM1, wI, wFor, bV, bNot, bAnd, bOr, fOp, fC, fV, fCons, fNil, fCall, fIsi, fAnd, fOr, fNot, chain_le, fTup, fLst, fIf, fFn, tgN, tgT, setAll, gI, gLe, gLt, gGe, gGt, LP.gSub, gMod, gFdiv, gPow, gPlus, gTimes, gIntA, gInt, gIsN, tyA, TN.sub, LP.dataOf, A.toD, viewL, viewQ, viewT, gEq_ii, gEq_ss, gEq_bb, gEq_nn, fSl, slV, oN, oS, iL, iR1, wFnM, gFdivW, tNot', tV, wFrz, fFld, fldV, gEither, gOwnIn, gOwnBin, gOwnEq, fIsiO, gIsiO, fProp, propV, fMeth, fMake, fMakeV, twoT, viewT, iZQ, iET, Option.bind_some, Option.map_some, Option.bind_none, Option.map_none, Option.bind, Option.map, List.getElem?_cons_zero, List.getElem?_cons_succ, List.getElem?_nil, List.set_cons_zero, List.set_cons_succ, List.set_nil, if_true, if_false, ↓reduceIte, Bool.not_true, Bool.not_false, decide_true, decide_false, Bool.false_eq_true, reduceCtorEq, true_and, false_and, and_true, and_false, not_true, not_false_eq_true, List.any_cons, List.any_nil, Bool.or_false, Bool.or_true, Bool.true_or, Bool.false_or, Bool.and_true, Bool.true_and, Bool.and_false, Bool.false_and, exists_eq_left, exists_eq_left', Option.some.injEq, A.d.injEq, D.int.injEq, D.bl.injEq, D.str.injEq, D.lst.injEq, D.tup.injEq, Except.ok.injEq, List.cons_append, List.nil_append, List.map_cons, List.map_nil, List.length_cons, List.length_nil, List.replicate, Nat.reduceSub, Nat.reduceAdd, List.append_nil, eq_self, or_true, true_or, or_false, false_or, Int.reduceNeg, Int.reducePow, Int.reduceLT, Int.reduceLE, List.length_set]
  refine ⟨k, m, _, rfl, hS, hb, by omega, by omega, fun r m' b r0 r1 => ?_⟩
  obtain ⟨d, e, hm⟩ := rows_ix (S := S.set k m') hr h1 r0 r1
  exact ⟨d, e, hQ d m' b hm⟩
theorem cut63 {l : List D} (h : l.length ≤ 63) : LP.cutD l none (some 63) = l := by
  unfold LP.cutD
  rw [HT.sIx_none, show ((63 : Int)) = ((63 : Nat) : Int) from rfl, HT.sIx_nat, Nat.min_eq_right h]
  simp
theorem comp_ints {Γ : Ga} {S : So} {k : Nat} {cs : List Int} {x : Option A} {y : A} (hS : S[k]? = some (.scr (cs.map .int))) (hl : cs.length ≤ 63) :
    fComp (iL (fSl (fV 0) oN (oS (fC (.int 63))))) (tgN 2) [2] (fun _ _ => some true) (fCall gIntA (fCons (fV 2) fNil)) [some (.loc k), some y, x] S = some (.d (.lst (cs.map .int))) := by
  have hc := cut63 (l := cs.map D.int) (by simpa using hl)
  have c : compL (eltF (tgN 2) [2] (fun _ _ => some true) (fCall gIntA (fCons (fV 2) fNil)) [some (.loc k), some y, x] S) (cs.map .int) = some (cs.map .int) := by
    rw [compL_map, ← compL_some]
    refine compL_congr fun d hd => ?_
    simp [eltF, tgN, wipeG, fCall, fCons, fV, fNil, gIntA, gInt, A.toD]
  simp only [fComp, hS, hc, c, stG, wSeq, wIf, wAsg, wRet, wRetN, wNext, wDrop, wP, wB, wPs, wCons, wNil, wOp, wFn, wPar, wAsgT, wTup, wLst, wNewL, setIx_eq, setA, wM1, wI, wFor, bV, bNot, bAnd, bOr, fOp, fC, fV, fCons, fNil, fCall, fIsi, fAnd, fOr, fNot, chain_le, fTup, fLst, fIf, fFn, tgN, tgT, setAll, gI, gLen, gLe, gLt, gGe, gGt, LP.gSub, gMod, gFdiv, gPow, gPlus, gTimes, gIntA, gInt, gIsN, gIx, tyA, TN.sub, LP.dataOf, A.toD, viewL, viewQ, viewT, gEq_ii, gEq_ss, gEq_bb, gEq_nn, fSl, slV, oN, oS, iL, iR1, wFnM, gFdivW, tNot', tV, wFrz, fFld, fldV, gEither, gOwnIn, gOwnBin, gOwnEq, fIsiO, gIsiO, fProp, propV, fMeth, fMake, fMakeV, twoT, viewT, iZQ, iET, Option.bind_some, Option.map_some, Option.bind_none, Option.map_none, Option.bind, Option.map, List.getElem?_cons_zero, List.getElem?_cons_succ, List.getElem?_nil, List.set_cons_zero, List.set_cons_succ, List.set_nil, if_true, if_false, ↓reduceIte, Bool.not_true, Bool.not_false, decide_true, decide_false, Bool.false_eq_true, reduceCtorEq, true_and, false_and, and_true, and_false, not_true, not_false_eq_true, List.any_cons, List.any_nil, Bool.or_false, Bool.or_true, Bool.true_or, Bool.false_or, Bool.and_true, Bool.true_and, Bool.and_false, Bool.false_and, exists_eq_left, exists_eq_left', Option.some.injEq, A.d.injEq, D.int.injEq, D.bl.injEq, D.str.injEq, D.lst.injEq, D.tup.injEq, Except.ok.injEq, List.cons_append, List.nil_append, List.map_cons, List.map_nil, List.length_cons, List.length_nil, List.replicate, Nat.reduceSub, Nat.reduceAdd, List.append_nil, eq_self, or_true, true_or, or_false, false_or, Int.reduceNeg, Int.reducePow, Int.reduceLT, Int.reduceLE, List.length_set]
theorem v_bag (as : List A) (S : So) (ex : EK) (Q : AK) (h : fc_bag as S ex Q) : w_l_bag (stG N_l_bag as) S { nx := fun _ S' => Q (.d .non) S', rt := Q, ex := ex } := by
  obtain ⟨k, cs, rfl, hS, hl, hQ⟩ := h
  have hc := cut63 (l := cs.map D.int) (by simpa using hl)
  simp only [w_l_bag_0, w_l_bag_1, N_l_bag, hS, hc, stG, wSeq, wIf, wAsg, wRet, wRetN, wNext, wDrop, wP, wB, wPs, wCons, wNil, wOp, wFn, wPar, wAsgT, wTup, wLst, wNewL, setIx_eq, setA, wM1, wI, wFor, bV, bNot, bAnd, bOr, fOp, fC, fV, fCons, fNil, fCall, fIsi, fAnd, fOr, fNot, chain_le, fTup, fLst, fIf, fFn, tgN, tgT, setAll, gI, gLen, gLe, gLt, gGe, gGt, LP.gSub, gMod, gFdiv, gPow, gPlus, gTimes, gIntA, gInt, gIsN, gIx, tyA, TN.sub, LP.dataOf, A.toD, viewL, viewQ, viewT, gEq_ii, gEq_ss, gEq_bb, gEq_nn, fSl, slV, oN, oS, iL, iR1, wFnM, gFdivW, tNot', tV, wFrz, fFld, fldV, gEither, gOwnIn, gOwnBin, gOwnEq, fIsiO, gIsiO, fProp, propV, fMeth, fMake, fMakeV, twoT, viewT, iZQ, iET, Option.bind_some, Option.map_some, Option.bind_none, Option.map_none, Option.bind, Option.map, List.getElem?_cons_zero, List.getElem?_cons_succ, List.getElem?_nil, List.set_cons_zero, List.set_cons_succ, List.set_nil, if_true, if_false, ↓reduceIte, Bool.not_true, Bool.not_false, decide_true, decide_false, Bool.false_eq_true, reduceCtorEq, true_and, false_and, and_true, and_false, not_true, not_false_eq_true, List.any_cons, List.any_nil, Bool.or_false, Bool.or_true, Bool.true_or, Bool.false_or, Bool.and_true, Bool.true_and, Bool.and_false, Bool.false_and, exists_eq_left, exists_eq_left', Option.some.injEq, A.d.injEq, D.int.injEq, D.bl.injEq, D.str.injEq, D.lst.injEq, D.tup.injEq, Except.ok.injEq, List.cons_append, List.nil_append, List.map_cons, List.map_nil, List.length_cons, List.length_nil, List.replicate, Nat.reduceSub, Nat.reduceAdd, List.append_nil, eq_self, or_true, true_or, or_false, false_or, Int.reduceNeg, Int.reducePow, Int.reduceLT, Int.reduceLE, List.length_set]
  refine ⟨_, _, rfl, rfl, ?_⟩
  refine loop_inv (fun r Γ S' => ∃ (rc : List Int) (st : Int) (x : Option A), r = rc.map D.int ∧ Γ = [some (.loc k), some (.d (.int st)), x] ∧ S' = S ∧ 0 ≤ st ∧ st < 2147483579) ?_ ?_ _ _ _ ⟨cs, 10021, none, rfl, rfl, rfl, by decide, by decide⟩
  · rintro d r Γ S' nx ⟨rc, st, x, hr, rfl, rfl, h0, h1⟩ hnx
    cases rc with
    | nil => cases hr
    | cons c rc =>
      cases hr
      refine ⟨_, rfl, ?_⟩
      simp only [w_l_bag_for1_0, stG, wSeq, wIf, wAsg, wRet, wRetN, wNext, wDrop, wP, wB, wPs, wCons, wNil, wOp, wFn, wPar, wAsgT, wTup, wLst, wNewL, setIx_eq, setA, wM1, wI, wFor, bV, bNot, bAnd, bOr, fOp, fC, fV, fCons, fNil, fCall, fIsi, fAnd, fOr, fNot, chain_le, fTup, fLst, fIf, fFn, tgN, tgT, setAll, gI, gLen, gLe, gLt, gGe, gGt, LP.gSub, gMod, gFdiv, gPow, gPlus, gTimes, gIntA, gInt, gIsN, gIx, tyA, TN.sub, LP.dataOf, A.toD, viewL, viewQ, viewT, gEq_ii, gEq_ss, gEq_bb, gEq_nn, fSl, slV, oN, oS, iL, iR1, wFnM, gFdivW, tNot', tV, wFrz, fFld, fldV, gEither, gOwnIn, gOwnBin, gOwnEq, fIsiO, gIsiO, fProp, propV, fMeth, fMake, fMakeV, twoT, viewT, iZQ, iET, Option.bind_some, Option.map_some, Option.bind_none, Option.map_none, Option.bind, Option.map, List.getElem?_cons_zero, List.getElem?_cons_succ, List.getElem?_nil, List.set_cons_zero, List.set_cons_succ, List.set_nil, if_true, if_false, ↓reduceIte, Bool.not_true, Bool.not_false, decide_true, decide_false, Bool.false_eq_true, reduceCtorEq, true_and, false_and, and_true, and_false, not_true, not_false_eq_true, List.any_cons, List.any_nil, Bool.or_false, Bool.or_true, Bool.true_or, Bool.false_or, Bool.and_true, Bool.true_and, Bool.and_false, Bool.false_and, exists_eq_left, exists_eq_left', Option.some.injEq, A.d.injEq, D.int.injEq, D.bl.injEq, D.str.injEq, D.lst.injEq, D.tup.injEq, Except.ok.injEq, List.cons_append, List.nil_append, List.map_cons, List.map_nil, List.length_cons, List.length_nil, List.replicate, Nat.reduceSub, Nat.reduceAdd, List.append_nil, eq_self, or_true, true_or, or_false, false_or, Int.reduceNeg, Int.reducePow, Int.reduceLT, Int.reduceLE, List.length_set]
      exact hnx _ _ rfl ⟨rc, _, _, rfl, rfl, rfl, Int.emod_nonneg _ (by decide), Int.emod_lt_of_pos _ (by decide)⟩
  · rintro Γ S' ⟨rc, st, x, hr, rfl, rfl, h0, h1⟩
    have c := comp_ints (Γ := []) (x := x) (y := .d (.int st)) hS hl
    simp only [w_l_bag_2, c, stG, wSeq, wIf, wAsg, wRet, wRetN, wNext, wDrop, wP, wB, wPs, wCons, wNil, wOp, wFn, wPar, wAsgT, wTup, wLst, wNewL, setIx_eq, setA, wM1, wI, wFor, bV, bNot, bAnd, bOr, fOp, fC, fV, fCons, fNil, fCall, fIsi, fAnd, fOr, fNot, chain_le, fTup, fLst, fIf, fFn, tgN, tgT, setAll, gI, gLen, gLe, gLt, gGe, gGt, LP.gSub, gMod, gFdiv, gPow, gPlus, gTimes, gIntA, gInt, gIsN, gIx, tyA, TN.sub, LP.dataOf, A.toD, viewL, viewQ, viewT, gEq_ii, gEq_ss, gEq_bb, gEq_nn, fSl, slV, oN, oS, iL, iR1, wFnM, gFdivW, tNot', tV, wFrz, fFld, fldV, gEither, gOwnIn, gOwnBin, gOwnEq, fIsiO, gIsiO, fProp, propV, fMeth, fMake, fMakeV, twoT, viewT, iZQ, iET, Option.bind_some, Option.map_some, Option.bind_none, Option.map_none, Option.bind, Option.map, List.getElem?_cons_zero, List.getElem?_cons_succ, List.getElem?_nil, List.set_cons_zero, List.set_cons_succ, List.set_nil, if_true, if_false, ↓reduceIte, Bool.not_true, Bool.not_false, decide_true, decide_false, Bool.false_eq_true, reduceCtorEq, true_and, false_and, and_true, and_false, not_true, not_false_eq_true, List.any_cons, List.any_nil, Bool.or_false, Bool.or_true, Bool.true_or, Bool.false_or, Bool.and_true, Bool.true_and, Bool.and_false, Bool.false_and, exists_eq_left, exists_eq_left', Option.some.injEq, A.d.injEq, D.int.injEq, D.bl.injEq, D.str.injEq, D.lst.injEq, D.tup.injEq, Except.ok.injEq, List.cons_append, List.nil_append, List.map_cons, List.map_nil, List.length_cons, List.length_nil, List.replicate, Nat.reduceSub, Nat.reduceAdd, List.append_nil, eq_self, or_true, true_or, or_false, false_or, Int.reduceNeg, Int.reducePow, Int.reduceLT, Int.reduceLE, List.length_set]
    exact hQ _ ⟨cs, 0, 0, st, 0, rfl, h0, h1, hl⟩
end K
set_option maxHeartbeats 4000000
namespace K
open PySem PySem.Spec PyProof.Rows L2 LP
theorem xat_code {i : Nat} {Γ : Ga} {S : So} {d : D} {t : ET} (ht : t ∈ errT) (h : fV i Γ S = some (.d (exOf d t))) : fXat eCode "code" (fV i) Γ S = some (.d (.str t.code)) := by
  have h1 : ∀ t ∈ errT, ¬ (("code" : Str) = t.fld) := by decide +kernel
  have h2 : ∀ t ∈ errT, eCode.contains t.c = true := by decide +kernel
  simp only [fXat, h, Option.bind_some, exOf, h2 t ht, if_true, lk2, if_neg (h1 t ht), Option.map_some]
theorem xat_fld {i : Nat} {Γ : Ga} {S : So} {d : D} {t : ET} (ht : t ∈ errT) (h : fV i Γ S = some (.d (exOf d t))) : fXat eCode t.fld (fV i) Γ S = some (.d d) := by
  have h2 : ∀ t ∈ errT, eCode.contains t.c = true := by decide +kernel
  simp only [fXat, h, Option.bind_some, exOf, h2 t ht, if_true, lk2, Option.map_some]
theorem xis_v {i : Nat} {Γ : Ga} {S : So} {c : Nat} {ns : List Str} {l : List D} {ys : List Nat} (hc : c ∈ eAll) (h : fV i Γ S = some (.d (.exc c ns l))) : fXis eAll ys (fV i) Γ S = some (.d (.bl (ys.contains c))) := by
  have h2 : eAll.contains c = true := by simpa using hc
  simp only [fXis, h, Option.bind_some, h2, if_true]
theorem cat_l {S : So} {a b : List D} (h : a.length + b.length ≤ 1000) : gCat S (.d (.lst a)) (.d (.lst b)) = some (.lst (a ++ b)) := by
  have : a.length + b.length ≤ sizeLine := Nat.le_trans h (by decide)
  simp only [gCat, gCat.viewLs, Option.bind_some, this, if_true]
theorem add_l {f g : QF} {Γ : Ga} {S : So} {a b : List D} (h1 : f Γ S = some (.d (.lst a))) (h2 : g Γ S = some (.d (.lst b))) (h : a.length + b.length ≤ 1000) : fOp gPlus f g Γ S = some (.d (.lst (a ++ b))) := by
  simp only [fOp, h1, h2, gPlus, cat_l h, Option.bind_some, Option.map_some]
theorem v_named (ds : List D) (o : Except Er D) (h : G_excs ds = some o) : w_l_named (stG N_l_named (ds.map A.d)) [] (dnP o) := by
  unfold G_excs at h
  split at h
  · cases h
    simp only [w_l_named_0, w_l_named_1, w_l_named_2, w_l_named_3, w_l_named_4, N_l_named, fErrV, stG, wSeq, wIf, wAsg, wRet, wRetN, wNext, wDrop, wP, wB, wPs, wCons, wNil, wOp, wFn, wPar, wAsgT, wTup, wLst, wNewL, setIx_eq, setA, wM1, wI, wFor, bV, bNot, bAnd, bOr, fOp, fC, fV, fCons, fNil, fCall, fIsi, fAnd, fOr, fNot, chain_le, fTup, fLst, fIf, fFn, tgN, tgT, setAll, gI, gLen, gLe, gLt, gGe, gGt, LP.gSub, gMod, gFdiv, gPow, gPlus, gTimes, gIntA, gInt, gIsN, gIx, tyA, TN.sub, LP.dataOf, A.toD, viewL, viewQ, viewT, gEq_ii, gEq_ss, gEq_bb, gEq_nn, fSl, slV, oN, oS, iL, iR1, wFnM, gFdivW, tNot', tV, wFrz, fFld, fldV, gEither, gOwnIn, gOwnBin, gOwnEq, fIsiO, gIsiO, fProp, propV, fMeth, fMake, fMakeV, twoT, viewT, iZQ, iET, Option.bind_some, Option.map_some, Option.bind_none, Option.map_none, Option.bind, Option.map, List.getElem?_cons_zero, List.getElem?_cons_succ, List.getElem?_nil, List.set_cons_zero, List.set_cons_succ, List.set_nil, if_true, if_false, ↓reduceIte, Bool.not_true, Bool.not_false, decide_true, decide_false, Bool.false_eq_true, reduceCtorEq, true_and, false_and, and_true, and_false, not_true, not_false_eq_true, List.any_cons, List.any_nil, Bool.or_false, Bool.or_true, Bool.true_or, Bool.false_or, Bool.and_true, Bool.true_and, Bool.and_false, Bool.false_and, exists_eq_left, exists_eq_left', Option.some.injEq, A.d.injEq, D.int.injEq, D.bl.injEq, D.str.injEq, D.lst.injEq, D.tup.injEq, Except.ok.injEq, List.cons_append, List.nil_append, List.map_cons, List.map_nil, List.length_cons, List.length_nil, List.replicate, Nat.reduceSub, Nat.reduceAdd, List.append_nil, eq_self, or_true, true_or, or_false, false_or, Int.reduceNeg, Int.reducePow, Int.reduceLT, Int.reduceLE, List.length_set]
    refine ⟨_, rfl, _, rfl, _, rfl, _, rfl, _, rfl, rfl⟩
  · cases h
theorem v_bare (ds : List D) (o : Except Er D) (h : G_excs ds = some o) : w_l_bare (stG N_l_bare (ds.map A.d)) [] (dnP o) := by
  unfold G_excs at h
  split at h
  · cases h
    simp only [w_l_bare_0, w_l_bare_1, w_l_bare_2, w_l_bare_3, N_l_bare, fErrV, stG, wSeq, wIf, wAsg, wRet, wRetN, wNext, wDrop, wP, wB, wPs, wCons, wNil, wOp, wFn, wPar, wAsgT, wTup, wLst, wNewL, setIx_eq, setA, wM1, wI, wFor, bV, bNot, bAnd, bOr, fOp, fC, fV, fCons, fNil, fCall, fIsi, fAnd, fOr, fNot, chain_le, fTup, fLst, fIf, fFn, tgN, tgT, setAll, gI, gLen, gLe, gLt, gGe, gGt, LP.gSub, gMod, gFdiv, gPow, gPlus, gTimes, gIntA, gInt, gIsN, gIx, tyA, TN.sub, LP.dataOf, A.toD, viewL, viewQ, viewT, gEq_ii, gEq_ss, gEq_bb, gEq_nn, fSl, slV, oN, oS, iL, iR1, wFnM, gFdivW, tNot', tV, wFrz, fFld, fldV, gEither, gOwnIn, gOwnBin, gOwnEq, fIsiO, gIsiO, fProp, propV, fMeth, fMake, fMakeV, twoT, viewT, iZQ, iET, Option.bind_some, Option.map_some, Option.bind_none, Option.map_none, Option.bind, Option.map, List.getElem?_cons_zero, List.getElem?_cons_succ, List.getElem?_nil, List.set_cons_zero, List.set_cons_succ, List.set_nil, if_true, if_false, ↓reduceIte, Bool.not_true, Bool.not_false, decide_true, decide_false, Bool.false_eq_true, reduceCtorEq, true_and, false_and, and_true, and_false, not_true, not_false_eq_true, List.any_cons, List.any_nil, Bool.or_false, Bool.or_true, Bool.true_or, Bool.false_or, Bool.and_true, Bool.true_and, Bool.and_false, Bool.false_and, exists_eq_left, exists_eq_left', Option.some.injEq, A.d.injEq, D.int.injEq, D.bl.injEq, D.str.injEq, D.lst.injEq, D.tup.injEq, Except.ok.injEq, List.cons_append, List.nil_append, List.map_cons, List.map_nil, List.length_cons, List.length_nil, List.replicate, Nat.reduceSub, Nat.reduceAdd, List.append_nil, eq_self, or_true, true_or, or_false, false_or, Int.reduceNeg, Int.reducePow, Int.reduceLT, Int.reduceLE, List.length_set]
    refine ⟨_, rfl, _, rfl, _, rfl, _, rfl, rfl⟩
  · cases h
theorem comp_keep {f : QF} {x0 x1 x2 : Option A} {S : So} {bs : List Bool} (h : f [x0, x1, x2] S = some (.d (.lst (bs.map .bl)))) : fComp (iL f) (tgN 2) [2] (bV (fV 2)) (fV 2) [x0, x1, x2] S = some (.d (.lst ((bs.filter id).map .bl))) := by
  have c : ∀ bs : List Bool, compL (eltF (tgN 2) [2] (bV (fV 2)) (fV 2) [x0, x1, x2] S) (bs.map .bl) = some ((bs.filter id).map .bl) := by
    intro bs
    induction bs with
    | nil => rfl
    | cons b bs ih =>
      rw [List.map_cons, compL, ih]
      cases b <;> simp [eltF, tgN, wipeG, bV, fV, A.toD]
  simp only [fComp, iL, h, viewL, Option.bind_some, Option.map_some, c]
theorem flat_strs (l : List Str) : (l.map D.str).all D.flat = true := by
  rw [List.all_eq_true]
  intro d hd
  obtain ⟨i, _, rfl⟩ := List.mem_map.mp hd
  rfl
theorem any_strs (n : Str) (l : List Str) : ((l.map D.str).any fun y => feq y (.str n)) = decide (n ∈ l) := by
  rw [List.any_map]
  induction l with
  | nil => simp
  | cons x l ih =>
    rw [List.any_cons, ih]
    by_cases h : x = n
    · subst h; simp [feq]
    · have : ¬ n = x := fun e => h e.symm
      simp [feq, h, this]
theorem in_strs (S : So) (n : Str) (l : List Str) : gInU false S (.d (.str n)) (.d (.tup (l.map .str))) = some (.bl (decide (n ∈ l))) := by
  simp only [gInU, gIn, viewQ, viewL, Option.bind_some, flat_strs, any_strs, D.flat, Bool.and_self, if_true, Bool.false_eq_true, if_false]
abbrev fT1 : List Str := ["InvalidSpan", "InvalidSeat", "InvalidRecord", "Clash", "Contradiction", "InvalidCommand"]
abbrev fT2 : List Str := ["DuplicateName", "NotAThing", "UnknownName"]
abbrev fT3 : List Str := ["TooMany", "Full"]
/-- which way a code goes -/
def way (x : Str) : Bool × Bool × Bool × Bool × Bool × Bool := (decide (x ∈ fT1), decide (x ∈ fT2), decide (x ∈ fT3), decide (x = "TooMany"), decide (x = "NothingLeft"), decide (x = "InvalidPage"))
def goesF (f x : Str) : Bool := match way x with
  | (true, _) => f == "at"
  | (false, true, _) => f == "name"
  | (false, false, true, true, _) => f == "most"
  | (false, false, true, false, _) => f == "limit"
  | (false, false, false, _, true, _) => false
  | (false, false, false, _, false, true) => f == "line"
  | (false, false, false, _, false, false) => f == "given"
theorem v_field (ds : List D) (o : Except Er D) (h : G_fieldV ds = some o) : w_l_field (stG N_l_field (ds.map A.d)) [] (dnP o) := by
  unfold G_fieldV at h
  split at h
  · rename_i c f g y x
    split at h
    · rename_i hh
      obtain ⟨rfl, ht⟩ := hh
      cases h
      have hg : goesF f x = true := by
        have : ∀ q ∈ errT, goesF q.fld q.code = true := by decide +kernel
        exact this _ ht
      have hc : fXat eCode "code" (fV 0) [some (.d (.exc c [f, "code"] [y, .str x]))] [] = some (.d (.str x)) := xat_code (t := ⟨c, x, f⟩) ht rfl
      have ho : fXat eCode f (fV 0) [some (.d (.exc c [f, "code"] [y, .str x]))] [] = some (.d y) := xat_fld (t := ⟨c, x, f⟩) ht rfl
      have i1 := fun S => in_strs S x fT1
      have i2 := fun S => in_strs S x fT2
      have i3 := fun S => in_strs S x fT3
      simp only [List.map_cons, List.map_nil, fT1, fT2, fT3] at i1 i2 i3
      unfold goesF way at hg
      simp only [fT1, fT2, fT3] at hg
      generalize decide (x ∈ (["InvalidSpan", "InvalidSeat", "InvalidRecord", "Clash", "Contradiction", "InvalidCommand"] : List Str)) = b1 at hg i1
      generalize decide (x ∈ (["DuplicateName", "NotAThing", "UnknownName"] : List Str)) = b2 at hg i2
      generalize decide (x ∈ (["TooMany", "Full"] : List Str)) = b3 at hg i3
      have e4 : ∀ S, gEqU false S (.d (.str x)) (.d (.str "TooMany")) = some (.bl (decide (x = "TooMany"))) := fun S => by simp only [stG, wSeq, wIf, wAsg, wRet, wRetN, wNext, wDrop, wP, wB, wPs, wCons, wNil, wOp, wFn, wPar, wAsgT, wTup, wLst, wNewL, setIx_eq, setA, wM1, wI, wFor, bV, bNot, bAnd, bOr, fOp, fC, fV, fCons, fNil, fCall, fIsi, fAnd, fOr, fNot, chain_le, fTup, fLst, fIf, fFn, tgN, tgT, setAll, gI, gLen, gLe, gLt, gGe, gGt, LP.gSub, gMod, gFdiv, gPow, gPlus, gTimes, gIntA, gInt, gIsN, gIx, tyA, TN.sub, LP.dataOf, A.toD, viewL, viewQ, viewT, gEq_ii, gEq_ss, gEq_bb, gEq_nn, fSl, slV, oN, oS, iL, iR1, wFnM, gFdivW, tNot', tV, wFrz, fFld, fldV, gEither, gOwnIn, gOwnBin, gOwnEq, fIsiO, gIsiO, fProp, propV, fMeth, fMake, fMakeV, twoT, viewT, iZQ, iET, Option.bind_some, Option.map_some, Option.bind_none, Option.map_none, Option.bind, Option.map, List.getElem?_cons_zero, List.getElem?_cons_succ, List.getElem?_nil, List.set_cons_zero, List.set_cons_succ, List.set_nil, if_true, if_false, ↓reduceIte, Bool.not_true, Bool.not_false, decide_true, decide_false, Bool.false_eq_true, reduceCtorEq, true_and, false_and, and_true, and_false, not_true, not_false_eq_true, List.any_cons, List.any_nil, Bool.or_false, Bool.or_true, Bool.true_or, Bool.false_or, Bool.and_true, Bool.true_and, Bool.and_false, Bool.false_and, exists_eq_left, exists_eq_left', Option.some.injEq, A.d.injEq, D.int.injEq, D.bl.injEq, D.str.injEq, D.lst.injEq, D.tup.injEq, Except.ok.injEq, List.cons_append, List.nil_append, List.map_cons, List.map_nil, List.length_cons, List.length_nil, List.replicate, Nat.reduceSub, Nat.reduceAdd, List.append_nil, eq_self, or_true, true_or, or_false, false_or, Int.reduceNeg, Int.reducePow, Int.reduceLT, Int.reduceLE, List.length_set]
      have e5 : ∀ S, gEqU false S (.d (.str x)) (.d (.str "NothingLeft")) = some (.bl (decide (x = "NothingLeft"))) := fun S => by simp only [stG, wSeq, wIf, wAsg, wRet, wRetN, wNext, wDrop, wP, wB, wPs, wCons, wNil, wOp, wFn, wPar, wAsgT, wTup, wLst, wNewL, setIx_eq, setA, wM1, wI, wFor, bV, bNot, bAnd, bOr, fOp, fC, fV, fCons, fNil, fCall, fIsi, fAnd, fOr, fNot, chain_le, fTup, fLst, fIf, fFn, tgN, tgT, setAll, gI, gLen, gLe, gLt, gGe, gGt, LP.gSub, gMod, gFdiv, gPow, gPlus, gTimes, gIntA, gInt, gIsN, gIx, tyA, TN.sub, LP.dataOf, A.toD, viewL, viewQ, viewT, gEq_ii, gEq_ss, gEq_bb, gEq_nn, fSl, slV, oN, oS, iL, iR1, wFnM, gFdivW, tNot', tV, wFrz, fFld, fldV, gEither, gOwnIn, gOwnBin, gOwnEq, fIsiO, gIsiO, fProp, propV, fMeth, fMake, fMakeV, twoT, viewT, iZQ, iET, Option.bind_some, Option.map_some, Option.bind_none, Option.map_none, Option.bind, Option.map, List.getElem?_cons_zero, List.getElem?_cons_succ, List.getElem?_nil, List.set_cons_zero, List.set_cons_succ, List.set_nil, if_true, if_false, ↓reduceIte, Bool.not_true, Bool.not_false, decide_true, decide_false, Bool.false_eq_true, reduceCtorEq, true_and, false_and, and_true, and_false, not_true, not_false_eq_true, List.any_cons, List.any_nil, Bool.or_false, Bool.or_true, Bool.true_or, Bool.false_or, Bool.and_true, Bool.true_and, Bool.and_false, Bool.false_and, exists_eq_left, exists_eq_left', Option.some.injEq, A.d.injEq, D.int.injEq, D.bl.injEq, D.str.injEq, D.lst.injEq, D.tup.injEq, Except.ok.injEq, List.cons_append, List.nil_append, List.map_cons, List.map_nil, List.length_cons, List.length_nil, List.replicate, Nat.reduceSub, Nat.reduceAdd, List.append_nil, eq_self, or_true, true_or, or_false, false_or, Int.reduceNeg, Int.reducePow, Int.reduceLT, Int.reduceLE, List.length_set]
      have e6 : ∀ S, gEqU false S (.d (.str x)) (.d (.str "InvalidPage")) = some (.bl (decide (x = "InvalidPage"))) := fun S => by simp only [stG, wSeq, wIf, wAsg, wRet, wRetN, wNext, wDrop, wP, wB, wPs, wCons, wNil, wOp, wFn, wPar, wAsgT, wTup, wLst, wNewL, setIx_eq, setA, wM1, wI, wFor, bV, bNot, bAnd, bOr, fOp, fC, fV, fCons, fNil, fCall, fIsi, fAnd, fOr, fNot, chain_le, fTup, fLst, fIf, fFn, tgN, tgT, setAll, gI, gLen, gLe, gLt, gGe, gGt, LP.gSub, gMod, gFdiv, gPow, gPlus, gTimes, gIntA, gInt, gIsN, gIx, tyA, TN.sub, LP.dataOf, A.toD, viewL, viewQ, viewT, gEq_ii, gEq_ss, gEq_bb, gEq_nn, fSl, slV, oN, oS, iL, iR1, wFnM, gFdivW, tNot', tV, wFrz, fFld, fldV, gEither, gOwnIn, gOwnBin, gOwnEq, fIsiO, gIsiO, fProp, propV, fMeth, fMake, fMakeV, twoT, viewT, iZQ, iET, Option.bind_some, Option.map_some, Option.bind_none, Option.map_none, Option.bind, Option.map, List.getElem?_cons_zero, List.getElem?_cons_succ, List.getElem?_nil, List.set_cons_zero, List.set_cons_succ, List.set_nil, if_true, if_false, ↓reduceIte, Bool.not_true, Bool.not_false, decide_true, decide_false, Bool.false_eq_true, reduceCtorEq, true_and, false_and, and_true, and_false, not_true, not_false_eq_true, List.any_cons, List.any_nil, Bool.or_false, Bool.or_true, Bool.true_or, Bool.false_or, Bool.and_true, Bool.true_and, Bool.and_false, Bool.false_and, exists_eq_left, exists_eq_left', Option.some.injEq, A.d.injEq, D.int.injEq, D.bl.injEq, D.str.injEq, D.lst.injEq, D.tup.injEq, Except.ok.injEq, List.cons_append, List.nil_append, List.map_cons, List.map_nil, List.length_cons, List.length_nil, List.replicate, Nat.reduceSub, Nat.reduceAdd, List.append_nil, eq_self, or_true, true_or, or_false, false_or, Int.reduceNeg, Int.reducePow, Int.reduceLT, Int.reduceLE, List.length_set]
      generalize decide (x = "TooMany") = b4 at hg e4
      generalize decide (x = "NothingLeft") = b5 at hg e5
      generalize decide (x = "InvalidPage") = b6 at hg e6
      cases b1 with
      | true => obtain rfl := beq_iff_eq.mp hg; simp only [w_l_field_0, N_l_field, hc, i1, ho, stG, wSeq, wIf, wAsg, wRet, wRetN, wNext, wDrop, wP, wB, wPs, wCons, wNil, wOp, wFn, wPar, wAsgT, wTup, wLst, wNewL, setIx_eq, setA, wM1, wI, wFor, bV, bNot, bAnd, bOr, fOp, fC, fV, fCons, fNil, fCall, fIsi, fAnd, fOr, fNot, chain_le, fTup, fLst, fIf, fFn, tgN, tgT, setAll, gI, gLen, gLe, gLt, gGe, gGt, LP.gSub, gMod, gFdiv, gPow, gPlus, gTimes, gIntA, gInt, gIsN, gIx, tyA, TN.sub, LP.dataOf, A.toD, viewL, viewQ, viewT, gEq_ii, gEq_ss, gEq_bb, gEq_nn, fSl, slV, oN, oS, iL, iR1, wFnM, gFdivW, tNot', tV, wFrz, fFld, fldV, gEither, gOwnIn, gOwnBin, gOwnEq, fIsiO, gIsiO, fProp, propV, fMeth, fMake, fMakeV, twoT, viewT, iZQ, iET, Option.bind_some, Option.map_some, Option.bind_none, Option.map_none, Option.bind, Option.map, List.getElem?_cons_zero, List.getElem?_cons_succ, List.getElem?_nil, List.set_cons_zero, List.set_cons_succ, List.set_nil, if_true, if_false, ↓reduceIte, Bool.not_true, Bool.not_false, decide_true, decide_false, Bool.false_eq_true, reduceCtorEq, true_and, false_and, and_true, and_false, not_true, not_false_eq_true, List.any_cons, List.any_nil, Bool.or_false, Bool.or_true, Bool.true_or, Bool.false_or, Bool.and_true, Bool.true_and, Bool.and_false, Bool.false_and, exists_eq_left, exists_eq_left', Option.some.injEq, A.d.injEq, D.int.injEq, D.bl.injEq, D.str.injEq, D.lst.injEq, D.tup.injEq, Except.ok.injEq, List.cons_append, List.nil_append, List.map_cons, List.map_nil, List.length_cons, List.length_nil, List.replicate, Nat.reduceSub, Nat.reduceAdd, List.append_nil, eq_self, or_true, true_or, or_false, false_or, Int.reduceNeg, Int.reducePow, Int.reduceLT, Int.reduceLE, List.length_set]
      | false =>
        cases b2 with
        | true => obtain rfl := beq_iff_eq.mp hg; simp only [w_l_field_0, w_l_field_1, N_l_field, hc, i1, i2, ho, stG, wSeq, wIf, wAsg, wRet, wRetN, wNext, wDrop, wP, wB, wPs, wCons, wNil, wOp, wFn, wPar, wAsgT, wTup, wLst, wNewL, setIx_eq, setA, wM1, wI, wFor, bV, bNot, bAnd, bOr, fOp, fC, fV, fCons, fNil, fCall, fIsi, fAnd, fOr, fNot, chain_le, fTup, fLst, fIf, fFn, tgN, tgT, setAll, gI, gLen, gLe, gLt, gGe, gGt, LP.gSub, gMod, gFdiv, gPow, gPlus, gTimes, gIntA, gInt, gIsN, gIx, tyA, TN.sub, LP.dataOf, A.toD, viewL, viewQ, viewT, gEq_ii, gEq_ss, gEq_bb, gEq_nn, fSl, slV, oN, oS, iL, iR1, wFnM, gFdivW, tNot', tV, wFrz, fFld, fldV, gEither, gOwnIn, gOwnBin, gOwnEq, fIsiO, gIsiO, fProp, propV, fMeth, fMake, fMakeV, twoT, viewT, iZQ, iET, Option.bind_some, Option.map_some, Option.bind_none, Option.map_none, Option.bind, Option.map, List.getElem?_cons_zero, List.getElem?_cons_succ, List.getElem?_nil, List.set_cons_zero, List.set_cons_succ, List.set_nil, if_true, if_false, ↓reduceIte, Bool.not_true, Bool.not_false, decide_true, decide_false, Bool.false_eq_true, reduceCtorEq, true_and, false_and, and_true, and_false, not_true, not_false_eq_true, List.any_cons, List.any_nil, Bool.or_false, Bool.or_true, Bool.true_or, Bool.false_or, Bool.and_true, Bool.true_and, Bool.and_false, Bool.false_and, exists_eq_left, exists_eq_left', Option.some.injEq, A.d.injEq, D.int.injEq, D.bl.injEq, D.str.injEq, D.lst.injEq, D.tup.injEq, Except.ok.injEq, List.cons_append, List.nil_append, List.map_cons, List.map_nil, List.length_cons, List.length_nil, List.replicate, Nat.reduceSub, Nat.reduceAdd, List.append_nil, eq_self, or_true, true_or, or_false, false_or, Int.reduceNeg, Int.reducePow, Int.reduceLT, Int.reduceLE, List.length_set]
        | false =>
          cases b3 with
          | true =>
            cases b4 with
            | true => obtain rfl := beq_iff_eq.mp hg; simp only [w_l_field_0, w_l_field_1, w_l_field_2, N_l_field, hc, i1, i2, i3, e4, ho, stG, wSeq, wIf, wAsg, wRet, wRetN, wNext, wDrop, wP, wB, wPs, wCons, wNil, wOp, wFn, wPar, wAsgT, wTup, wLst, wNewL, setIx_eq, setA, wM1, wI, wFor, bV, bNot, bAnd, bOr, fOp, fC, fV, fCons, fNil, fCall, fIsi, fAnd, fOr, fNot, chain_le, fTup, fLst, fIf, fFn, tgN, tgT, setAll, gI, gLen, gLe, gLt, gGe, gGt, LP.gSub, gMod, gFdiv, gPow, gPlus, gTimes, gIntA, gInt, gIsN, gIx, tyA, TN.sub, LP.dataOf, A.toD, viewL, viewQ, viewT, gEq_ii, gEq_ss, gEq_bb, gEq_nn, fSl, slV, oN, oS, iL, iR1, wFnM, gFdivW, tNot', tV, wFrz, fFld, fldV, gEither, gOwnIn, gOwnBin, gOwnEq, fIsiO, gIsiO, fProp, propV, fMeth, fMake, fMakeV, twoT, viewT, iZQ, iET, Option.bind_some, Option.map_some, Option.bind_none, Option.map_none, Option.bind, Option.map, List.getElem?_cons_zero, List.getElem?_cons_succ, List.getElem?_nil, List.set_cons_zero, List.set_cons_succ, List.set_nil, if_true, if_false, ↓reduceIte, Bool.not_true, Bool.not_false, decide_true, decide_false, Bool.false_eq_true, reduceCtorEq, true_and, false_and, and_true, and_false, not_true, not_false_eq_true, List.any_cons, List.any_nil, Bool.or_false, Bool.or_true, Bool.true_or, Bool.false_or, Bool.and_true, Bool.true_and, Bool.and_false, Bool.false_and, exists_eq_left, exists_eq_left', Option.some.injEq, A.d.injEq, D.int.injEq, D.bl.injEq, D.str.injEq, D.lst.injEq, D.tup.injEq, Except.ok.injEq, List.cons_append, List.nil_append, List.map_cons, List.map_nil, List.length_cons, List.length_nil, List.replicate, Nat.reduceSub, Nat.reduceAdd, List.append_nil, eq_self, or_true, true_or, or_false, false_or, Int.reduceNeg, Int.reducePow, Int.reduceLT, Int.reduceLE, List.length_set]
            | false => obtain rfl := beq_iff_eq.mp hg; simp only [w_l_field_0, w_l_field_1, w_l_field_2, N_l_field, hc, i1, i2, i3, e4, ho, stG, wSeq, wIf, wAsg, wRet, wRetN, wNext, wDrop, wP, wB, wPs, wCons, wNil, wOp, wFn, wPar, wAsgT, wTup, wLst, wNewL, setIx_eq, setA, wM1, wI, wFor, bV, bNot, bAnd, bOr, fOp, fC, fV, fCons, fNil, fCall, fIsi, fAnd, fOr, fNot, chain_le, fTup, fLst, fIf, fFn, tgN, tgT, setAll, gI, gLen, gLe, gLt, gGe, gGt, LP.gSub, gMod, gFdiv, gPow, gPlus, gTimes, gIntA, gInt, gIsN, gIx, tyA, TN.sub, LP.dataOf, A.toD, viewL, viewQ, viewT, gEq_ii, gEq_ss, gEq_bb, gEq_nn, fSl, slV, oN, oS, iL, iR1, wFnM, gFdivW, tNot', tV, wFrz, fFld, fldV, gEither, gOwnIn, gOwnBin, gOwnEq, fIsiO, gIsiO, fProp, propV, fMeth, fMake, fMakeV, twoT, viewT, iZQ, iET, Option.bind_some, Option.map_some, Option.bind_none, Option.map_none, Option.bind, Option.map, List.getElem?_cons_zero, List.getElem?_cons_succ, List.getElem?_nil, List.set_cons_zero, List.set_cons_succ, List.set_nil, if_true, if_false, ↓reduceIte, Bool.not_true, Bool.not_false, decide_true, decide_false, Bool.false_eq_true, reduceCtorEq, true_and, false_and, and_true, and_false, not_true, not_false_eq_true, List.any_cons, List.any_nil, Bool.or_false, Bool.or_true, Bool.true_or, Bool.false_or, Bool.and_true, Bool.true_and, Bool.and_false, Bool.false_and, exists_eq_left, exists_eq_left', Option.some.injEq, A.d.injEq, D.int.injEq, D.bl.injEq, D.str.injEq, D.lst.injEq, D.tup.injEq, Except.ok.injEq, List.cons_append, List.nil_append, List.map_cons, List.map_nil, List.length_cons, List.length_nil, List.replicate, Nat.reduceSub, Nat.reduceAdd, List.append_nil, eq_self, or_true, true_or, or_false, false_or, Int.reduceNeg, Int.reducePow, Int.reduceLT, Int.reduceLE, List.length_set]
          | false =>
            cases b5 with
            | true => cases b4 <;> cases hg
            | false =>
              cases b6 with
              | true => obtain rfl := beq_iff_eq.mp (show (f == "line") = true by cases b4 <;> exact hg); simp only [w_l_field_0, w_l_field_1, w_l_field_2, w_l_field_3, w_l_field_4, N_l_field, hc, i1, i2, i3, e5, e6, ho, stG, wSeq, wIf, wAsg, wRet, wRetN, wNext, wDrop, wP, wB, wPs, wCons, wNil, wOp, wFn, wPar, wAsgT, wTup, wLst, wNewL, setIx_eq, setA, wM1, wI, wFor, bV, bNot, bAnd, bOr, fOp, fC, fV, fCons, fNil, fCall, fIsi, fAnd, fOr, fNot, chain_le, fTup, fLst, fIf, fFn, tgN, tgT, setAll, gI, gLen, gLe, gLt, gGe, gGt, LP.gSub, gMod, gFdiv, gPow, gPlus, gTimes, gIntA, gInt, gIsN, gIx, tyA, TN.sub, LP.dataOf, A.toD, viewL, viewQ, viewT, gEq_ii, gEq_ss, gEq_bb, gEq_nn, fSl, slV, oN, oS, iL, iR1, wFnM, gFdivW, tNot', tV, wFrz, fFld, fldV, gEither, gOwnIn, gOwnBin, gOwnEq, fIsiO, gIsiO, fProp, propV, fMeth, fMake, fMakeV, twoT, viewT, iZQ, iET, Option.bind_some, Option.map_some, Option.bind_none, Option.map_none, Option.bind, Option.map, List.getElem?_cons_zero, List.getElem?_cons_succ, List.getElem?_nil, List.set_cons_zero, List.set_cons_succ, List.set_nil, if_true, if_false, ↓reduceIte, Bool.not_true, Bool.not_false, decide_true, decide_false, Bool.false_eq_true, reduceCtorEq, true_and, false_and, and_true, and_false, not_true, not_false_eq_true, List.any_cons, List.any_nil, Bool.or_false, Bool.or_true, Bool.true_or, Bool.false_or, Bool.and_true, Bool.true_and, Bool.and_false, Bool.false_and, exists_eq_left, exists_eq_left', Option.some.injEq, A.d.injEq, D.int.injEq, D.bl.injEq, D.str.injEq, D.lst.injEq, D.tup.injEq, Except.ok.injEq, List.cons_append, List.nil_append, List.map_cons, List.map_nil, List.length_cons, List.length_nil, List.replicate, Nat.reduceSub, Nat.reduceAdd, List.append_nil, eq_self, or_true, true_or, or_false, false_or, Int.reduceNeg, Int.reducePow, Int.reduceLT, Int.reduceLE, List.length_set]
              | false => obtain rfl := beq_iff_eq.mp (show (f == "given") = true by cases b4 <;> exact hg); simp only [w_l_field_0, w_l_field_1, w_l_field_2, w_l_field_3, w_l_field_4, N_l_field, hc, i1, i2, i3, e5, e6, ho, stG, wSeq, wIf, wAsg, wRet, wRetN, wNext, wDrop, wP, wB, wPs, wCons, wNil, wOp, wFn, wPar, wAsgT, wTup, wLst, wNewL, setIx_eq, setA, wM1, wI, wFor, bV, bNot, bAnd, bOr, fOp, fC, fV, fCons, fNil, fCall, fIsi, fAnd, fOr, fNot, chain_le, fTup, fLst, fIf, fFn, tgN, tgT, setAll, gI, gLen, gLe, gLt, gGe, gGt, LP.gSub, gMod, gFdiv, gPow, gPlus, gTimes, gIntA, gInt, gIsN, gIx, tyA, TN.sub, LP.dataOf, A.toD, viewL, viewQ, viewT, gEq_ii, gEq_ss, gEq_bb, gEq_nn, fSl, slV, oN, oS, iL, iR1, wFnM, gFdivW, tNot', tV, wFrz, fFld, fldV, gEither, gOwnIn, gOwnBin, gOwnEq, fIsiO, gIsiO, fProp, propV, fMeth, fMake, fMakeV, twoT, viewT, iZQ, iET, Option.bind_some, Option.map_some, Option.bind_none, Option.map_none, Option.bind, Option.map, List.getElem?_cons_zero, List.getElem?_cons_succ, List.getElem?_nil, List.set_cons_zero, List.set_cons_succ, List.set_nil, if_true, if_false, ↓reduceIte, Bool.not_true, Bool.not_false, decide_true, decide_false, Bool.false_eq_true, reduceCtorEq, true_and, false_and, and_true, and_false, not_true, not_false_eq_true, List.any_cons, List.any_nil, Bool.or_false, Bool.or_true, Bool.true_or, Bool.false_or, Bool.and_true, Bool.true_and, Bool.and_false, Bool.false_and, exists_eq_left, exists_eq_left', Option.some.injEq, A.d.injEq, D.int.injEq, D.bl.injEq, D.str.injEq, D.lst.injEq, D.tup.injEq, Except.ok.injEq, List.cons_append, List.nil_append, List.map_cons, List.map_nil, List.length_cons, List.length_nil, List.replicate, Nat.reduceSub, Nat.reduceAdd, List.append_nil, eq_self, or_true, true_or, or_false, false_or, Int.reduceNeg, Int.reducePow, Int.reduceLT, Int.reduceLE, List.length_set]
    · cases h
  · cases h
theorem cls_list (c : Nat) (hc : c ∈ eCode) : ((([[1], [2], [3], [4], [5], [6], [7], [8], [9], [10], [11], [12], [13], [14], [15], [16], [17], [18]] : List (List Nat)).map fun l => l.contains c).filter id).length = (if c = 19 then 0 else 1) := by
  have : ∀ c ∈ eCode, ((([[1], [2], [3], [4], [5], [6], [7], [8], [9], [10], [11], [12], [13], [14], [15], [16], [17], [18]] : List (List Nat)).map fun l => l.contains c).filter id).length = (if c = 19 then 0 else 1) := by decide +kernel
  exact this c hc
theorem v_classes (ds : List D) (o : Except Er D) (h : G_classes ds = some o) : w_l_classes_of (stG N_l_classes_of (ds.map A.d)) [] (dnP o) := by
  have key : ∀ c ns l, c ∈ eCode → w_l_classes_of (stG N_l_classes_of [A.d (.exc c ns l)]) [] (dnP (.ok (.int (if c = 19 then 0 else 1)))) := by
    intro c ns l hc
    have hA : c ∈ eAll := by
      have : ∀ c ∈ eCode, c ∈ eAll := by decide +kernel
      exact this c hc
    have xi : ∀ (y1 y2 : Option A) (ys : List Nat), fXis eAll ys (fV 0) [some (.d (.exc c ns l)), y1, y2] [] = some (.d (.bl (ys.contains c))) := fun y1 y2 ys => xis_v hA rfl
    simp only [w_l_classes_of_0, w_l_classes_of_1, w_l_classes_of_2, w_l_classes_of_3, w_l_classes_of_4, N_l_classes_of, xi, stG, wSeq, wIf, wAsg, wRet, wRetN, wNext, wDrop, wP, wB, wPs, wCons, wNil, wOp, wFn, wPar, wAsgT, wTup, wLst, wNewL, setIx_eq, setA, wM1, wI, wFor, bV, bNot, bAnd, bOr, fOp, fC, fV, fCons, fNil, fCall, fIsi, fAnd, fOr, fNot, chain_le, fTup, fLst, fIf, fFn, tgN, tgT, setAll, gI, gLen, gLe, gLt, gGe, gGt, LP.gSub, gMod, gFdiv, gPow, gPlus, gTimes, gIntA, gInt, gIsN, gIx, tyA, TN.sub, LP.dataOf, A.toD, viewL, viewQ, viewT, gEq_ii, gEq_ss, gEq_bb, gEq_nn, fSl, slV, oN, oS, iL, iR1, wFnM, gFdivW, tNot', tV, wFrz, fFld, fldV, gEither, gOwnIn, gOwnBin, gOwnEq, fIsiO, gIsiO, fProp, propV, fMeth, fMake, fMakeV, twoT, viewT, iZQ, iET, Option.bind_some, Option.map_some, Option.bind_none, Option.map_none, Option.bind, Option.map, List.getElem?_cons_zero, List.getElem?_cons_succ, List.getElem?_nil, List.set_cons_zero, List.set_cons_succ, List.set_nil, if_true, if_false, ↓reduceIte, Bool.not_true, Bool.not_false, decide_true, decide_false, Bool.false_eq_true, reduceCtorEq, true_and, false_and, and_true, and_false, not_true, not_false_eq_true, List.any_cons, List.any_nil, Bool.or_false, Bool.or_true, Bool.true_or, Bool.false_or, Bool.and_true, Bool.true_and, Bool.and_false, Bool.false_and, exists_eq_left, exists_eq_left', Option.some.injEq, A.d.injEq, D.int.injEq, D.bl.injEq, D.str.injEq, D.lst.injEq, D.tup.injEq, Except.ok.injEq, List.cons_append, List.nil_append, List.map_cons, List.map_nil, List.length_cons, List.length_nil, List.replicate, Nat.reduceSub, Nat.reduceAdd, List.append_nil, eq_self, or_true, true_or, or_false, false_or, Int.reduceNeg, Int.reducePow, Int.reduceLT, Int.reduceLE, List.length_set]
    refine ⟨_, rfl, _, rfl, _, rfl, _, rfl, ?_⟩
    have hk := comp_keep (f := fOp gPlus (fV 1) (fLst (fCons (fXis eAll [17] (fV 0)) (fCons (fXis eAll [18] (fV 0)) fNil)))) (x0 := some (.d (.exc c ns l))) (x1 := some (.d (.lst (([[1], [2], [3], [4], [5], [6], [7], [8], [9], [10], [11], [12], [13], [14], [15], [16]].map fun l : List Nat => l.contains c).map .bl)))) (x2 := none) (S := [])
      (bs := ([[1], [2], [3], [4], [5], [6], [7], [8], [9], [10], [11], [12], [13], [14], [15], [16], [17], [18]] : List (List Nat)).map fun l => l.contains c) (by
        refine add_l (a := ([[1], [2], [3], [4], [5], [6], [7], [8], [9], [10], [11], [12], [13], [14], [15], [16]].map fun l : List Nat => l.contains c).map .bl) (b := ([[17], [18]].map fun l : List Nat => l.contains c).map .bl) rfl ?_ (by simp only [List.length_map]; decide)
        simp only [fLst, fCons, fNil, xi, LP.dataOf, A.toD, Option.bind_some, Option.map_some, List.map_cons, List.map_nil])
    have hl := cls_list c hc
    show w_l_classes_of_5 [some (.d (.exc c ns l)), some (.d (.lst (([[1], [2], [3], [4], [5], [6], [7], [8], [9], [10], [11], [12], [13], [14], [15], [16]].map fun l : List Nat => l.contains c).map .bl))), none] [] _
    simp only [w_l_classes_of_5, hk, wRet, wP, fCall, fCons, fNil, gLen, viewQ, viewL, Option.bind_some, Option.map_some, List.length_map, hl]
    refine ⟨_, rfl, ?_⟩
    split <;> exact ⟨_, rfl, rfl⟩
  unfold G_classes at h
  split at h
  · rename_i c ns l
    have hm : ∀ c ∈ errT.map (·.c), c ∈ eCode ∧ ¬ c = 19 := by decide +kernel
    split at h
    · rename_i hc
      cases h
      have := key c ns l (hm c hc).1
      rw [if_neg (hm c hc).2] at this
      exact this
    · split at h
      · rename_i hc
        cases h
        subst hc
        exact key 19 ns l (by decide +kernel)
      · cases h
  · cases h
end K
set_option maxHeartbeats 4000000
namespace K
open PySem PySem.Spec PyProof.Rows L2 LP
theorem same_ok {x y : D} (h : x = y) (hs : D.sam 3 x = true) : G_same 3 [x, y] = some (.ok (.bl true)) := by
  subst h; simp [G_same, hs]
/-- the codes, the errors -/
def codesD : D := .lst (errT.map fun t => .str t.code)
def excsD (d : D) : D := .lst (errT.map (exOf d))
def tupsD (d : D) : D := .lst (List.replicate 36 (.tup [d]))
abbrev Gm (d : D) (v4 v5 v6 v9 : Option A) : Ga := [some (.loc 0), some (.loc 1), some (.d d), some (.d codesD), v4, v5, v6, some (.d (excsD d)), some (.d (excsD d)), v9]
theorem comp_code {d : D} {v5 v6 v9 : Option A} {S : So} (v4 : Option A) (i : Nat) (hi : fV i (Gm d v4 v5 v6 v9) S = some (.d (excsD d))) : fComp (iL (fV i)) (tgN 4) [4] (fun _ _ => some true) (fXat eCode "code" (fV 4)) (Gm d v4 v5 v6 v9) S = some (.d codesD) := by
  have c : compL (eltF (tgN 4) [4] (fun _ _ => some true) (fXat eCode "code" (fV 4)) (Gm d v4 v5 v6 v9) S) (errT.map (exOf d)) = some (errT.map fun t => .str t.code) := by
    rw [compL_map, ← compL_some]
    refine compL_congr fun t ht => ?_
    have h := xat_code (i := 4) (Γ := [some (.loc 0), some (.loc 1), some (.d d), some (.d codesD), some (.d (exOf d t)), v5, v6, some (.d (excsD d)), some (.d (excsD d)), v9]) (S := S) ht rfl
    simp only [eltF, tgN, wipeG, List.foldl_cons, List.foldl_nil, List.set_cons_succ, List.set_cons_zero, List.length_cons, Option.bind_some, if_true, Option.map_some]
    simp [h, A.toD]
  simp only [fComp, iL, hi, excsD, viewL, Option.bind_some, Option.map_some, c]
  rfl
theorem comp_field {d : D} {v5 v6 v9 : Option A} {S : So} (v4 : Option A) : fComp (iL (fOp gPlus (fV 7) (fV 8))) (tgN 4) [4] (fun _ _ => some true) (fFn [] G_fieldV (fCons (fV 4) fNil)) (Gm d v4 v5 v6 v9) S = some (.d (tupsD d)) := by
  have hp : fOp gPlus (fV 7) (fV 8) (Gm d v4 v5 v6 v9) S = some (.d (.lst ((errT ++ errT).map (exOf d)))) := by
    rw [List.map_append]
    exact add_l rfl rfl (by simp only [List.length_map]; decide)
  have c : compL (eltF (tgN 4) [4] (fun _ _ => some true) (fFn [] G_fieldV (fCons (fV 4) fNil)) (Gm d v4 v5 v6 v9) S) ((errT ++ errT).map (exOf d)) = some ((errT ++ errT).map fun _ => .tup [d]) := by
    rw [compL_map, ← compL_some]
    refine compL_congr fun t ht => ?_
    have ht : t ∈ errT := by
      rcases List.mem_append.mp ht with h | h <;> exact h
    have h : G_fieldV [exOf d t] = some (.ok (.tup [d])) := by
      simp only [G_fieldV, exOf]
      rw [if_pos ⟨rfl, ht⟩]
    simp [eltF, tgN, wipeG, fFn, fCons, fV, fNil, LP.dataOf, h, A.toD]
  simp only [fComp, iL, hp, viewL, Option.bind_some, Option.map_some, c]
  rfl
theorem law_turn {d : D} {t : ET} (ht : t ∈ errT) {v5 v6 v9 : Option A} {S : So} {E : Dn} (hn : ∀ v6 v9, E.nx (Gm d (some (.d (exOf d t))) v5 v6 v9) S) : w_law_for1_0 (Gm d (some (.d (exOf d t))) v5 v6 v9) S E := by
  have hx := fun (v6 v9 : Option A) => xat_code (i := 4) (Γ := Gm d (some (.d (exOf d t))) v5 v6 v9) (S := S) ht rfl
  have hall : ∀ t ∈ errT, t.c ∈ eAll := by decide +kernel
  have xi : ∀ (v6 v9 : Option A) (ys : List Nat), fXis eAll ys (fV 4) (Gm d (some (.d (exOf d t))) v5 v6 v9) S = some (.d (.bl (ys.contains t.c))) := fun v6 v9 ys => xis_v (hall t ht) rfl
  have k1 : ∀ t ∈ errT, (([1, 2, 3, 4, 5, 6, 7, 8, 9, 10, 11, 12, 13, 14, 15, 16, 17, 20] : List Nat).contains t.c) = !(decide (t.code = "UnknownName")) := by decide +kernel
  have k2 : ∀ t ∈ errT, (([18, 21] : List Nat).contains t.c) = decide (t.code = "UnknownName") := by decide +kernel
  have k3 : ∀ t ∈ errT, (([18, 19, 21] : List Nat).contains t.c) = decide (t.code = "UnknownName") := by decide +kernel
  have k4 : ∀ t ∈ errT, (([19] : List Nat).contains t.c) = false := by decide +kernel
  have hc : G_classes [exOf d t] = some (.ok (.int 1)) := by
    simp only [G_classes, exOf]
    rw [if_pos (List.mem_map.mpr ⟨t, ht, rfl⟩)]
  have hu : ∀ S1, gEqU false S1 (.d (.str t.code)) (.d (.str "UnknownName")) = some (.bl (decide (t.code = "UnknownName"))) := fun S1 => by simp only [stG, wSeq, wIf, wAsg, wRet, wRetN, wNext, wDrop, wP, wB, wPs, wCons, wNil, wOp, wFn, wPar, wAsgT, wTup, wLst, wNewL, setIx_eq, setA, wM1, wI, wFor, bV, bNot, bAnd, bOr, fOp, fC, fV, fCons, fNil, fCall, fIsi, fAnd, fOr, fNot, chain_le, fTup, fLst, fIf, fFn, tgN, tgT, setAll, gI, gLen, gLe, gLt, gGe, gGt, LP.gSub, gMod, gFdiv, gPow, gPlus, gTimes, gIntA, gInt, gIsN, gIx, tyA, TN.sub, LP.dataOf, A.toD, viewL, viewQ, viewT, gEq_ii, gEq_ss, gEq_bb, gEq_nn, fSl, slV, oN, oS, iL, iR1, wFnM, gFdivW, tNot', tV, wFrz, fFld, fldV, gEither, gOwnIn, gOwnBin, gOwnEq, fIsiO, gIsiO, fProp, propV, fMeth, fMake, fMakeV, twoT, viewT, iZQ, iET, Option.bind_some, Option.map_some, Option.bind_none, Option.map_none, Option.bind, Option.map, List.getElem?_cons_zero, List.getElem?_cons_succ, List.getElem?_nil, List.set_cons_zero, List.set_cons_succ, List.set_nil, if_true, if_false, ↓reduceIte, Bool.not_true, Bool.not_false, decide_true, decide_false, Bool.false_eq_true, reduceCtorEq, true_and, false_and, and_true, and_false, not_true, not_false_eq_true, List.any_cons, List.any_nil, Bool.or_false, Bool.or_true, Bool.true_or, Bool.false_or, Bool.and_true, Bool.true_and, Bool.and_false, Bool.false_and, exists_eq_left, exists_eq_left', Option.some.injEq, A.d.injEq, D.int.injEq, D.bl.injEq, D.str.injEq, D.lst.injEq, D.tup.injEq, Except.ok.injEq, List.cons_append, List.nil_append, List.map_cons, List.map_nil, List.length_cons, List.length_nil, List.replicate, Nat.reduceSub, Nat.reduceAdd, List.append_nil, eq_self, or_true, true_or, or_false, false_or, Int.reduceNeg, Int.reducePow, Int.reduceLT, Int.reduceLE, List.length_set]
  have x1 := fun (v6 v9 : Option A) => (xi v6 v9 _).trans (congrArg (fun b => some (A.d (.bl b))) (k1 t ht))
  have x2 := fun (v6 v9 : Option A) => (xi v6 v9 _).trans (congrArg (fun b => some (A.d (.bl b))) (k2 t ht))
  have x3 := fun (v6 v9 : Option A) => (xi v6 v9 _).trans (congrArg (fun b => some (A.d (.bl b))) (k3 t ht))
  have x4 := fun (v6 v9 : Option A) => (xi v6 v9 _).trans (congrArg (fun b => some (A.d (.bl b))) (k4 t ht))
  clear xi k1 k2 k3 k4
  generalize decide (t.code = "UnknownName") = u at *
  have s1 : G_same 3 [.lst [.bl (!u), .bl (!u), .bl u, .bl u, .bl false], .lst [.bl (!u), .bl (!u), .bl u, .bl u, .bl false]] = some (.ok (.bl true)) := same_ok rfl rfl
  have hcat : ∀ (S : So) (a b c d e : D), gCat S (.d (.lst [a, b, c, d])) (.d (.lst [e])) = some (.lst [a, b, c, d, e]) := fun S a b c d e => cat_l (a := [a, b, c, d]) (b := [e]) (by simp)
  simp only [Gm] at x1 x2 x3 x4 hx hn ⊢
  simp only [w_law_for1_0, w_law_for1_1, w_law_for1_2, w_law_for1_3, hx, hu, x1, x2, x3, x4, hc, s1, hcat, fNot, stG, wSeq, wIf, wAsg, wRet, wRetN, wNext, wDrop, wP, wB, wPs, wCons, wNil, wOp, wFn, wPar, wAsgT, wTup, wLst, wNewL, setIx_eq, setA, wM1, wI, wFor, bV, bNot, bAnd, bOr, fOp, fC, fV, fCons, fNil, fCall, fIsi, fAnd, fOr, chain_le, fTup, fLst, fIf, fFn, tgN, tgT, setAll, gI, gLen, gLe, gLt, gGe, gGt, LP.gSub, gMod, gFdiv, gPow, gPlus, gTimes, gIntA, gInt, gIsN, gIx, tyA, TN.sub, LP.dataOf, A.toD, viewL, viewQ, viewT, gEq_ii, gEq_ss, gEq_bb, gEq_nn, fSl, slV, oN, oS, iL, iR1, wFnM, gFdivW, tNot', tV, wFrz, fFld, fldV, gEither, gOwnIn, gOwnBin, gOwnEq, fIsiO, gIsiO, fProp, propV, fMeth, fMake, fMakeV, twoT, viewT, iZQ, iET, Option.bind_some, Option.map_some, Option.bind_none, Option.map_none, Option.bind, Option.map, List.getElem?_cons_zero, List.getElem?_cons_succ, List.getElem?_nil, List.set_cons_zero, List.set_cons_succ, List.set_nil, if_true, if_false, ↓reduceIte, Bool.not_true, Bool.not_false, decide_true, decide_false, Bool.false_eq_true, reduceCtorEq, true_and, false_and, and_true, and_false, not_true, not_false_eq_true, List.any_cons, List.any_nil, Bool.or_false, Bool.or_true, Bool.true_or, Bool.false_or, Bool.and_true, Bool.true_and, Bool.and_false, Bool.false_and, exists_eq_left, exists_eq_left', Option.some.injEq, A.d.injEq, D.int.injEq, D.bl.injEq, D.str.injEq, D.lst.injEq, D.tup.injEq, Except.ok.injEq, List.cons_append, List.nil_append, List.map_cons, List.map_nil, List.length_cons, List.length_nil, List.replicate, Nat.reduceSub, Nat.reduceAdd, List.append_nil, eq_self, or_true, true_or, or_false, false_or, Int.reduceNeg, Int.reducePow, Int.reduceLT, Int.reduceLE, List.length_set]
  exact hn _ _
theorem v_law (as : List A) (S : So) (ex : EK) (Q : AK) (h : fc_law 63 as S ex Q) : w_law (stG N_law as) S { nx := fun _ S' => Q (.d .non) S', rt := Q, ex := ex } := by
  obtain ⟨cs, rfl, rfl, hl, hQ⟩ := h
  have p18 : (10 : Int) ^ Int.toNat 18 = 1000000000000000000 := by decide
  simp only [w_law_0, N_law, stG, wSeq, wIf, wAsg, wRet, wRetN, wNext, wDrop, wP, wB, wPs, wCons, wNil, wOp, wFn, wPar, wAsgT, wTup, wLst, wNewL, setIx_eq, setA, wM1, wI, wFor, bV, bNot, bAnd, bOr, fOp, fC, fV, fCons, fNil, fCall, fIsi, fAnd, fOr, fNot, chain_le, fTup, fLst, fIf, fFn, tgN, tgT, setAll, gI, gLen, gLe, gLt, gGe, gGt, LP.gSub, gMod, gFdiv, gPow, gPlus, gTimes, gIntA, gInt, gIsN, gIx, tyA, TN.sub, LP.dataOf, A.toD, viewL, viewQ, viewT, gEq_ii, gEq_ss, gEq_bb, gEq_nn, fSl, slV, oN, oS, iL, iR1, wFnM, gFdivW, tNot', tV, wFrz, fFld, fldV, gEither, gOwnIn, gOwnBin, gOwnEq, fIsiO, gIsiO, fProp, propV, fMeth, fMake, fMakeV, twoT, viewT, iZQ, iET, Option.bind_some, Option.map_some, Option.bind_none, Option.map_none, Option.bind, Option.map, List.getElem?_cons_zero, List.getElem?_cons_succ, List.getElem?_nil, List.set_cons_zero, List.set_cons_succ, List.set_nil, if_true, if_false, ↓reduceIte, Bool.not_true, Bool.not_false, decide_true, decide_false, Bool.false_eq_true, reduceCtorEq, true_and, false_and, and_true, and_false, not_true, not_false_eq_true, List.any_cons, List.any_nil, Bool.or_false, Bool.or_true, Bool.true_or, Bool.false_or, Bool.and_true, Bool.true_and, Bool.and_false, Bool.false_and, exists_eq_left, exists_eq_left', Option.some.injEq, A.d.injEq, D.int.injEq, D.bl.injEq, D.str.injEq, D.lst.injEq, D.tup.injEq, Except.ok.injEq, List.cons_append, List.nil_append, List.map_cons, List.map_nil, List.length_cons, List.length_nil, List.replicate, Nat.reduceSub, Nat.reduceAdd, List.append_nil, eq_self, or_true, true_or, or_false, false_or, Int.reduceNeg, Int.reducePow, Int.reduceLT, Int.reduceLE, List.length_set]
  refine ⟨0, cs, rfl, rfl, hl, fun m hb => ?_⟩
  simp only [w_law_1, n10, p18, stG, wSeq, wIf, wAsg, wRet, wRetN, wNext, wDrop, wP, wB, wPs, wCons, wNil, wOp, wFn, wPar, wAsgT, wTup, wLst, wNewL, setIx_eq, setA, wM1, wI, wFor, bV, bNot, bAnd, bOr, fOp, fC, fV, fCons, fNil, fCall, fIsi, fAnd, fOr, fNot, chain_le, fTup, fLst, fIf, fFn, tgN, tgT, setAll, gI, gLen, gLe, gLt, gGe, gGt, LP.gSub, gMod, gFdiv, gPow, gPlus, gTimes, gIntA, gInt, gIsN, gIx, tyA, TN.sub, LP.dataOf, A.toD, viewL, viewQ, viewT, gEq_ii, gEq_ss, gEq_bb, gEq_nn, fSl, slV, oN, oS, iL, iR1, wFnM, gFdivW, tNot', tV, wFrz, fFld, fldV, gEither, gOwnIn, gOwnBin, gOwnEq, fIsiO, gIsiO, fProp, propV, fMeth, fMake, fMakeV, twoT, viewT, iZQ, iET, Option.bind_some, Option.map_some, Option.bind_none, Option.map_none, Option.bind, Option.map, List.getElem?_cons_zero, List.getElem?_cons_succ, List.getElem?_nil, List.set_cons_zero, List.set_cons_succ, List.set_nil, if_true, if_false, ↓reduceIte, Bool.not_true, Bool.not_false, decide_true, decide_false, Bool.false_eq_true, reduceCtorEq, true_and, false_and, and_true, and_false, not_true, not_false_eq_true, List.any_cons, List.any_nil, Bool.or_false, Bool.or_true, Bool.true_or, Bool.false_or, Bool.and_true, Bool.true_and, Bool.and_false, Bool.false_and, exists_eq_left, exists_eq_left', Option.some.injEq, A.d.injEq, D.int.injEq, D.bl.injEq, D.str.injEq, D.lst.injEq, D.tup.injEq, Except.ok.injEq, List.cons_append, List.nil_append, List.map_cons, List.map_nil, List.length_cons, List.length_nil, List.replicate, Nat.reduceSub, Nat.reduceAdd, List.append_nil, eq_self, or_true, true_or, or_false, false_or, Int.reduceNeg, Int.reducePow, Int.reduceLT, Int.reduceLE, List.length_set]
  refine ⟨1, m, _, rfl, rfl, hb, by decide, by decide, fun r m2 hb2 r0 r1 => ?_⟩
  refine ⟨1, m2, _, rfl, rfl, hb2, by decide, by decide, fun r' m3 hb3 r2 r3 => ?_⟩
  refine ⟨_, rfl, _, rfl, 1, m3, _, _, rfl, rfl, hb3, rfl, by simp, by simp, fun d m4 hb4 hd => ?_⟩
  have hs : D.sam 1 d = true := by
    simp only [List.mem_cons, List.not_mem_nil, or_false] at hd
    rcases hd with rfl | rfl | rfl | rfl | rfl | rfl | rfl | rfl <;> rfl
  generalize hS4 : List.set _ _ _ = S4
  have hcat7 : ∀ (S : So) (a b : List D), a.length + b.length ≤ 30 → gCat S (.d (.lst a)) (.d (.lst b)) = some (.lst (a ++ b)) := fun S a b h => cat_l (by omega)
  have he : G_excs [d] = some (.ok (excsD d)) := rfl
  simp only [w_law_2, w_law_3, w_law_4, w_law_5, he, stG, wSeq, wIf, wAsg, wRet, wRetN, wNext, wDrop, wP, wB, wPs, wCons, wNil, wOp, wFn, wPar, wAsgT, wTup, wLst, wNewL, setIx_eq, setA, wM1, wI, wFor, bV, bNot, bAnd, bOr, fOp, fC, fV, fCons, fNil, fCall, fIsi, fAnd, fOr, fNot, chain_le, fTup, fLst, fIf, fFn, tgN, tgT, setAll, gI, gLen, gLe, gLt, gGe, gGt, LP.gSub, gMod, gFdiv, gPow, gPlus, gTimes, gIntA, gInt, gIsN, gIx, tyA, TN.sub, LP.dataOf, A.toD, viewL, viewQ, viewT, gEq_ii, gEq_ss, gEq_bb, gEq_nn, fSl, slV, oN, oS, iL, iR1, wFnM, gFdivW, tNot', tV, wFrz, fFld, fldV, gEither, gOwnIn, gOwnBin, gOwnEq, fIsiO, gIsiO, fProp, propV, fMeth, fMake, fMakeV, twoT, viewT, iZQ, iET, Option.bind_some, Option.map_some, Option.bind_none, Option.map_none, Option.bind, Option.map, List.getElem?_cons_zero, List.getElem?_cons_succ, List.getElem?_nil, List.set_cons_zero, List.set_cons_succ, List.set_nil, if_true, if_false, ↓reduceIte, Bool.not_true, Bool.not_false, decide_true, decide_false, Bool.false_eq_true, reduceCtorEq, true_and, false_and, and_true, and_false, not_true, not_false_eq_true, List.any_cons, List.any_nil, Bool.or_false, Bool.or_true, Bool.true_or, Bool.false_or, Bool.and_true, Bool.true_and, Bool.and_false, Bool.false_and, exists_eq_left, exists_eq_left', Option.some.injEq, A.d.injEq, D.int.injEq, D.bl.injEq, D.str.injEq, D.lst.injEq, D.tup.injEq, Except.ok.injEq, List.cons_append, List.nil_append, List.map_cons, List.map_nil, List.length_cons, List.length_nil, List.replicate, Nat.reduceSub, Nat.reduceAdd, List.append_nil, eq_self, or_true, true_or, or_false, false_or, Int.reduceNeg, Int.reducePow, Int.reduceLT, Int.reduceLE, List.length_set]
  refine ⟨_, rfl, _, rfl, ?_⟩
  show w_law_6 (Gm d none none none none) S4 _
  have c6 := comp_code (d := d) (v5 := none) (v6 := none) (v9 := none) (S := S4) none 7 rfl
  have c7 := comp_code (d := d) (v5 := none) (v6 := none) (v9 := none) (S := S4) none 8 rfl
  have cf := comp_field (d := d) (v5 := none) (v6 := none) (v9 := none) (S := S4) none
  have s6 : G_same 3 [codesD, codesD] = some (.ok (.bl true)) := same_ok rfl rfl
  have s7 : G_same 3 [tupsD d, tupsD d] = some (.ok (.bl true)) := same_ok rfl (by simp [tupsD, D.sam, hs])
  have ht : ∀ S, gTimes S (.d (.lst [.tup [d]])) (.d (.int 36)) = some (tupsD d) := fun S => rfl
  have hp : fOp gPlus (fV 8) (fV 7) (Gm d none none none none) S4 = some (.d (.lst ((errT ++ errT).map (exOf d)))) := by
    rw [List.map_append]
    exact add_l rfl rfl (by simp only [List.length_map]; decide)
  simp only [Gm] at c6 c7 cf hp ⊢
  simp only [w_law_6, w_law_7, c6, c7, cf, s6, s7, ht, stG, wSeq, wIf, wAsg, wRet, wRetN, wNext, wDrop, wP, wB, wPs, wCons, wNil, wOp, wFn, wPar, wAsgT, wTup, wLst, wNewL, setIx_eq, setA, wM1, wI, wFor, bV, bNot, bAnd, bOr, fOp, fC, fV, fCons, fNil, fCall, fIsi, fAnd, fOr, fNot, chain_le, fTup, fLst, fIf, fFn, tgN, tgT, setAll, gI, gLen, gLe, gLt, gGe, gGt, LP.gSub, gMod, gFdiv, gPow, gPlus, gIntA, gInt, gIsN, gIx, tyA, TN.sub, LP.dataOf, A.toD, viewL, viewQ, viewT, gEq_ii, gEq_ss, gEq_bb, gEq_nn, fSl, slV, oN, oS, iL, iR1, wFnM, gFdivW, tNot', tV, wFrz, fFld, fldV, gEither, gOwnIn, gOwnBin, gOwnEq, fIsiO, gIsiO, fProp, propV, fMeth, fMake, fMakeV, twoT, viewT, iZQ, iET, Option.bind_some, Option.map_some, Option.bind_none, Option.map_none, Option.bind, Option.map, List.getElem?_cons_zero, List.getElem?_cons_succ, List.getElem?_nil, List.set_cons_zero, List.set_cons_succ, List.set_nil, if_true, if_false, ↓reduceIte, Bool.not_true, Bool.not_false, decide_true, decide_false, Bool.false_eq_true, reduceCtorEq, true_and, false_and, and_true, and_false, not_true, not_false_eq_true, List.any_cons, List.any_nil, Bool.or_false, Bool.or_true, Bool.true_or, Bool.false_or, Bool.and_true, Bool.true_and, Bool.and_false, Bool.false_and, exists_eq_left, exists_eq_left', Option.some.injEq, A.d.injEq, D.int.injEq, D.bl.injEq, D.str.injEq, D.lst.injEq, D.tup.injEq, Except.ok.injEq, List.cons_append, List.nil_append, List.map_cons, List.map_nil, List.length_cons, List.length_nil, List.replicate, Nat.reduceSub, Nat.reduceAdd, List.append_nil, eq_self, or_true, true_or, or_false, false_or, Int.reduceNeg, Int.reducePow, Int.reduceLT, Int.reduceLE, List.length_set]
  simp only [w_law_8, hp, stG, wSeq, wIf, wAsg, wRet, wRetN, wNext, wDrop, wP, wB, wPs, wCons, wNil, wOp, wFn, wPar, wAsgT, wTup, wLst, wNewL, setIx_eq, setA, wM1, wI, wFor, bV, bNot, bAnd, bOr, fOp, fC, fV, fCons, fNil, fCall, fIsi, fAnd, fOr, fNot, chain_le, fTup, fLst, fIf, fFn, tgN, tgT, setAll, gI, gLen, gLe, gLt, gGe, gGt, LP.gSub, gMod, gFdiv, gPow, gPlus, gTimes, gIntA, gInt, gIsN, gIx, tyA, TN.sub, LP.dataOf, A.toD, viewL, viewQ, viewT, gEq_ii, gEq_ss, gEq_bb, gEq_nn, fSl, slV, oN, oS, iL, iR1, wFnM, gFdivW, tNot', tV, wFrz, fFld, fldV, gEither, gOwnIn, gOwnBin, gOwnEq, fIsiO, gIsiO, fProp, propV, fMeth, fMake, fMakeV, twoT, viewT, iZQ, iET, Option.bind_some, Option.map_some, Option.bind_none, Option.map_none, Option.bind, Option.map, List.getElem?_cons_zero, List.getElem?_cons_succ, List.getElem?_nil, List.set_cons_zero, List.set_cons_succ, List.set_nil, if_true, if_false, ↓reduceIte, Bool.not_true, Bool.not_false, decide_true, decide_false, Bool.false_eq_true, reduceCtorEq, true_and, false_and, and_true, and_false, not_true, not_false_eq_true, List.any_cons, List.any_nil, Bool.or_false, Bool.or_true, Bool.true_or, Bool.false_or, Bool.and_true, Bool.true_and, Bool.and_false, Bool.false_and, exists_eq_left, exists_eq_left', Option.some.injEq, A.d.injEq, D.int.injEq, D.bl.injEq, D.str.injEq, D.lst.injEq, D.tup.injEq, Except.ok.injEq, List.cons_append, List.nil_append, List.map_cons, List.map_nil, List.length_cons, List.length_nil, List.replicate, Nat.reduceSub, Nat.reduceAdd, List.append_nil, eq_self, or_true, true_or, or_false, false_or, Int.reduceNeg, Int.reducePow, Int.reduceLT, Int.reduceLE, List.length_set]
  refine ⟨_, _, rfl, rfl, ?_⟩
  refine loop_inv (fun r Γ S' => ∃ (rt : List ET) (v4 v6 v9 : Option A), r = rt.map (exOf d) ∧ (∀ t ∈ rt, t ∈ errT) ∧ Γ = Gm d v4 none v6 v9 ∧ S' = S4) ?_ ?_ _ _ _ ⟨errT ++ errT, none, none, none, rfl, fun t ht => (List.mem_append.mp ht).elim id id, rfl, rfl⟩
  · rintro x r Γ S' nx ⟨rt, v4, v6, v9, hr, hm, rfl, rfl⟩ hnx
    cases rt with
    | nil => cases hr
    | cons t rt =>
      cases hr
      exact ⟨_, rfl, law_turn (hm t List.mem_cons_self) fun v6 v9 => hnx _ _ rfl ⟨rt, _, v6, v9, rfl, fun t' h' => hm t' (List.mem_cons_of_mem _ h'), rfl, rfl⟩⟩
  · rintro Γ S' ⟨rt, v4, v6, v9, hr, hm, rfl, rfl⟩
    have xi : ∀ (v6 : Option A) (ys : List Nat), fXis eAll ys (fV 5) (Gm d v4 (some (.d (.exc 19 ["code"] [.str "NothingLeft"]))) v6 v9) S' = some (.d (.bl (ys.contains 19))) := fun v6 ys => xis_v (by decide +kernel) rfl
    have hc : G_classes [.exc 19 ["code"] [.str "NothingLeft"]] = some (.ok (.int 0)) := rfl
    have hx : ∀ v6 : Option A, fXat eCode "code" (fV 5) (Gm d v4 (some (.d (.exc 19 ["code"] [.str "NothingLeft"]))) v6 v9) S' = some (.d (.str "NothingLeft")) := fun v6 => rfl
    have x1 := fun (v6 : Option A) => (xi v6 [19]).trans (congrArg (fun b => some (A.d (.bl b))) (show (([19] : List Nat).contains 19) = true by decide))
    have x2 := fun (v6 : Option A) => (xi v6 [1, 2, 3, 4, 5, 6, 7, 8, 9, 10, 11, 12, 13, 14, 15, 16, 17, 20]).trans (congrArg (fun b => some (A.d (.bl b))) (show (([1, 2, 3, 4, 5, 6, 7, 8, 9, 10, 11, 12, 13, 14, 15, 16, 17, 20] : List Nat).contains 19) = false by decide))
    have x3 := fun (v6 : Option A) => (xi v6 [18, 21]).trans (congrArg (fun b => some (A.d (.bl b))) (show (([18, 21] : List Nat).contains 19) = false by decide))
    have s8 : G_same 3 [.lst [.lst [.bl true, .bl false, .bl false, .int 0], .str "NothingLeft"], .lst [.lst [.bl true, .bl false, .bl false, .int 0], .str "NothingLeft"]] = some (.ok (.bl true)) := same_ok rfl rfl
    simp only [Gm] at x1 x2 x3 hx
    simp only [w_law_9, w_law_10, w_law_11, fErrN, x1, x2, x3, hc, hx, s8, stG, wSeq, wIf, wAsg, wRet, wRetN, wNext, wDrop, wP, wB, wPs, wCons, wNil, wOp, wFn, wPar, wAsgT, wTup, wLst, wNewL, setIx_eq, setA, wM1, wI, wFor, bV, bNot, bAnd, bOr, fOp, fC, fV, fCons, fNil, fCall, fIsi, fAnd, fOr, fNot, chain_le, fTup, fLst, fIf, fFn, tgN, tgT, setAll, gI, gLen, gLe, gLt, gGe, gGt, LP.gSub, gMod, gFdiv, gPow, gPlus, gTimes, gIntA, gInt, gIsN, gIx, tyA, TN.sub, LP.dataOf, A.toD, viewL, viewQ, viewT, gEq_ii, gEq_ss, gEq_bb, gEq_nn, fSl, slV, oN, oS, iL, iR1, wFnM, gFdivW, tNot', tV, wFrz, fFld, fldV, gEither, gOwnIn, gOwnBin, gOwnEq, fIsiO, gIsiO, fProp, propV, fMeth, fMake, fMakeV, twoT, viewT, iZQ, iET, Option.bind_some, Option.map_some, Option.bind_none, Option.map_none, Option.bind, Option.map, List.getElem?_cons_zero, List.getElem?_cons_succ, List.getElem?_nil, List.set_cons_zero, List.set_cons_succ, List.set_nil, if_true, if_false, ↓reduceIte, Bool.not_true, Bool.not_false, decide_true, decide_false, Bool.false_eq_true, reduceCtorEq, true_and, false_and, and_true, and_false, not_true, not_false_eq_true, List.any_cons, List.any_nil, Bool.or_false, Bool.or_true, Bool.true_or, Bool.false_or, Bool.and_true, Bool.true_and, Bool.and_false, Bool.false_and, exists_eq_left, exists_eq_left', Option.some.injEq, A.d.injEq, D.int.injEq, D.bl.injEq, D.str.injEq, D.lst.injEq, D.tup.injEq, Except.ok.injEq, List.cons_append, List.nil_append, List.map_cons, List.map_nil, List.length_cons, List.length_nil, List.replicate, Nat.reduceSub, Nat.reduceAdd, List.append_nil, eq_self, or_true, true_or, or_false, false_or, Int.reduceNeg, Int.reducePow, Int.reduceLT, Int.reduceLE, List.length_set]
    exact ⟨.d (.bl true), rfl, hQ _⟩
end K
set_option maxHeartbeats 0
namespace K
open PySem PySem.Spec PyProof.Rows L2 LP
theorem hlen_same (n : Nat) (ds : List D) (o : Except Er D) (h : G_same n ds = some o) : ds.length = 2 := by
  unfold G_same at h
  split at h
  · rfl
  · cases h
end K
namespace Hd
open PySem PySem.Spec PyProof.Rows L2 LP K
theorem facts {P : Program} {w : World} {K : PySem.W.Frag} {h : Heap} {mg : Str → Option Value} {f : Addr} (hfile : P.main.file = "/claim/cut.py") (hsup : (P.main.scope.names.lookup ("super" : Str)).isSome = false) (X : K.In h) (G : h.Ns mainGlobals mg) (hfa : mg ("law" : Str) = some (.ref f)) (c : SaysE fa fn K) :
    ∃ fd : FuncData, (∀ (s : Shared) (v : Value), BindsTo s fd ⟨[v], []⟩ [("_law_script", v)]) ∧ ∀ base : Heap, K.In base → base.Ns mainGlobals mg → FnOk P w K mg base CXn 6 f fd ["_law_script"] (spLaw K 63) := by
  let ci : Ci := fun c => match c with  | 1 => (He.ga K "InvalidNumber", []) | 2 => (He.ga K "InvalidName", []) | 3 => (He.ga K "InvalidSpan", []) | 4 => (He.ga K "InvalidText", []) | 5 => (He.ga K "InvalidSeat", []) | 6 => (He.ga K "InvalidRecord", []) | 7 => (He.ga K "Clash", []) | 8 => (He.ga K "DuplicateName", []) | 9 => (He.ga K "DuplicateNumber", []) | 10 => (He.ga K "TooMany", []) | 11 => (He.ga K "Full", []) | 12 => (He.ga K "NotAThing", []) | 13 => (He.ga K "Contradiction", []) | 14 => (He.ga K "InvalidRule", []) | 15 => (He.ga K "InvalidCommand", []) | 16 => (He.ga K "InvalidLimit", []) | 17 => (He.ga K "InvalidPage", []) | 18 => (He.ga K "UnknownName", []) | 19 => (He.ga K "NothingLeft", []) | 20 => (He.ga K "LumpError", []) | 21 => (He.ga K "Missing", []) | _ => (0, [])
  obtain ⟨fd_l_bag, F_l_bag⟩ := c.def_ 19 (d := d19) rfl
  obtain ⟨fd_l_pull, F_l_pull⟩ := c.def_ 20 (d := d20) rfl
  obtain ⟨fd_l_pick, F_l_pick⟩ := c.def_ 21 (d := d21) rfl
  obtain ⟨fd_l_same, F_l_same⟩ := c.def_ 22 (d := d22) rfl
  obtain ⟨fd_l_field, F_l_field⟩ := c.def_ 23 (d := d23) rfl
  obtain ⟨fd_l_named, F_l_named⟩ := c.def_ 24 (d := d24) rfl
  obtain ⟨fd_l_bare, F_l_bare⟩ := c.def_ 25 (d := d25) rfl
  obtain ⟨fd_l_classes_of, F_l_classes_of⟩ := c.def_ 26 (d := d26) rfl
  obtain ⟨fd_law, F_law⟩ := c.def_ 27 (d := d27) rfl
  have T : Tc mg := ⟨He.free_ok X G (c.fact 133 (f := .fa (.free "IndexError")) rfl), He.free_ok X G (c.fact 134 (f := .fa (.free "LookupError")) rfl), He.free_ok X G (c.fact 135 (f := .fa (.free "ValueError")) rfl), He.free_ok X G (c.fact 136 (f := .fa (.free "all")) rfl), He.free_ok X G (c.fact 137 (f := .fa (.free "bool")) rfl), He.free_ok X G (c.fact 138 (f := .fa (.free "int")) rfl), He.free_ok X G (c.fact 139 (f := .fa (.free "isinstance")) rfl), He.free_ok X G (c.fact 140 (f := .fa (.free "len")) rfl), He.free_ok X G (c.fact 141 (f := .fa (.free "list")) rfl), He.free_ok X G (c.fact 142 (f := .fa (.free "str")) rfl), He.free_ok X G (c.fact 144 (f := .fa (.free "tuple")) rfl), He.free_ok X G (c.fact 145 (f := .fa (.free "zip")) rfl)⟩
  have g_l_bag := He.glo_ok X G (c.fact 0 (f := .fa (.glo "_law_bag")) rfl)
  have g_l_pull := He.glo_ok X G (c.fact 1 (f := .fa (.glo "_law_pull")) rfl)
  have g_l_pick := He.glo_ok X G (c.fact 2 (f := .fa (.glo "_law_pick")) rfl)
  have g_l_same := He.glo_ok X G (c.fact 3 (f := .fa (.glo "_law_same")) rfl)
  have g_l_field := He.glo_ok X G (c.fact 4 (f := .fa (.glo "_law_field")) rfl)
  have g_l_named := He.glo_ok X G (c.fact 5 (f := .fa (.glo "_law_named")) rfl)
  have g_l_bare := He.glo_ok X G (c.fact 6 (f := .fa (.glo "_law_bare")) rfl)
  have g_l_classes_of := He.glo_ok X G (c.fact 7 (f := .fa (.glo "_law_classes_of")) rfl)
  have g_law := He.glo_ok X G (c.fact 8 (f := .fa (.glo "law")) rfl)
  cases hfa.symm.trans g_law
  have bl := FunD.bindsA (ps := ["_law_script"]) F_law fun _ _ _ _ _ _ us hl => match us, hl with | [_], _ => rfl
  refine ⟨fd_law, fun s v => bl s [v] rfl, fun base _ _ => ?_⟩
  have g_InvalidNumber := He.glo_ok X G (c.fact 9 (f := .fa (.glo "InvalidNumber")) rfl)
  have g_InvalidName := He.glo_ok X G (c.fact 10 (f := .fa (.glo "InvalidName")) rfl)
  have g_InvalidSpan := He.glo_ok X G (c.fact 11 (f := .fa (.glo "InvalidSpan")) rfl)
  have g_InvalidText := He.glo_ok X G (c.fact 12 (f := .fa (.glo "InvalidText")) rfl)
  have g_InvalidSeat := He.glo_ok X G (c.fact 13 (f := .fa (.glo "InvalidSeat")) rfl)
  have g_InvalidRecord := He.glo_ok X G (c.fact 14 (f := .fa (.glo "InvalidRecord")) rfl)
  have g_Clash := He.glo_ok X G (c.fact 15 (f := .fa (.glo "Clash")) rfl)
  have g_DuplicateName := He.glo_ok X G (c.fact 16 (f := .fa (.glo "DuplicateName")) rfl)
  have g_DuplicateNumber := He.glo_ok X G (c.fact 17 (f := .fa (.glo "DuplicateNumber")) rfl)
  have g_TooMany := He.glo_ok X G (c.fact 18 (f := .fa (.glo "TooMany")) rfl)
  have g_Full := He.glo_ok X G (c.fact 19 (f := .fa (.glo "Full")) rfl)
  have g_NotAThing := He.glo_ok X G (c.fact 20 (f := .fa (.glo "NotAThing")) rfl)
  have g_Contradiction := He.glo_ok X G (c.fact 21 (f := .fa (.glo "Contradiction")) rfl)
  have g_InvalidRule := He.glo_ok X G (c.fact 22 (f := .fa (.glo "InvalidRule")) rfl)
  have g_InvalidCommand := He.glo_ok X G (c.fact 23 (f := .fa (.glo "InvalidCommand")) rfl)
  have g_InvalidLimit := He.glo_ok X G (c.fact 24 (f := .fa (.glo "InvalidLimit")) rfl)
  have g_InvalidPage := He.glo_ok X G (c.fact 25 (f := .fa (.glo "InvalidPage")) rfl)
  have g_UnknownName := He.glo_ok X G (c.fact 26 (f := .fa (.glo "UnknownName")) rfl)
  have g_NothingLeft := He.glo_ok X G (c.fact 27 (f := .fa (.glo "NothingLeft")) rfl)
  have n_super := He.free_ok X G (c.fact 143 (f := .fa (.free "super")) rfl)
  obtain ⟨fd_InvalidNumber, cda_InvalidNumber, cc_InvalidNumber, FS_InvalidNumber, SK_InvalidNumber, _⟩ := DefE.funS (P := P) (mg := mg) (d := d0) (ar := "self") (D := He.ga K "InvalidNumber") rfl (c.raw 0 (d := d0) rfl).1 (c.raw 0 (d := d0) rfl).2 (by rw [hfile]; exact (c.fact 96 (f := .ex (fun K => supOkB "/claim/cut.py" "self" K (d0.at_.ad K) (He.ga K "InvalidNumber"))) rfl)) n_super hsup
  have EV1_InvalidNumber : ErrV P w K mg base ci 1 1 "InvalidNumber" 1 [] (spE (ci 1).1 "InvalidNumber" "given") := errV_c (txt := "not a number in its range") (par := "given") FS_InvalidNumber SK_InvalidNumber ⟨_, _, _, _, _, _, _, _, _, _, _, _, _, _, _, _, rfl, fun env => ⟨_, rfl⟩⟩ ⟨rfl, rfl, rfl, by decide +kernel, rfl, by decide +kernel, by decide +kernel, by decide +kernel⟩ (c.fact 95 (f := .ex (errB "InvalidNumber" "given")) rfl) g_InvalidNumber rfl (by kernel_rfl) (by kernel_rfl) (by kernel_rfl) (by kernel_rfl) (by decide +kernel) (by decide +kernel) (FunS.kbn (ps := ["self", "given"]) FS_InvalidNumber 2 [] fun _ _ _ _ _ _ us ws hl hw => match us, hl, ws, hw with | [_, _], _, [], _ => rfl)
  have EV0_InvalidNumber : ErrV P w K mg base ci 1 1 "InvalidNumber" 0 ["given"] (spE (ci 1).1 "InvalidNumber" "given") := errV_c (txt := "not a number in its range") (par := "given") FS_InvalidNumber SK_InvalidNumber ⟨_, _, _, _, _, _, _, _, _, _, _, _, _, _, _, _, rfl, fun env => ⟨_, rfl⟩⟩ ⟨rfl, rfl, rfl, by decide +kernel, rfl, by decide +kernel, by decide +kernel, by decide +kernel⟩ (c.fact 95 (f := .ex (errB "InvalidNumber" "given")) rfl) g_InvalidNumber rfl (by kernel_rfl) (by kernel_rfl) (by kernel_rfl) (by kernel_rfl) (by decide +kernel) (by decide +kernel) (FunS.kbn (ps := ["self", "given"]) FS_InvalidNumber 1 ["given"] fun _ _ _ _ _ _ us ws hl hw => match us, hl, ws, hw with | [_], _, [_], _ => rfl)
  obtain ⟨fd_InvalidName, cda_InvalidName, cc_InvalidName, FS_InvalidName, SK_InvalidName, _⟩ := DefE.funS (P := P) (mg := mg) (d := d1) (ar := "self") (D := He.ga K "InvalidName") rfl (c.raw 1 (d := d1) rfl).1 (c.raw 1 (d := d1) rfl).2 (by rw [hfile]; exact (c.fact 98 (f := .ex (fun K => supOkB "/claim/cut.py" "self" K (d1.at_.ad K) (He.ga K "InvalidName"))) rfl)) n_super hsup
  have EV1_InvalidName : ErrV P w K mg base ci 1 2 "InvalidName" 1 [] (spE (ci 2).1 "InvalidName" "given") := errV_c (txt := "not a name") (par := "given") FS_InvalidName SK_InvalidName ⟨_, _, _, _, _, _, _, _, _, _, _, _, _, _, _, _, rfl, fun env => ⟨_, rfl⟩⟩ ⟨rfl, rfl, rfl, by decide +kernel, rfl, by decide +kernel, by decide +kernel, by decide +kernel⟩ (c.fact 97 (f := .ex (errB "InvalidName" "given")) rfl) g_InvalidName rfl (by kernel_rfl) (by kernel_rfl) (by kernel_rfl) (by kernel_rfl) (by decide +kernel) (by decide +kernel) (FunS.kbn (ps := ["self", "given"]) FS_InvalidName 2 [] fun _ _ _ _ _ _ us ws hl hw => match us, hl, ws, hw with | [_, _], _, [], _ => rfl)
  have EV0_InvalidName : ErrV P w K mg base ci 1 2 "InvalidName" 0 ["given"] (spE (ci 2).1 "InvalidName" "given") := errV_c (txt := "not a name") (par := "given") FS_InvalidName SK_InvalidName ⟨_, _, _, _, _, _, _, _, _, _, _, _, _, _, _, _, rfl, fun env => ⟨_, rfl⟩⟩ ⟨rfl, rfl, rfl, by decide +kernel, rfl, by decide +kernel, by decide +kernel, by decide +kernel⟩ (c.fact 97 (f := .ex (errB "InvalidName" "given")) rfl) g_InvalidName rfl (by kernel_rfl) (by kernel_rfl) (by kernel_rfl) (by kernel_rfl) (by decide +kernel) (by decide +kernel) (FunS.kbn (ps := ["self", "given"]) FS_InvalidName 1 ["given"] fun _ _ _ _ _ _ us ws hl hw => match us, hl, ws, hw with | [_], _, [_], _ => rfl)
  obtain ⟨fd_InvalidSpan, cda_InvalidSpan, cc_InvalidSpan, FS_InvalidSpan, SK_InvalidSpan, _⟩ := DefE.funS (P := P) (mg := mg) (d := d2) (ar := "self") (D := He.ga K "InvalidSpan") rfl (c.raw 2 (d := d2) rfl).1 (c.raw 2 (d := d2) rfl).2 (by rw [hfile]; exact (c.fact 100 (f := .ex (fun K => supOkB "/claim/cut.py" "self" K (d2.at_.ad K) (He.ga K "InvalidSpan"))) rfl)) n_super hsup
  have EV1_InvalidSpan : ErrV P w K mg base ci 1 3 "InvalidSpan" 1 [] (spE (ci 3).1 "InvalidSpan" "at") := errV_c (txt := "not a span of numbers") (par := "at") FS_InvalidSpan SK_InvalidSpan ⟨_, _, _, _, _, _, _, _, _, _, _, _, _, _, _, _, rfl, fun env => ⟨_, rfl⟩⟩ ⟨rfl, rfl, rfl, by decide +kernel, rfl, by decide +kernel, by decide +kernel, by decide +kernel⟩ (c.fact 99 (f := .ex (errB "InvalidSpan" "at")) rfl) g_InvalidSpan rfl (by kernel_rfl) (by kernel_rfl) (by kernel_rfl) (by kernel_rfl) (by decide +kernel) (by decide +kernel) (FunS.kbn (ps := ["self", "at"]) FS_InvalidSpan 2 [] fun _ _ _ _ _ _ us ws hl hw => match us, hl, ws, hw with | [_, _], _, [], _ => rfl)
  have EV0_InvalidSpan : ErrV P w K mg base ci 1 3 "InvalidSpan" 0 ["at"] (spE (ci 3).1 "InvalidSpan" "at") := errV_c (txt := "not a span of numbers") (par := "at") FS_InvalidSpan SK_InvalidSpan ⟨_, _, _, _, _, _, _, _, _, _, _, _, _, _, _, _, rfl, fun env => ⟨_, rfl⟩⟩ ⟨rfl, rfl, rfl, by decide +kernel, rfl, by decide +kernel, by decide +kernel, by decide +kernel⟩ (c.fact 99 (f := .ex (errB "InvalidSpan" "at")) rfl) g_InvalidSpan rfl (by kernel_rfl) (by kernel_rfl) (by kernel_rfl) (by kernel_rfl) (by decide +kernel) (by decide +kernel) (FunS.kbn (ps := ["self", "at"]) FS_InvalidSpan 1 ["at"] fun _ _ _ _ _ _ us ws hl hw => match us, hl, ws, hw with | [_], _, [_], _ => rfl)
  obtain ⟨fd_InvalidText, cda_InvalidText, cc_InvalidText, FS_InvalidText, SK_InvalidText, _⟩ := DefE.funS (P := P) (mg := mg) (d := d3) (ar := "self") (D := He.ga K "InvalidText") rfl (c.raw 3 (d := d3) rfl).1 (c.raw 3 (d := d3) rfl).2 (by rw [hfile]; exact (c.fact 102 (f := .ex (fun K => supOkB "/claim/cut.py" "self" K (d3.at_.ad K) (He.ga K "InvalidText"))) rfl)) n_super hsup
  have EV1_InvalidText : ErrV P w K mg base ci 1 4 "InvalidText" 1 [] (spE (ci 4).1 "InvalidText" "given") := errV_c (txt := "not a text of a letter") (par := "given") FS_InvalidText SK_InvalidText ⟨_, _, _, _, _, _, _, _, _, _, _, _, _, _, _, _, rfl, fun env => ⟨_, rfl⟩⟩ ⟨rfl, rfl, rfl, by decide +kernel, rfl, by decide +kernel, by decide +kernel, by decide +kernel⟩ (c.fact 101 (f := .ex (errB "InvalidText" "given")) rfl) g_InvalidText rfl (by kernel_rfl) (by kernel_rfl) (by kernel_rfl) (by kernel_rfl) (by decide +kernel) (by decide +kernel) (FunS.kbn (ps := ["self", "given"]) FS_InvalidText 2 [] fun _ _ _ _ _ _ us ws hl hw => match us, hl, ws, hw with | [_, _], _, [], _ => rfl)
  have EV0_InvalidText : ErrV P w K mg base ci 1 4 "InvalidText" 0 ["given"] (spE (ci 4).1 "InvalidText" "given") := errV_c (txt := "not a text of a letter") (par := "given") FS_InvalidText SK_InvalidText ⟨_, _, _, _, _, _, _, _, _, _, _, _, _, _, _, _, rfl, fun env => ⟨_, rfl⟩⟩ ⟨rfl, rfl, rfl, by decide +kernel, rfl, by decide +kernel, by decide +kernel, by decide +kernel⟩ (c.fact 101 (f := .ex (errB "InvalidText" "given")) rfl) g_InvalidText rfl (by kernel_rfl) (by kernel_rfl) (by kernel_rfl) (by kernel_rfl) (by decide +kernel) (by decide +kernel) (FunS.kbn (ps := ["self", "given"]) FS_InvalidText 1 ["given"] fun _ _ _ _ _ _ us ws hl hw => match us, hl, ws, hw with | [_], _, [_], _ => rfl)
  obtain ⟨fd_InvalidSeat, cda_InvalidSeat, cc_InvalidSeat, FS_InvalidSeat, SK_InvalidSeat, _⟩ := DefE.funS (P := P) (mg := mg) (d := d4) (ar := "self") (D := He.ga K "InvalidSeat") rfl (c.raw 4 (d := d4) rfl).1 (c.raw 4 (d := d4) rfl).2 (by rw [hfile]; exact (c.fact 104 (f := .ex (fun K => supOkB "/claim/cut.py" "self" K (d4.at_.ad K) (He.ga K "InvalidSeat"))) rfl)) n_super hsup
  have EV1_InvalidSeat : ErrV P w K mg base ci 1 5 "InvalidSeat" 1 [] (spE (ci 5).1 "InvalidSeat" "at") := errV_c (txt := "not a thing or a peg") (par := "at") FS_InvalidSeat SK_InvalidSeat ⟨_, _, _, _, _, _, _, _, _, _, _, _, _, _, _, _, rfl, fun env => ⟨_, rfl⟩⟩ ⟨rfl, rfl, rfl, by decide +kernel, rfl, by decide +kernel, by decide +kernel, by decide +kernel⟩ (c.fact 103 (f := .ex (errB "InvalidSeat" "at")) rfl) g_InvalidSeat rfl (by kernel_rfl) (by kernel_rfl) (by kernel_rfl) (by kernel_rfl) (by decide +kernel) (by decide +kernel) (FunS.kbn (ps := ["self", "at"]) FS_InvalidSeat 2 [] fun _ _ _ _ _ _ us ws hl hw => match us, hl, ws, hw with | [_, _], _, [], _ => rfl)
  have EV0_InvalidSeat : ErrV P w K mg base ci 1 5 "InvalidSeat" 0 ["at"] (spE (ci 5).1 "InvalidSeat" "at") := errV_c (txt := "not a thing or a peg") (par := "at") FS_InvalidSeat SK_InvalidSeat ⟨_, _, _, _, _, _, _, _, _, _, _, _, _, _, _, _, rfl, fun env => ⟨_, rfl⟩⟩ ⟨rfl, rfl, rfl, by decide +kernel, rfl, by decide +kernel, by decide +kernel, by decide +kernel⟩ (c.fact 103 (f := .ex (errB "InvalidSeat" "at")) rfl) g_InvalidSeat rfl (by kernel_rfl) (by kernel_rfl) (by kernel_rfl) (by kernel_rfl) (by decide +kernel) (by decide +kernel) (FunS.kbn (ps := ["self", "at"]) FS_InvalidSeat 1 ["at"] fun _ _ _ _ _ _ us ws hl hw => match us, hl, ws, hw with | [_], _, [_], _ => rfl)
  obtain ⟨fd_InvalidRecord, cda_InvalidRecord, cc_InvalidRecord, FS_InvalidRecord, SK_InvalidRecord, _⟩ := DefE.funS (P := P) (mg := mg) (d := d5) (ar := "self") (D := He.ga K "InvalidRecord") rfl (c.raw 5 (d := d5) rfl).1 (c.raw 5 (d := d5) rfl).2 (by rw [hfile]; exact (c.fact 106 (f := .ex (fun K => supOkB "/claim/cut.py" "self" K (d5.at_.ad K) (He.ga K "InvalidRecord"))) rfl)) n_super hsup
  have EV1_InvalidRecord : ErrV P w K mg base ci 1 6 "InvalidRecord" 1 [] (spE (ci 6).1 "InvalidRecord" "at") := errV_c (txt := "not a record of these seats") (par := "at") FS_InvalidRecord SK_InvalidRecord ⟨_, _, _, _, _, _, _, _, _, _, _, _, _, _, _, _, rfl, fun env => ⟨_, rfl⟩⟩ ⟨rfl, rfl, rfl, by decide +kernel, rfl, by decide +kernel, by decide +kernel, by decide +kernel⟩ (c.fact 105 (f := .ex (errB "InvalidRecord" "at")) rfl) g_InvalidRecord rfl (by kernel_rfl) (by kernel_rfl) (by kernel_rfl) (by kernel_rfl) (by decide +kernel) (by decide +kernel) (FunS.kbn (ps := ["self", "at"]) FS_InvalidRecord 2 [] fun _ _ _ _ _ _ us ws hl hw => match us, hl, ws, hw with | [_, _], _, [], _ => rfl)
  have EV0_InvalidRecord : ErrV P w K mg base ci 1 6 "InvalidRecord" 0 ["at"] (spE (ci 6).1 "InvalidRecord" "at") := errV_c (txt := "not a record of these seats") (par := "at") FS_InvalidRecord SK_InvalidRecord ⟨_, _, _, _, _, _, _, _, _, _, _, _, _, _, _, _, rfl, fun env => ⟨_, rfl⟩⟩ ⟨rfl, rfl, rfl, by decide +kernel, rfl, by decide +kernel, by decide +kernel, by decide +kernel⟩ (c.fact 105 (f := .ex (errB "InvalidRecord" "at")) rfl) g_InvalidRecord rfl (by kernel_rfl) (by kernel_rfl) (by kernel_rfl) (by kernel_rfl) (by decide +kernel) (by decide +kernel) (FunS.kbn (ps := ["self", "at"]) FS_InvalidRecord 1 ["at"] fun _ _ _ _ _ _ us ws hl hw => match us, hl, ws, hw with | [_], _, [_], _ => rfl)
  obtain ⟨fd_Clash, cda_Clash, cc_Clash, FS_Clash, SK_Clash, _⟩ := DefE.funS (P := P) (mg := mg) (d := d6) (ar := "self") (D := He.ga K "Clash") rfl (c.raw 6 (d := d6) rfl).1 (c.raw 6 (d := d6) rfl).2 (by rw [hfile]; exact (c.fact 108 (f := .ex (fun K => supOkB "/claim/cut.py" "self" K (d6.at_.ad K) (He.ga K "Clash"))) rfl)) n_super hsup
  have EV1_Clash : ErrV P w K mg base ci 1 7 "Clash" 1 [] (spE (ci 7).1 "Clash" "at") := errV_c (txt := "an item does not go with earlier ones") (par := "at") FS_Clash SK_Clash ⟨_, _, _, _, _, _, _, _, _, _, _, _, _, _, _, _, rfl, fun env => ⟨_, rfl⟩⟩ ⟨rfl, rfl, rfl, by decide +kernel, rfl, by decide +kernel, by decide +kernel, by decide +kernel⟩ (c.fact 107 (f := .ex (errB "Clash" "at")) rfl) g_Clash rfl (by kernel_rfl) (by kernel_rfl) (by kernel_rfl) (by kernel_rfl) (by decide +kernel) (by decide +kernel) (FunS.kbn (ps := ["self", "at"]) FS_Clash 2 [] fun _ _ _ _ _ _ us ws hl hw => match us, hl, ws, hw with | [_, _], _, [], _ => rfl)
  have EV0_Clash : ErrV P w K mg base ci 1 7 "Clash" 0 ["at"] (spE (ci 7).1 "Clash" "at") := errV_c (txt := "an item does not go with earlier ones") (par := "at") FS_Clash SK_Clash ⟨_, _, _, _, _, _, _, _, _, _, _, _, _, _, _, _, rfl, fun env => ⟨_, rfl⟩⟩ ⟨rfl, rfl, rfl, by decide +kernel, rfl, by decide +kernel, by decide +kernel, by decide +kernel⟩ (c.fact 107 (f := .ex (errB "Clash" "at")) rfl) g_Clash rfl (by kernel_rfl) (by kernel_rfl) (by kernel_rfl) (by kernel_rfl) (by decide +kernel) (by decide +kernel) (FunS.kbn (ps := ["self", "at"]) FS_Clash 1 ["at"] fun _ _ _ _ _ _ us ws hl hw => match us, hl, ws, hw with | [_], _, [_], _ => rfl)
  obtain ⟨fd_DuplicateName, cda_DuplicateName, cc_DuplicateName, FS_DuplicateName, SK_DuplicateName, _⟩ := DefE.funS (P := P) (mg := mg) (d := d7) (ar := "self") (D := He.ga K "DuplicateName") rfl (c.raw 7 (d := d7) rfl).1 (c.raw 7 (d := d7) rfl).2 (by rw [hfile]; exact (c.fact 110 (f := .ex (fun K => supOkB "/claim/cut.py" "self" K (d7.at_.ad K) (He.ga K "DuplicateName"))) rfl)) n_super hsup
  have EV1_DuplicateName : ErrV P w K mg base ci 1 8 "DuplicateName" 1 [] (spE (ci 8).1 "DuplicateName" "name") := errV_c (txt := "a name occurs twice") (par := "name") FS_DuplicateName SK_DuplicateName ⟨_, _, _, _, _, _, _, _, _, _, _, _, _, _, _, _, rfl, fun env => ⟨_, rfl⟩⟩ ⟨rfl, rfl, rfl, by decide +kernel, rfl, by decide +kernel, by decide +kernel, by decide +kernel⟩ (c.fact 109 (f := .ex (errB "DuplicateName" "name")) rfl) g_DuplicateName rfl (by kernel_rfl) (by kernel_rfl) (by kernel_rfl) (by kernel_rfl) (by decide +kernel) (by decide +kernel) (FunS.kbn (ps := ["self", "name"]) FS_DuplicateName 2 [] fun _ _ _ _ _ _ us ws hl hw => match us, hl, ws, hw with | [_, _], _, [], _ => rfl)
  have EV0_DuplicateName : ErrV P w K mg base ci 1 8 "DuplicateName" 0 ["name"] (spE (ci 8).1 "DuplicateName" "name") := errV_c (txt := "a name occurs twice") (par := "name") FS_DuplicateName SK_DuplicateName ⟨_, _, _, _, _, _, _, _, _, _, _, _, _, _, _, _, rfl, fun env => ⟨_, rfl⟩⟩ ⟨rfl, rfl, rfl, by decide +kernel, rfl, by decide +kernel, by decide +kernel, by decide +kernel⟩ (c.fact 109 (f := .ex (errB "DuplicateName" "name")) rfl) g_DuplicateName rfl (by kernel_rfl) (by kernel_rfl) (by kernel_rfl) (by kernel_rfl) (by decide +kernel) (by decide +kernel) (FunS.kbn (ps := ["self", "name"]) FS_DuplicateName 1 ["name"] fun _ _ _ _ _ _ us ws hl hw => match us, hl, ws, hw with | [_], _, [_], _ => rfl)
  obtain ⟨fd_DuplicateNumber, cda_DuplicateNumber, cc_DuplicateNumber, FS_DuplicateNumber, SK_DuplicateNumber, _⟩ := DefE.funS (P := P) (mg := mg) (d := d8) (ar := "self") (D := He.ga K "DuplicateNumber") rfl (c.raw 8 (d := d8) rfl).1 (c.raw 8 (d := d8) rfl).2 (by rw [hfile]; exact (c.fact 112 (f := .ex (fun K => supOkB "/claim/cut.py" "self" K (d8.at_.ad K) (He.ga K "DuplicateNumber"))) rfl)) n_super hsup
  have EV1_DuplicateNumber : ErrV P w K mg base ci 1 9 "DuplicateNumber" 1 [] (spE (ci 9).1 "DuplicateNumber" "given") := errV_c (txt := "a number occurs twice") (par := "given") FS_DuplicateNumber SK_DuplicateNumber ⟨_, _, _, _, _, _, _, _, _, _, _, _, _, _, _, _, rfl, fun env => ⟨_, rfl⟩⟩ ⟨rfl, rfl, rfl, by decide +kernel, rfl, by decide +kernel, by decide +kernel, by decide +kernel⟩ (c.fact 111 (f := .ex (errB "DuplicateNumber" "given")) rfl) g_DuplicateNumber rfl (by kernel_rfl) (by kernel_rfl) (by kernel_rfl) (by kernel_rfl) (by decide +kernel) (by decide +kernel) (FunS.kbn (ps := ["self", "given"]) FS_DuplicateNumber 2 [] fun _ _ _ _ _ _ us ws hl hw => match us, hl, ws, hw with | [_, _], _, [], _ => rfl)
  have EV0_DuplicateNumber : ErrV P w K mg base ci 1 9 "DuplicateNumber" 0 ["given"] (spE (ci 9).1 "DuplicateNumber" "given") := errV_c (txt := "a number occurs twice") (par := "given") FS_DuplicateNumber SK_DuplicateNumber ⟨_, _, _, _, _, _, _, _, _, _, _, _, _, _, _, _, rfl, fun env => ⟨_, rfl⟩⟩ ⟨rfl, rfl, rfl, by decide +kernel, rfl, by decide +kernel, by decide +kernel, by decide +kernel⟩ (c.fact 111 (f := .ex (errB "DuplicateNumber" "given")) rfl) g_DuplicateNumber rfl (by kernel_rfl) (by kernel_rfl) (by kernel_rfl) (by kernel_rfl) (by decide +kernel) (by decide +kernel) (FunS.kbn (ps := ["self", "given"]) FS_DuplicateNumber 1 ["given"] fun _ _ _ _ _ _ us ws hl hw => match us, hl, ws, hw with | [_], _, [_], _ => rfl)
  obtain ⟨fd_TooMany, cda_TooMany, cc_TooMany, FS_TooMany, SK_TooMany, _⟩ := DefE.funS (P := P) (mg := mg) (d := d9) (ar := "self") (D := He.ga K "TooMany") rfl (c.raw 9 (d := d9) rfl).1 (c.raw 9 (d := d9) rfl).2 (by rw [hfile]; exact (c.fact 114 (f := .ex (fun K => supOkB "/claim/cut.py" "self" K (d9.at_.ad K) (He.ga K "TooMany"))) rfl)) n_super hsup
  have EV1_TooMany : ErrV P w K mg base ci 1 10 "TooMany" 1 [] (spE (ci 10).1 "TooMany" "most") := errV_c (txt := "there are too many") (par := "most") FS_TooMany SK_TooMany ⟨_, _, _, _, _, _, _, _, _, _, _, _, _, _, _, _, rfl, fun env => ⟨_, rfl⟩⟩ ⟨rfl, rfl, rfl, by decide +kernel, rfl, by decide +kernel, by decide +kernel, by decide +kernel⟩ (c.fact 113 (f := .ex (errB "TooMany" "most")) rfl) g_TooMany rfl (by kernel_rfl) (by kernel_rfl) (by kernel_rfl) (by kernel_rfl) (by decide +kernel) (by decide +kernel) (FunS.kbn (ps := ["self", "most"]) FS_TooMany 2 [] fun _ _ _ _ _ _ us ws hl hw => match us, hl, ws, hw with | [_, _], _, [], _ => rfl)
  have EV0_TooMany : ErrV P w K mg base ci 1 10 "TooMany" 0 ["most"] (spE (ci 10).1 "TooMany" "most") := errV_c (txt := "there are too many") (par := "most") FS_TooMany SK_TooMany ⟨_, _, _, _, _, _, _, _, _, _, _, _, _, _, _, _, rfl, fun env => ⟨_, rfl⟩⟩ ⟨rfl, rfl, rfl, by decide +kernel, rfl, by decide +kernel, by decide +kernel, by decide +kernel⟩ (c.fact 113 (f := .ex (errB "TooMany" "most")) rfl) g_TooMany rfl (by kernel_rfl) (by kernel_rfl) (by kernel_rfl) (by kernel_rfl) (by decide +kernel) (by decide +kernel) (FunS.kbn (ps := ["self", "most"]) FS_TooMany 1 ["most"] fun _ _ _ _ _ _ us ws hl hw => match us, hl, ws, hw with | [_], _, [_], _ => rfl)
  obtain ⟨fd_Full, cda_Full, cc_Full, FS_Full, SK_Full, _⟩ := DefE.funS (P := P) (mg := mg) (d := d10) (ar := "self") (D := He.ga K "Full") rfl (c.raw 10 (d := d10) rfl).1 (c.raw 10 (d := d10) rfl).2 (by rw [hfile]; exact (c.fact 116 (f := .ex (fun K => supOkB "/claim/cut.py" "self" K (d10.at_.ad K) (He.ga K "Full"))) rfl)) n_super hsup
  have EV1_Full : ErrV P w K mg base ci 1 11 "Full" 1 [] (spE (ci 11).1 "Full" "limit") := errV_c (txt := "the recall is full") (par := "limit") FS_Full SK_Full ⟨_, _, _, _, _, _, _, _, _, _, _, _, _, _, _, _, rfl, fun env => ⟨_, rfl⟩⟩ ⟨rfl, rfl, rfl, by decide +kernel, rfl, by decide +kernel, by decide +kernel, by decide +kernel⟩ (c.fact 115 (f := .ex (errB "Full" "limit")) rfl) g_Full rfl (by kernel_rfl) (by kernel_rfl) (by kernel_rfl) (by kernel_rfl) (by decide +kernel) (by decide +kernel) (FunS.kbn (ps := ["self", "limit"]) FS_Full 2 [] fun _ _ _ _ _ _ us ws hl hw => match us, hl, ws, hw with | [_, _], _, [], _ => rfl)
  have EV0_Full : ErrV P w K mg base ci 1 11 "Full" 0 ["limit"] (spE (ci 11).1 "Full" "limit") := errV_c (txt := "the recall is full") (par := "limit") FS_Full SK_Full ⟨_, _, _, _, _, _, _, _, _, _, _, _, _, _, _, _, rfl, fun env => ⟨_, rfl⟩⟩ ⟨rfl, rfl, rfl, by decide +kernel, rfl, by decide +kernel, by decide +kernel, by decide +kernel⟩ (c.fact 115 (f := .ex (errB "Full" "limit")) rfl) g_Full rfl (by kernel_rfl) (by kernel_rfl) (by kernel_rfl) (by kernel_rfl) (by decide +kernel) (by decide +kernel) (FunS.kbn (ps := ["self", "limit"]) FS_Full 1 ["limit"] fun _ _ _ _ _ _ us ws hl hw => match us, hl, ws, hw with | [_], _, [_], _ => rfl)
  obtain ⟨fd_NotAThing, cda_NotAThing, cc_NotAThing, FS_NotAThing, SK_NotAThing, _⟩ := DefE.funS (P := P) (mg := mg) (d := d11) (ar := "self") (D := He.ga K "NotAThing") rfl (c.raw 11 (d := d11) rfl).1 (c.raw 11 (d := d11) rfl).2 (by rw [hfile]; exact (c.fact 118 (f := .ex (fun K => supOkB "/claim/cut.py" "self" K (d11.at_.ad K) (He.ga K "NotAThing"))) rfl)) n_super hsup
  have EV1_NotAThing : ErrV P w K mg base ci 1 12 "NotAThing" 1 [] (spE (ci 12).1 "NotAThing" "name") := errV_c (txt := "a peg cannot be looked at") (par := "name") FS_NotAThing SK_NotAThing ⟨_, _, _, _, _, _, _, _, _, _, _, _, _, _, _, _, rfl, fun env => ⟨_, rfl⟩⟩ ⟨rfl, rfl, rfl, by decide +kernel, rfl, by decide +kernel, by decide +kernel, by decide +kernel⟩ (c.fact 117 (f := .ex (errB "NotAThing" "name")) rfl) g_NotAThing rfl (by kernel_rfl) (by kernel_rfl) (by kernel_rfl) (by kernel_rfl) (by decide +kernel) (by decide +kernel) (FunS.kbn (ps := ["self", "name"]) FS_NotAThing 2 [] fun _ _ _ _ _ _ us ws hl hw => match us, hl, ws, hw with | [_, _], _, [], _ => rfl)
  have EV0_NotAThing : ErrV P w K mg base ci 1 12 "NotAThing" 0 ["name"] (spE (ci 12).1 "NotAThing" "name") := errV_c (txt := "a peg cannot be looked at") (par := "name") FS_NotAThing SK_NotAThing ⟨_, _, _, _, _, _, _, _, _, _, _, _, _, _, _, _, rfl, fun env => ⟨_, rfl⟩⟩ ⟨rfl, rfl, rfl, by decide +kernel, rfl, by decide +kernel, by decide +kernel, by decide +kernel⟩ (c.fact 117 (f := .ex (errB "NotAThing" "name")) rfl) g_NotAThing rfl (by kernel_rfl) (by kernel_rfl) (by kernel_rfl) (by kernel_rfl) (by decide +kernel) (by decide +kernel) (FunS.kbn (ps := ["self", "name"]) FS_NotAThing 1 ["name"] fun _ _ _ _ _ _ us ws hl hw => match us, hl, ws, hw with | [_], _, [_], _ => rfl)
  obtain ⟨fd_Contradiction, cda_Contradiction, cc_Contradiction, FS_Contradiction, SK_Contradiction, _⟩ := DefE.funS (P := P) (mg := mg) (d := d12) (ar := "self") (D := He.ga K "Contradiction") rfl (c.raw 12 (d := d12) rfl).1 (c.raw 12 (d := d12) rfl).2 (by rw [hfile]; exact (c.fact 120 (f := .ex (fun K => supOkB "/claim/cut.py" "self" K (d12.at_.ad K) (He.ga K "Contradiction"))) rfl)) n_super hsup
  have EV1_Contradiction : ErrV P w K mg base ci 1 13 "Contradiction" 1 [] (spE (ci 13).1 "Contradiction" "at") := errV_c (txt := "an answer fits no list") (par := "at") FS_Contradiction SK_Contradiction ⟨_, _, _, _, _, _, _, _, _, _, _, _, _, _, _, _, rfl, fun env => ⟨_, rfl⟩⟩ ⟨rfl, rfl, rfl, by decide +kernel, rfl, by decide +kernel, by decide +kernel, by decide +kernel⟩ (c.fact 119 (f := .ex (errB "Contradiction" "at")) rfl) g_Contradiction rfl (by kernel_rfl) (by kernel_rfl) (by kernel_rfl) (by kernel_rfl) (by decide +kernel) (by decide +kernel) (FunS.kbn (ps := ["self", "at"]) FS_Contradiction 2 [] fun _ _ _ _ _ _ us ws hl hw => match us, hl, ws, hw with | [_, _], _, [], _ => rfl)
  have EV0_Contradiction : ErrV P w K mg base ci 1 13 "Contradiction" 0 ["at"] (spE (ci 13).1 "Contradiction" "at") := errV_c (txt := "an answer fits no list") (par := "at") FS_Contradiction SK_Contradiction ⟨_, _, _, _, _, _, _, _, _, _, _, _, _, _, _, _, rfl, fun env => ⟨_, rfl⟩⟩ ⟨rfl, rfl, rfl, by decide +kernel, rfl, by decide +kernel, by decide +kernel, by decide +kernel⟩ (c.fact 119 (f := .ex (errB "Contradiction" "at")) rfl) g_Contradiction rfl (by kernel_rfl) (by kernel_rfl) (by kernel_rfl) (by kernel_rfl) (by decide +kernel) (by decide +kernel) (FunS.kbn (ps := ["self", "at"]) FS_Contradiction 1 ["at"] fun _ _ _ _ _ _ us ws hl hw => match us, hl, ws, hw with | [_], _, [_], _ => rfl)
  obtain ⟨fd_InvalidRule, cda_InvalidRule, cc_InvalidRule, FS_InvalidRule, SK_InvalidRule, _⟩ := DefE.funS (P := P) (mg := mg) (d := d13) (ar := "self") (D := He.ga K "InvalidRule") rfl (c.raw 13 (d := d13) rfl).1 (c.raw 13 (d := d13) rfl).2 (by rw [hfile]; exact (c.fact 122 (f := .ex (fun K => supOkB "/claim/cut.py" "self" K (d13.at_.ad K) (He.ga K "InvalidRule"))) rfl)) n_super hsup
  have EV1_InvalidRule : ErrV P w K mg base ci 1 14 "InvalidRule" 1 [] (spE (ci 14).1 "InvalidRule" "given") := errV_c (txt := "not an order of a rule") (par := "given") FS_InvalidRule SK_InvalidRule ⟨_, _, _, _, _, _, _, _, _, _, _, _, _, _, _, _, rfl, fun env => ⟨_, rfl⟩⟩ ⟨rfl, rfl, rfl, by decide +kernel, rfl, by decide +kernel, by decide +kernel, by decide +kernel⟩ (c.fact 121 (f := .ex (errB "InvalidRule" "given")) rfl) g_InvalidRule rfl (by kernel_rfl) (by kernel_rfl) (by kernel_rfl) (by kernel_rfl) (by decide +kernel) (by decide +kernel) (FunS.kbn (ps := ["self", "given"]) FS_InvalidRule 2 [] fun _ _ _ _ _ _ us ws hl hw => match us, hl, ws, hw with | [_, _], _, [], _ => rfl)
  have EV0_InvalidRule : ErrV P w K mg base ci 1 14 "InvalidRule" 0 ["given"] (spE (ci 14).1 "InvalidRule" "given") := errV_c (txt := "not an order of a rule") (par := "given") FS_InvalidRule SK_InvalidRule ⟨_, _, _, _, _, _, _, _, _, _, _, _, _, _, _, _, rfl, fun env => ⟨_, rfl⟩⟩ ⟨rfl, rfl, rfl, by decide +kernel, rfl, by decide +kernel, by decide +kernel, by decide +kernel⟩ (c.fact 121 (f := .ex (errB "InvalidRule" "given")) rfl) g_InvalidRule rfl (by kernel_rfl) (by kernel_rfl) (by kernel_rfl) (by kernel_rfl) (by decide +kernel) (by decide +kernel) (FunS.kbn (ps := ["self", "given"]) FS_InvalidRule 1 ["given"] fun _ _ _ _ _ _ us ws hl hw => match us, hl, ws, hw with | [_], _, [_], _ => rfl)
  obtain ⟨fd_InvalidCommand, cda_InvalidCommand, cc_InvalidCommand, FS_InvalidCommand, SK_InvalidCommand, _⟩ := DefE.funS (P := P) (mg := mg) (d := d14) (ar := "self") (D := He.ga K "InvalidCommand") rfl (c.raw 14 (d := d14) rfl).1 (c.raw 14 (d := d14) rfl).2 (by rw [hfile]; exact (c.fact 124 (f := .ex (fun K => supOkB "/claim/cut.py" "self" K (d14.at_.ad K) (He.ga K "InvalidCommand"))) rfl)) n_super hsup
  have EV1_InvalidCommand : ErrV P w K mg base ci 1 15 "InvalidCommand" 1 [] (spE (ci 15).1 "InvalidCommand" "at") := errV_c (txt := "not a command") (par := "at") FS_InvalidCommand SK_InvalidCommand ⟨_, _, _, _, _, _, _, _, _, _, _, _, _, _, _, _, rfl, fun env => ⟨_, rfl⟩⟩ ⟨rfl, rfl, rfl, by decide +kernel, rfl, by decide +kernel, by decide +kernel, by decide +kernel⟩ (c.fact 123 (f := .ex (errB "InvalidCommand" "at")) rfl) g_InvalidCommand rfl (by kernel_rfl) (by kernel_rfl) (by kernel_rfl) (by kernel_rfl) (by decide +kernel) (by decide +kernel) (FunS.kbn (ps := ["self", "at"]) FS_InvalidCommand 2 [] fun _ _ _ _ _ _ us ws hl hw => match us, hl, ws, hw with | [_, _], _, [], _ => rfl)
  have EV0_InvalidCommand : ErrV P w K mg base ci 1 15 "InvalidCommand" 0 ["at"] (spE (ci 15).1 "InvalidCommand" "at") := errV_c (txt := "not a command") (par := "at") FS_InvalidCommand SK_InvalidCommand ⟨_, _, _, _, _, _, _, _, _, _, _, _, _, _, _, _, rfl, fun env => ⟨_, rfl⟩⟩ ⟨rfl, rfl, rfl, by decide +kernel, rfl, by decide +kernel, by decide +kernel, by decide +kernel⟩ (c.fact 123 (f := .ex (errB "InvalidCommand" "at")) rfl) g_InvalidCommand rfl (by kernel_rfl) (by kernel_rfl) (by kernel_rfl) (by kernel_rfl) (by decide +kernel) (by decide +kernel) (FunS.kbn (ps := ["self", "at"]) FS_InvalidCommand 1 ["at"] fun _ _ _ _ _ _ us ws hl hw => match us, hl, ws, hw with | [_], _, [_], _ => rfl)
  obtain ⟨fd_InvalidLimit, cda_InvalidLimit, cc_InvalidLimit, FS_InvalidLimit, SK_InvalidLimit, _⟩ := DefE.funS (P := P) (mg := mg) (d := d15) (ar := "self") (D := He.ga K "InvalidLimit") rfl (c.raw 15 (d := d15) rfl).1 (c.raw 15 (d := d15) rfl).2 (by rw [hfile]; exact (c.fact 126 (f := .ex (fun K => supOkB "/claim/cut.py" "self" K (d15.at_.ad K) (He.ga K "InvalidLimit"))) rfl)) n_super hsup
  have EV1_InvalidLimit : ErrV P w K mg base ci 1 16 "InvalidLimit" 1 [] (spE (ci 16).1 "InvalidLimit" "given") := errV_c (txt := "not a limit") (par := "given") FS_InvalidLimit SK_InvalidLimit ⟨_, _, _, _, _, _, _, _, _, _, _, _, _, _, _, _, rfl, fun env => ⟨_, rfl⟩⟩ ⟨rfl, rfl, rfl, by decide +kernel, rfl, by decide +kernel, by decide +kernel, by decide +kernel⟩ (c.fact 125 (f := .ex (errB "InvalidLimit" "given")) rfl) g_InvalidLimit rfl (by kernel_rfl) (by kernel_rfl) (by kernel_rfl) (by kernel_rfl) (by decide +kernel) (by decide +kernel) (FunS.kbn (ps := ["self", "given"]) FS_InvalidLimit 2 [] fun _ _ _ _ _ _ us ws hl hw => match us, hl, ws, hw with | [_, _], _, [], _ => rfl)
  have EV0_InvalidLimit : ErrV P w K mg base ci 1 16 "InvalidLimit" 0 ["given"] (spE (ci 16).1 "InvalidLimit" "given") := errV_c (txt := "not a limit") (par := "given") FS_InvalidLimit SK_InvalidLimit ⟨_, _, _, _, _, _, _, _, _, _, _, _, _, _, _, _, rfl, fun env => ⟨_, rfl⟩⟩ ⟨rfl, rfl, rfl, by decide +kernel, rfl, by decide +kernel, by decide +kernel, by decide +kernel⟩ (c.fact 125 (f := .ex (errB "InvalidLimit" "given")) rfl) g_InvalidLimit rfl (by kernel_rfl) (by kernel_rfl) (by kernel_rfl) (by kernel_rfl) (by decide +kernel) (by decide +kernel) (FunS.kbn (ps := ["self", "given"]) FS_InvalidLimit 1 ["given"] fun _ _ _ _ _ _ us ws hl hw => match us, hl, ws, hw with | [_], _, [_], _ => rfl)
  obtain ⟨fd_InvalidPage, cda_InvalidPage, cc_InvalidPage, FS_InvalidPage, SK_InvalidPage, _⟩ := DefE.funS (P := P) (mg := mg) (d := d16) (ar := "self") (D := He.ga K "InvalidPage") rfl (c.raw 16 (d := d16) rfl).1 (c.raw 16 (d := d16) rfl).2 (by rw [hfile]; exact (c.fact 128 (f := .ex (fun K => supOkB "/claim/cut.py" "self" K (d16.at_.ad K) (He.ga K "InvalidPage"))) rfl)) n_super hsup
  have EV1_InvalidPage : ErrV P w K mg base ci 1 17 "InvalidPage" 1 [] (spE (ci 17).1 "InvalidPage" "line") := errV_c (txt := "not a line of a page") (par := "line") FS_InvalidPage SK_InvalidPage ⟨_, _, _, _, _, _, _, _, _, _, _, _, _, _, _, _, rfl, fun env => ⟨_, rfl⟩⟩ ⟨rfl, rfl, rfl, by decide +kernel, rfl, by decide +kernel, by decide +kernel, by decide +kernel⟩ (c.fact 127 (f := .ex (errB "InvalidPage" "line")) rfl) g_InvalidPage rfl (by kernel_rfl) (by kernel_rfl) (by kernel_rfl) (by kernel_rfl) (by decide +kernel) (by decide +kernel) (FunS.kbn (ps := ["self", "line"]) FS_InvalidPage 2 [] fun _ _ _ _ _ _ us ws hl hw => match us, hl, ws, hw with | [_, _], _, [], _ => rfl)
  have EV0_InvalidPage : ErrV P w K mg base ci 1 17 "InvalidPage" 0 ["line"] (spE (ci 17).1 "InvalidPage" "line") := errV_c (txt := "not a line of a page") (par := "line") FS_InvalidPage SK_InvalidPage ⟨_, _, _, _, _, _, _, _, _, _, _, _, _, _, _, _, rfl, fun env => ⟨_, rfl⟩⟩ ⟨rfl, rfl, rfl, by decide +kernel, rfl, by decide +kernel, by decide +kernel, by decide +kernel⟩ (c.fact 127 (f := .ex (errB "InvalidPage" "line")) rfl) g_InvalidPage rfl (by kernel_rfl) (by kernel_rfl) (by kernel_rfl) (by kernel_rfl) (by decide +kernel) (by decide +kernel) (FunS.kbn (ps := ["self", "line"]) FS_InvalidPage 1 ["line"] fun _ _ _ _ _ _ us ws hl hw => match us, hl, ws, hw with | [_], _, [_], _ => rfl)
  obtain ⟨fd_UnknownName, cda_UnknownName, cc_UnknownName, FS_UnknownName, SK_UnknownName, _⟩ := DefE.funS (P := P) (mg := mg) (d := d17) (ar := "self") (D := He.ga K "UnknownName") rfl (c.raw 17 (d := d17) rfl).1 (c.raw 17 (d := d17) rfl).2 (by rw [hfile]; exact (c.fact 130 (f := .ex (fun K => supOkB "/claim/cut.py" "self" K (d17.at_.ad K) (He.ga K "UnknownName"))) rfl)) n_super hsup
  have EV1_UnknownName : ErrV P w K mg base ci 1 18 "UnknownName" 1 [] (spE (ci 18).1 "UnknownName" "name") := errV_l (txt := "there is no seat with this name") (par := "name") FS_UnknownName SK_UnknownName ⟨_, _, _, _, _, _, _, _, _, _, _, _, _, _, _, _, rfl, fun env => ⟨_, rfl⟩⟩ ⟨rfl, rfl, rfl, by decide +kernel, rfl, by decide +kernel, by decide +kernel, by decide +kernel⟩ (c.fact 129 (f := .ex (errLB "UnknownName" "name")) rfl) g_UnknownName rfl (by kernel_rfl) (by kernel_rfl) (by kernel_rfl) (by kernel_rfl) (by decide +kernel) (by decide +kernel) (FunS.kbn (ps := ["self", "name"]) FS_UnknownName 2 [] fun _ _ _ _ _ _ us ws hl hw => match us, hl, ws, hw with | [_, _], _, [], _ => rfl)
  have EV0_UnknownName : ErrV P w K mg base ci 1 18 "UnknownName" 0 ["name"] (spE (ci 18).1 "UnknownName" "name") := errV_l (txt := "there is no seat with this name") (par := "name") FS_UnknownName SK_UnknownName ⟨_, _, _, _, _, _, _, _, _, _, _, _, _, _, _, _, rfl, fun env => ⟨_, rfl⟩⟩ ⟨rfl, rfl, rfl, by decide +kernel, rfl, by decide +kernel, by decide +kernel, by decide +kernel⟩ (c.fact 129 (f := .ex (errLB "UnknownName" "name")) rfl) g_UnknownName rfl (by kernel_rfl) (by kernel_rfl) (by kernel_rfl) (by kernel_rfl) (by decide +kernel) (by decide +kernel) (FunS.kbn (ps := ["self", "name"]) FS_UnknownName 1 ["name"] fun _ _ _ _ _ _ us ws hl hw => match us, hl, ws, hw with | [_], _, [_], _ => rfl)
  obtain ⟨fd_NothingLeft, cda_NothingLeft, cc_NothingLeft, FS_NothingLeft, SK_NothingLeft, _⟩ := DefE.funS (P := P) (mg := mg) (d := d18) (ar := "self") (D := He.ga K "NothingLeft") rfl (c.raw 18 (d := d18) rfl).1 (c.raw 18 (d := d18) rfl).2 (by rw [hfile]; exact (c.fact 132 (f := .ex (fun K => supOkB "/claim/cut.py" "self" K (d18.at_.ad K) (He.ga K "NothingLeft"))) rfl)) n_super hsup
  have EVN_NothingLeft : ErrV P w K mg base ci 1 19 "NothingLeft" 0 [] (spN (ci 19).1 "NothingLeft") := errV_n (txt := "there is nothing left to take back or redo") FS_NothingLeft SK_NothingLeft ⟨_, _, _, _, _, _, _, _, _, _, _, _, rfl, fun env => ⟨_, rfl⟩⟩ ⟨rfl, rfl, rfl, by decide +kernel, rfl, by decide +kernel, by decide +kernel, by decide +kernel⟩ (c.fact 131 (f := .ex (errNB "NothingLeft")) rfl) g_NothingLeft rfl (by kernel_rfl) (by kernel_rfl) (by kernel_rfl) (FunS.kbn (ps := ["self"]) FS_NothingLeft 1 [] fun _ _ _ _ _ _ us ws hl hw => match us, hl, ws, hw with | [_], _, [], _ => rfl)
  have g_LumpError := He.glo_ok X G (c.fact 28 (f := .fa (.glo "LumpError")) rfl)
  have EX_LumpError : ErrX K mg ci 20 "LumpError" := errX_mk F.excBase_ValueError (c.fact 29 (f := .ex (errXB "LumpError" [.type "ValueError", .type "Exception", .type "BaseException", .type "object"] "ValueError.__new__")) rfl) g_LumpError rfl
  have g_Missing := He.glo_ok X G (c.fact 30 (f := .fa (.glo "Missing")) rfl)
  have EX_Missing : ErrX K mg ci 21 "Missing" := errX_mk F.excBase_LookupError (c.fact 31 (f := .ex (errXB "Missing" [.type "LookupError", .type "Exception", .type "BaseException", .type "object"] "LookupError.__new__")) rfl) g_Missing rfl
  have gm_InvalidNumber := g_InvalidNumber
  have xb_InvalidNumber := excB_ok (c.fact 32 (f := .ex (excB "InvalidNumber")) rfl)
  have xn_InvalidNumber := excNo_ok (c.fact 33 (f := .ex (excNo "InvalidNumber" exoNames)) rfl)
  have xi_InvalidNumber := @excIs_own _ _ _ _ (c.fact 34 (f := .ex (excIs "InvalidNumber" [("InvalidNumber", true), ("InvalidName", false), ("InvalidSpan", false), ("InvalidText", false), ("InvalidSeat", false), ("InvalidRecord", false), ("Clash", false), ("DuplicateName", false), ("DuplicateNumber", false), ("TooMany", false), ("Full", false), ("NotAThing", false), ("Contradiction", false), ("InvalidRule", false), ("InvalidCommand", false), ("InvalidLimit", false), ("InvalidPage", false), ("UnknownName", false), ("NothingLeft", false), ("LumpError", true), ("Missing", false)] [("ValueError", true), ("LookupError", false), ("IndexError", false)])) rfl)
  have xt_InvalidNumber := @excIs_blt _ _ _ _ (c.fact 34 (f := .ex (excIs "InvalidNumber" [("InvalidNumber", true), ("InvalidName", false), ("InvalidSpan", false), ("InvalidText", false), ("InvalidSeat", false), ("InvalidRecord", false), ("Clash", false), ("DuplicateName", false), ("DuplicateNumber", false), ("TooMany", false), ("Full", false), ("NotAThing", false), ("Contradiction", false), ("InvalidRule", false), ("InvalidCommand", false), ("InvalidLimit", false), ("InvalidPage", false), ("UnknownName", false), ("NothingLeft", false), ("LumpError", true), ("Missing", false)] [("ValueError", true), ("LookupError", false), ("IndexError", false)])) rfl)
  have gm_InvalidName := g_InvalidName
  have xb_InvalidName := excB_ok (c.fact 35 (f := .ex (excB "InvalidName")) rfl)
  have xn_InvalidName := excNo_ok (c.fact 36 (f := .ex (excNo "InvalidName" exoNames)) rfl)
  have xi_InvalidName := @excIs_own _ _ _ _ (c.fact 37 (f := .ex (excIs "InvalidName" [("InvalidNumber", false), ("InvalidName", true), ("InvalidSpan", false), ("InvalidText", false), ("InvalidSeat", false), ("InvalidRecord", false), ("Clash", false), ("DuplicateName", false), ("DuplicateNumber", false), ("TooMany", false), ("Full", false), ("NotAThing", false), ("Contradiction", false), ("InvalidRule", false), ("InvalidCommand", false), ("InvalidLimit", false), ("InvalidPage", false), ("UnknownName", false), ("NothingLeft", false), ("LumpError", true), ("Missing", false)] [("ValueError", true), ("LookupError", false), ("IndexError", false)])) rfl)
  have xt_InvalidName := @excIs_blt _ _ _ _ (c.fact 37 (f := .ex (excIs "InvalidName" [("InvalidNumber", false), ("InvalidName", true), ("InvalidSpan", false), ("InvalidText", false), ("InvalidSeat", false), ("InvalidRecord", false), ("Clash", false), ("DuplicateName", false), ("DuplicateNumber", false), ("TooMany", false), ("Full", false), ("NotAThing", false), ("Contradiction", false), ("InvalidRule", false), ("InvalidCommand", false), ("InvalidLimit", false), ("InvalidPage", false), ("UnknownName", false), ("NothingLeft", false), ("LumpError", true), ("Missing", false)] [("ValueError", true), ("LookupError", false), ("IndexError", false)])) rfl)
  have gm_InvalidSpan := g_InvalidSpan
  have xb_InvalidSpan := excB_ok (c.fact 38 (f := .ex (excB "InvalidSpan")) rfl)
  have xn_InvalidSpan := excNo_ok (c.fact 39 (f := .ex (excNo "InvalidSpan" exoNames)) rfl)
  have xi_InvalidSpan := @excIs_own _ _ _ _ (c.fact 40 (f := .ex (excIs "InvalidSpan" [("InvalidNumber", false), ("InvalidName", false), ("InvalidSpan", true), ("InvalidText", false), ("InvalidSeat", false), ("InvalidRecord", false), ("Clash", false), ("DuplicateName", false), ("DuplicateNumber", false), ("TooMany", false), ("Full", false), ("NotAThing", false), ("Contradiction", false), ("InvalidRule", false), ("InvalidCommand", false), ("InvalidLimit", false), ("InvalidPage", false), ("UnknownName", false), ("NothingLeft", false), ("LumpError", true), ("Missing", false)] [("ValueError", true), ("LookupError", false), ("IndexError", false)])) rfl)
  have xt_InvalidSpan := @excIs_blt _ _ _ _ (c.fact 40 (f := .ex (excIs "InvalidSpan" [("InvalidNumber", false), ("InvalidName", false), ("InvalidSpan", true), ("InvalidText", false), ("InvalidSeat", false), ("InvalidRecord", false), ("Clash", false), ("DuplicateName", false), ("DuplicateNumber", false), ("TooMany", false), ("Full", false), ("NotAThing", false), ("Contradiction", false), ("InvalidRule", false), ("InvalidCommand", false), ("InvalidLimit", false), ("InvalidPage", false), ("UnknownName", false), ("NothingLeft", false), ("LumpError", true), ("Missing", false)] [("ValueError", true), ("LookupError", false), ("IndexError", false)])) rfl)
  have gm_InvalidText := g_InvalidText
  have xb_InvalidText := excB_ok (c.fact 41 (f := .ex (excB "InvalidText")) rfl)
  have xn_InvalidText := excNo_ok (c.fact 42 (f := .ex (excNo "InvalidText" exoNames)) rfl)
  have xi_InvalidText := @excIs_own _ _ _ _ (c.fact 43 (f := .ex (excIs "InvalidText" [("InvalidNumber", false), ("InvalidName", false), ("InvalidSpan", false), ("InvalidText", true), ("InvalidSeat", false), ("InvalidRecord", false), ("Clash", false), ("DuplicateName", false), ("DuplicateNumber", false), ("TooMany", false), ("Full", false), ("NotAThing", false), ("Contradiction", false), ("InvalidRule", false), ("InvalidCommand", false), ("InvalidLimit", false), ("InvalidPage", false), ("UnknownName", false), ("NothingLeft", false), ("LumpError", true), ("Missing", false)] [("ValueError", true), ("LookupError", false), ("IndexError", false)])) rfl)
  have xt_InvalidText := @excIs_blt _ _ _ _ (c.fact 43 (f := .ex (excIs "InvalidText" [("InvalidNumber", false), ("InvalidName", false), ("InvalidSpan", false), ("InvalidText", true), ("InvalidSeat", false), ("InvalidRecord", false), ("Clash", false), ("DuplicateName", false), ("DuplicateNumber", false), ("TooMany", false), ("Full", false), ("NotAThing", false), ("Contradiction", false), ("InvalidRule", false), ("InvalidCommand", false), ("InvalidLimit", false), ("InvalidPage", false), ("UnknownName", false), ("NothingLeft", false), ("LumpError", true), ("Missing", false)] [("ValueError", true), ("LookupError", false), ("IndexError", false)])) rfl)
  have gm_InvalidSeat := g_InvalidSeat
  have xb_InvalidSeat := excB_ok (c.fact 44 (f := .ex (excB "InvalidSeat")) rfl)
  have xn_InvalidSeat := excNo_ok (c.fact 45 (f := .ex (excNo "InvalidSeat" exoNames)) rfl)
  have xi_InvalidSeat := @excIs_own _ _ _ _ (c.fact 46 (f := .ex (excIs "InvalidSeat" [("InvalidNumber", false), ("InvalidName", false), ("InvalidSpan", false), ("InvalidText", false), ("InvalidSeat", true), ("InvalidRecord", false), ("Clash", false), ("DuplicateName", false), ("DuplicateNumber", false), ("TooMany", false), ("Full", false), ("NotAThing", false), ("Contradiction", false), ("InvalidRule", false), ("InvalidCommand", false), ("InvalidLimit", false), ("InvalidPage", false), ("UnknownName", false), ("NothingLeft", false), ("LumpError", true), ("Missing", false)] [("ValueError", true), ("LookupError", false), ("IndexError", false)])) rfl)
  have xt_InvalidSeat := @excIs_blt _ _ _ _ (c.fact 46 (f := .ex (excIs "InvalidSeat" [("InvalidNumber", false), ("InvalidName", false), ("InvalidSpan", false), ("InvalidText", false), ("InvalidSeat", true), ("InvalidRecord", false), ("Clash", false), ("DuplicateName", false), ("DuplicateNumber", false), ("TooMany", false), ("Full", false), ("NotAThing", false), ("Contradiction", false), ("InvalidRule", false), ("InvalidCommand", false), ("InvalidLimit", false), ("InvalidPage", false), ("UnknownName", false), ("NothingLeft", false), ("LumpError", true), ("Missing", false)] [("ValueError", true), ("LookupError", false), ("IndexError", false)])) rfl)
  have gm_InvalidRecord := g_InvalidRecord
  have xb_InvalidRecord := excB_ok (c.fact 47 (f := .ex (excB "InvalidRecord")) rfl)
  have xn_InvalidRecord := excNo_ok (c.fact 48 (f := .ex (excNo "InvalidRecord" exoNames)) rfl)
  have xi_InvalidRecord := @excIs_own _ _ _ _ (c.fact 49 (f := .ex (excIs "InvalidRecord" [("InvalidNumber", false), ("InvalidName", false), ("InvalidSpan", false), ("InvalidText", false), ("InvalidSeat", false), ("InvalidRecord", true), ("Clash", false), ("DuplicateName", false), ("DuplicateNumber", false), ("TooMany", false), ("Full", false), ("NotAThing", false), ("Contradiction", false), ("InvalidRule", false), ("InvalidCommand", false), ("InvalidLimit", false), ("InvalidPage", false), ("UnknownName", false), ("NothingLeft", false), ("LumpError", true), ("Missing", false)] [("ValueError", true), ("LookupError", false), ("IndexError", false)])) rfl)
  have xt_InvalidRecord := @excIs_blt _ _ _ _ (c.fact 49 (f := .ex (excIs "InvalidRecord" [("InvalidNumber", false), ("InvalidName", false), ("InvalidSpan", false), ("InvalidText", false), ("InvalidSeat", false), ("InvalidRecord", true), ("Clash", false), ("DuplicateName", false), ("DuplicateNumber", false), ("TooMany", false), ("Full", false), ("NotAThing", false), ("Contradiction", false), ("InvalidRule", false), ("InvalidCommand", false), ("InvalidLimit", false), ("InvalidPage", false), ("UnknownName", false), ("NothingLeft", false), ("LumpError", true), ("Missing", false)] [("ValueError", true), ("LookupError", false), ("IndexError", false)])) rfl)
  have gm_Clash := g_Clash
  have xb_Clash := excB_ok (c.fact 50 (f := .ex (excB "Clash")) rfl)
  have xn_Clash := excNo_ok (c.fact 51 (f := .ex (excNo "Clash" exoNames)) rfl)
  have xi_Clash := @excIs_own _ _ _ _ (c.fact 52 (f := .ex (excIs "Clash" [("InvalidNumber", false), ("InvalidName", false), ("InvalidSpan", false), ("InvalidText", false), ("InvalidSeat", false), ("InvalidRecord", false), ("Clash", true), ("DuplicateName", false), ("DuplicateNumber", false), ("TooMany", false), ("Full", false), ("NotAThing", false), ("Contradiction", false), ("InvalidRule", false), ("InvalidCommand", false), ("InvalidLimit", false), ("InvalidPage", false), ("UnknownName", false), ("NothingLeft", false), ("LumpError", true), ("Missing", false)] [("ValueError", true), ("LookupError", false), ("IndexError", false)])) rfl)
  have xt_Clash := @excIs_blt _ _ _ _ (c.fact 52 (f := .ex (excIs "Clash" [("InvalidNumber", false), ("InvalidName", false), ("InvalidSpan", false), ("InvalidText", false), ("InvalidSeat", false), ("InvalidRecord", false), ("Clash", true), ("DuplicateName", false), ("DuplicateNumber", false), ("TooMany", false), ("Full", false), ("NotAThing", false), ("Contradiction", false), ("InvalidRule", false), ("InvalidCommand", false), ("InvalidLimit", false), ("InvalidPage", false), ("UnknownName", false), ("NothingLeft", false), ("LumpError", true), ("Missing", false)] [("ValueError", true), ("LookupError", false), ("IndexError", false)])) rfl)
  have gm_DuplicateName := g_DuplicateName
  have xb_DuplicateName := excB_ok (c.fact 53 (f := .ex (excB "DuplicateName")) rfl)
  have xn_DuplicateName := excNo_ok (c.fact 54 (f := .ex (excNo "DuplicateName" exoNames)) rfl)
  have xi_DuplicateName := @excIs_own _ _ _ _ (c.fact 55 (f := .ex (excIs "DuplicateName" [("InvalidNumber", false), ("InvalidName", false), ("InvalidSpan", false), ("InvalidText", false), ("InvalidSeat", false), ("InvalidRecord", false), ("Clash", false), ("DuplicateName", true), ("DuplicateNumber", false), ("TooMany", false), ("Full", false), ("NotAThing", false), ("Contradiction", false), ("InvalidRule", false), ("InvalidCommand", false), ("InvalidLimit", false), ("InvalidPage", false), ("UnknownName", false), ("NothingLeft", false), ("LumpError", true), ("Missing", false)] [("ValueError", true), ("LookupError", false), ("IndexError", false)])) rfl)
  have xt_DuplicateName := @excIs_blt _ _ _ _ (c.fact 55 (f := .ex (excIs "DuplicateName" [("InvalidNumber", false), ("InvalidName", false), ("InvalidSpan", false), ("InvalidText", false), ("InvalidSeat", false), ("InvalidRecord", false), ("Clash", false), ("DuplicateName", true), ("DuplicateNumber", false), ("TooMany", false), ("Full", false), ("NotAThing", false), ("Contradiction", false), ("InvalidRule", false), ("InvalidCommand", false), ("InvalidLimit", false), ("InvalidPage", false), ("UnknownName", false), ("NothingLeft", false), ("LumpError", true), ("Missing", false)] [("ValueError", true), ("LookupError", false), ("IndexError", false)])) rfl)
  have gm_DuplicateNumber := g_DuplicateNumber
  have xb_DuplicateNumber := excB_ok (c.fact 56 (f := .ex (excB "DuplicateNumber")) rfl)
  have xn_DuplicateNumber := excNo_ok (c.fact 57 (f := .ex (excNo "DuplicateNumber" exoNames)) rfl)
  have xi_DuplicateNumber := @excIs_own _ _ _ _ (c.fact 58 (f := .ex (excIs "DuplicateNumber" [("InvalidNumber", false), ("InvalidName", false), ("InvalidSpan", false), ("InvalidText", false), ("InvalidSeat", false), ("InvalidRecord", false), ("Clash", false), ("DuplicateName", false), ("DuplicateNumber", true), ("TooMany", false), ("Full", false), ("NotAThing", false), ("Contradiction", false), ("InvalidRule", false), ("InvalidCommand", false), ("InvalidLimit", false), ("InvalidPage", false), ("UnknownName", false), ("NothingLeft", false), ("LumpError", true), ("Missing", false)] [("ValueError", true), ("LookupError", false), ("IndexError", false)])) rfl)
  have xt_DuplicateNumber := @excIs_blt _ _ _ _ (c.fact 58 (f := .ex (excIs "DuplicateNumber" [("InvalidNumber", false), ("InvalidName", false), ("InvalidSpan", false), ("InvalidText", false), ("InvalidSeat", false), ("InvalidRecord", false), ("Clash", false), ("DuplicateName", false), ("DuplicateNumber", true), ("TooMany", false), ("Full", false), ("NotAThing", false), ("Contradiction", false), ("InvalidRule", false), ("InvalidCommand", false), ("InvalidLimit", false), ("InvalidPage", false), ("UnknownName", false), ("NothingLeft", false), ("LumpError", true), ("Missing", false)] [("ValueError", true), ("LookupError", false), ("IndexError", false)])) rfl)
  have gm_TooMany := g_TooMany
  have xb_TooMany := excB_ok (c.fact 59 (f := .ex (excB "TooMany")) rfl)
  have xn_TooMany := excNo_ok (c.fact 60 (f := .ex (excNo "TooMany" exoNames)) rfl)
  have xi_TooMany := @excIs_own _ _ _ _ (c.fact 61 (f := .ex (excIs "TooMany" [("InvalidNumber", false), ("InvalidName", false), ("InvalidSpan", false), ("InvalidText", false), ("InvalidSeat", false), ("InvalidRecord", false), ("Clash", false), ("DuplicateName", false), ("DuplicateNumber", false), ("TooMany", true), ("Full", false), ("NotAThing", false), ("Contradiction", false), ("InvalidRule", false), ("InvalidCommand", false), ("InvalidLimit", false), ("InvalidPage", false), ("UnknownName", false), ("NothingLeft", false), ("LumpError", true), ("Missing", false)] [("ValueError", true), ("LookupError", false), ("IndexError", false)])) rfl)
  have xt_TooMany := @excIs_blt _ _ _ _ (c.fact 61 (f := .ex (excIs "TooMany" [("InvalidNumber", false), ("InvalidName", false), ("InvalidSpan", false), ("InvalidText", false), ("InvalidSeat", false), ("InvalidRecord", false), ("Clash", false), ("DuplicateName", false), ("DuplicateNumber", false), ("TooMany", true), ("Full", false), ("NotAThing", false), ("Contradiction", false), ("InvalidRule", false), ("InvalidCommand", false), ("InvalidLimit", false), ("InvalidPage", false), ("UnknownName", false), ("NothingLeft", false), ("LumpError", true), ("Missing", false)] [("ValueError", true), ("LookupError", false), ("IndexError", false)])) rfl)
  have gm_Full := g_Full
  have xb_Full := excB_ok (c.fact 62 (f := .ex (excB "Full")) rfl)
  have xn_Full := excNo_ok (c.fact 63 (f := .ex (excNo "Full" exoNames)) rfl)
  have xi_Full := @excIs_own _ _ _ _ (c.fact 64 (f := .ex (excIs "Full" [("InvalidNumber", false), ("InvalidName", false), ("InvalidSpan", false), ("InvalidText", false), ("InvalidSeat", false), ("InvalidRecord", false), ("Clash", false), ("DuplicateName", false), ("DuplicateNumber", false), ("TooMany", false), ("Full", true), ("NotAThing", false), ("Contradiction", false), ("InvalidRule", false), ("InvalidCommand", false), ("InvalidLimit", false), ("InvalidPage", false), ("UnknownName", false), ("NothingLeft", false), ("LumpError", true), ("Missing", false)] [("ValueError", true), ("LookupError", false), ("IndexError", false)])) rfl)
  have xt_Full := @excIs_blt _ _ _ _ (c.fact 64 (f := .ex (excIs "Full" [("InvalidNumber", false), ("InvalidName", false), ("InvalidSpan", false), ("InvalidText", false), ("InvalidSeat", false), ("InvalidRecord", false), ("Clash", false), ("DuplicateName", false), ("DuplicateNumber", false), ("TooMany", false), ("Full", true), ("NotAThing", false), ("Contradiction", false), ("InvalidRule", false), ("InvalidCommand", false), ("InvalidLimit", false), ("InvalidPage", false), ("UnknownName", false), ("NothingLeft", false), ("LumpError", true), ("Missing", false)] [("ValueError", true), ("LookupError", false), ("IndexError", false)])) rfl)
  have gm_NotAThing := g_NotAThing
  have xb_NotAThing := excB_ok (c.fact 65 (f := .ex (excB "NotAThing")) rfl)
  have xn_NotAThing := excNo_ok (c.fact 66 (f := .ex (excNo "NotAThing" exoNames)) rfl)
  have xi_NotAThing := @excIs_own _ _ _ _ (c.fact 67 (f := .ex (excIs "NotAThing" [("InvalidNumber", false), ("InvalidName", false), ("InvalidSpan", false), ("InvalidText", false), ("InvalidSeat", false), ("InvalidRecord", false), ("Clash", false), ("DuplicateName", false), ("DuplicateNumber", false), ("TooMany", false), ("Full", false), ("NotAThing", true), ("Contradiction", false), ("InvalidRule", false), ("InvalidCommand", false), ("InvalidLimit", false), ("InvalidPage", false), ("UnknownName", false), ("NothingLeft", false), ("LumpError", true), ("Missing", false)] [("ValueError", true), ("LookupError", false), ("IndexError", false)])) rfl)
  have xt_NotAThing := @excIs_blt _ _ _ _ (c.fact 67 (f := .ex (excIs "NotAThing" [("InvalidNumber", false), ("InvalidName", false), ("InvalidSpan", false), ("InvalidText", false), ("InvalidSeat", false), ("InvalidRecord", false), ("Clash", false), ("DuplicateName", false), ("DuplicateNumber", false), ("TooMany", false), ("Full", false), ("NotAThing", true), ("Contradiction", false), ("InvalidRule", false), ("InvalidCommand", false), ("InvalidLimit", false), ("InvalidPage", false), ("UnknownName", false), ("NothingLeft", false), ("LumpError", true), ("Missing", false)] [("ValueError", true), ("LookupError", false), ("IndexError", false)])) rfl)
  have gm_Contradiction := g_Contradiction
  have xb_Contradiction := excB_ok (c.fact 68 (f := .ex (excB "Contradiction")) rfl)
  have xn_Contradiction := excNo_ok (c.fact 69 (f := .ex (excNo "Contradiction" exoNames)) rfl)
  have xi_Contradiction := @excIs_own _ _ _ _ (c.fact 70 (f := .ex (excIs "Contradiction" [("InvalidNumber", false), ("InvalidName", false), ("InvalidSpan", false), ("InvalidText", false), ("InvalidSeat", false), ("InvalidRecord", false), ("Clash", false), ("DuplicateName", false), ("DuplicateNumber", false), ("TooMany", false), ("Full", false), ("NotAThing", false), ("Contradiction", true), ("InvalidRule", false), ("InvalidCommand", false), ("InvalidLimit", false), ("InvalidPage", false), ("UnknownName", false), ("NothingLeft", false), ("LumpError", true), ("Missing", false)] [("ValueError", true), ("LookupError", false), ("IndexError", false)])) rfl)
  have xt_Contradiction := @excIs_blt _ _ _ _ (c.fact 70 (f := .ex (excIs "Contradiction" [("InvalidNumber", false), ("InvalidName", false), ("InvalidSpan", false), ("InvalidText", false), ("InvalidSeat", false), ("InvalidRecord", false), ("Clash", false), ("DuplicateName", false), ("DuplicateNumber", false), ("TooMany", false), ("Full", false), ("NotAThing", false), ("Contradiction", true), ("InvalidRule", false), ("InvalidCommand", false), ("InvalidLimit", false), ("InvalidPage", false), ("UnknownName", false), ("NothingLeft", false), ("LumpError", true), ("Missing", false)] [("ValueError", true), ("LookupError", false), ("IndexError", false)])) rfl)
  have gm_InvalidRule := g_InvalidRule
  have xb_InvalidRule := excB_ok (c.fact 71 (f := .ex (excB "InvalidRule")) rfl)
  have xn_InvalidRule := excNo_ok (c.fact 72 (f := .ex (excNo "InvalidRule" exoNames)) rfl)
  have xi_InvalidRule := @excIs_own _ _ _ _ (c.fact 73 (f := .ex (excIs "InvalidRule" [("InvalidNumber", false), ("InvalidName", false), ("InvalidSpan", false), ("InvalidText", false), ("InvalidSeat", false), ("InvalidRecord", false), ("Clash", false), ("DuplicateName", false), ("DuplicateNumber", false), ("TooMany", false), ("Full", false), ("NotAThing", false), ("Contradiction", false), ("InvalidRule", true), ("InvalidCommand", false), ("InvalidLimit", false), ("InvalidPage", false), ("UnknownName", false), ("NothingLeft", false), ("LumpError", true), ("Missing", false)] [("ValueError", true), ("LookupError", false), ("IndexError", false)])) rfl)
  have xt_InvalidRule := @excIs_blt _ _ _ _ (c.fact 73 (f := .ex (excIs "InvalidRule" [("InvalidNumber", false), ("InvalidName", false), ("InvalidSpan", false), ("InvalidText", false), ("InvalidSeat", false), ("InvalidRecord", false), ("Clash", false), ("DuplicateName", false), ("DuplicateNumber", false), ("TooMany", false), ("Full", false), ("NotAThing", false), ("Contradiction", false), ("InvalidRule", true), ("InvalidCommand", false), ("InvalidLimit", false), ("InvalidPage", false), ("UnknownName", false), ("NothingLeft", false), ("LumpError", true), ("Missing", false)] [("ValueError", true), ("LookupError", false), ("IndexError", false)])) rfl)
  have gm_InvalidCommand := g_InvalidCommand
  have xb_InvalidCommand := excB_ok (c.fact 74 (f := .ex (excB "InvalidCommand")) rfl)
  have xn_InvalidCommand := excNo_ok (c.fact 75 (f := .ex (excNo "InvalidCommand" exoNames)) rfl)
  have xi_InvalidCommand := @excIs_own _ _ _ _ (c.fact 76 (f := .ex (excIs "InvalidCommand" [("InvalidNumber", false), ("InvalidName", false), ("InvalidSpan", false), ("InvalidText", false), ("InvalidSeat", false), ("InvalidRecord", false), ("Clash", false), ("DuplicateName", false), ("DuplicateNumber", false), ("TooMany", false), ("Full", false), ("NotAThing", false), ("Contradiction", false), ("InvalidRule", false), ("InvalidCommand", true), ("InvalidLimit", false), ("InvalidPage", false), ("UnknownName", false), ("NothingLeft", false), ("LumpError", true), ("Missing", false)] [("ValueError", true), ("LookupError", false), ("IndexError", false)])) rfl)
  have xt_InvalidCommand := @excIs_blt _ _ _ _ (c.fact 76 (f := .ex (excIs "InvalidCommand" [("InvalidNumber", false), ("InvalidName", false), ("InvalidSpan", false), ("InvalidText", false), ("InvalidSeat", false), ("InvalidRecord", false), ("Clash", false), ("DuplicateName", false), ("DuplicateNumber", false), ("TooMany", false), ("Full", false), ("NotAThing", false), ("Contradiction", false), ("InvalidRule", false), ("InvalidCommand", true), ("InvalidLimit", false), ("InvalidPage", false), ("UnknownName", false), ("NothingLeft", false), ("LumpError", true), ("Missing", false)] [("ValueError", true), ("LookupError", false), ("IndexError", false)])) rfl)
  have gm_InvalidLimit := g_InvalidLimit
  have xb_InvalidLimit := excB_ok (c.fact 77 (f := .ex (excB "InvalidLimit")) rfl)
  have xn_InvalidLimit := excNo_ok (c.fact 78 (f := .ex (excNo "InvalidLimit" exoNames)) rfl)
  have xi_InvalidLimit := @excIs_own _ _ _ _ (c.fact 79 (f := .ex (excIs "InvalidLimit" [("InvalidNumber", false), ("InvalidName", false), ("InvalidSpan", false), ("InvalidText", false), ("InvalidSeat", false), ("InvalidRecord", false), ("Clash", false), ("DuplicateName", false), ("DuplicateNumber", false), ("TooMany", false), ("Full", false), ("NotAThing", false), ("Contradiction", false), ("InvalidRule", false), ("InvalidCommand", false), ("InvalidLimit", true), ("InvalidPage", false), ("UnknownName", false), ("NothingLeft", false), ("LumpError", true), ("Missing", false)] [("ValueError", true), ("LookupError", false), ("IndexError", false)])) rfl)
  have xt_InvalidLimit := @excIs_blt _ _ _ _ (c.fact 79 (f := .ex (excIs "InvalidLimit" [("InvalidNumber", false), ("InvalidName", false), ("InvalidSpan", false), ("InvalidText", false), ("InvalidSeat", false), ("InvalidRecord", false), ("Clash", false), ("DuplicateName", false), ("DuplicateNumber", false), ("TooMany", false), ("Full", false), ("NotAThing", false), ("Contradiction", false), ("InvalidRule", false), ("InvalidCommand", false), ("InvalidLimit", true), ("InvalidPage", false), ("UnknownName", false), ("NothingLeft", false), ("LumpError", true), ("Missing", false)] [("ValueError", true), ("LookupError", false), ("IndexError", false)])) rfl)
  have gm_InvalidPage := g_InvalidPage
  have xb_InvalidPage := excB_ok (c.fact 80 (f := .ex (excB "InvalidPage")) rfl)
  have xn_InvalidPage := excNo_ok (c.fact 81 (f := .ex (excNo "InvalidPage" exoNames)) rfl)
  have xi_InvalidPage := @excIs_own _ _ _ _ (c.fact 82 (f := .ex (excIs "InvalidPage" [("InvalidNumber", false), ("InvalidName", false), ("InvalidSpan", false), ("InvalidText", false), ("InvalidSeat", false), ("InvalidRecord", false), ("Clash", false), ("DuplicateName", false), ("DuplicateNumber", false), ("TooMany", false), ("Full", false), ("NotAThing", false), ("Contradiction", false), ("InvalidRule", false), ("InvalidCommand", false), ("InvalidLimit", false), ("InvalidPage", true), ("UnknownName", false), ("NothingLeft", false), ("LumpError", true), ("Missing", false)] [("ValueError", true), ("LookupError", false), ("IndexError", false)])) rfl)
  have xt_InvalidPage := @excIs_blt _ _ _ _ (c.fact 82 (f := .ex (excIs "InvalidPage" [("InvalidNumber", false), ("InvalidName", false), ("InvalidSpan", false), ("InvalidText", false), ("InvalidSeat", false), ("InvalidRecord", false), ("Clash", false), ("DuplicateName", false), ("DuplicateNumber", false), ("TooMany", false), ("Full", false), ("NotAThing", false), ("Contradiction", false), ("InvalidRule", false), ("InvalidCommand", false), ("InvalidLimit", false), ("InvalidPage", true), ("UnknownName", false), ("NothingLeft", false), ("LumpError", true), ("Missing", false)] [("ValueError", true), ("LookupError", false), ("IndexError", false)])) rfl)
  have gm_UnknownName := g_UnknownName
  have xb_UnknownName := excB_ok (c.fact 83 (f := .ex (excB "UnknownName")) rfl)
  have xn_UnknownName := excNo_ok (c.fact 84 (f := .ex (excNo "UnknownName" exoNames)) rfl)
  have xi_UnknownName := @excIs_own _ _ _ _ (c.fact 85 (f := .ex (excIs "UnknownName" [("InvalidNumber", false), ("InvalidName", false), ("InvalidSpan", false), ("InvalidText", false), ("InvalidSeat", false), ("InvalidRecord", false), ("Clash", false), ("DuplicateName", false), ("DuplicateNumber", false), ("TooMany", false), ("Full", false), ("NotAThing", false), ("Contradiction", false), ("InvalidRule", false), ("InvalidCommand", false), ("InvalidLimit", false), ("InvalidPage", false), ("UnknownName", true), ("NothingLeft", false), ("LumpError", false), ("Missing", true)] [("ValueError", false), ("LookupError", true), ("IndexError", false)])) rfl)
  have xt_UnknownName := @excIs_blt _ _ _ _ (c.fact 85 (f := .ex (excIs "UnknownName" [("InvalidNumber", false), ("InvalidName", false), ("InvalidSpan", false), ("InvalidText", false), ("InvalidSeat", false), ("InvalidRecord", false), ("Clash", false), ("DuplicateName", false), ("DuplicateNumber", false), ("TooMany", false), ("Full", false), ("NotAThing", false), ("Contradiction", false), ("InvalidRule", false), ("InvalidCommand", false), ("InvalidLimit", false), ("InvalidPage", false), ("UnknownName", true), ("NothingLeft", false), ("LumpError", false), ("Missing", true)] [("ValueError", false), ("LookupError", true), ("IndexError", false)])) rfl)
  have gm_NothingLeft := g_NothingLeft
  have xb_NothingLeft := excB_ok (c.fact 86 (f := .ex (excB "NothingLeft")) rfl)
  have xn_NothingLeft := excNo_ok (c.fact 87 (f := .ex (excNo "NothingLeft" exoNames)) rfl)
  have xi_NothingLeft := @excIs_own _ _ _ _ (c.fact 88 (f := .ex (excIs "NothingLeft" [("InvalidNumber", false), ("InvalidName", false), ("InvalidSpan", false), ("InvalidText", false), ("InvalidSeat", false), ("InvalidRecord", false), ("Clash", false), ("DuplicateName", false), ("DuplicateNumber", false), ("TooMany", false), ("Full", false), ("NotAThing", false), ("Contradiction", false), ("InvalidRule", false), ("InvalidCommand", false), ("InvalidLimit", false), ("InvalidPage", false), ("UnknownName", false), ("NothingLeft", true), ("LumpError", false), ("Missing", false)] [("ValueError", false), ("LookupError", true), ("IndexError", true)])) rfl)
  have xt_NothingLeft := @excIs_blt _ _ _ _ (c.fact 88 (f := .ex (excIs "NothingLeft" [("InvalidNumber", false), ("InvalidName", false), ("InvalidSpan", false), ("InvalidText", false), ("InvalidSeat", false), ("InvalidRecord", false), ("Clash", false), ("DuplicateName", false), ("DuplicateNumber", false), ("TooMany", false), ("Full", false), ("NotAThing", false), ("Contradiction", false), ("InvalidRule", false), ("InvalidCommand", false), ("InvalidLimit", false), ("InvalidPage", false), ("UnknownName", false), ("NothingLeft", true), ("LumpError", false), ("Missing", false)] [("ValueError", false), ("LookupError", true), ("IndexError", true)])) rfl)
  have gm_LumpError := g_LumpError
  have xb_LumpError := excB_ok (c.fact 89 (f := .ex (excB "LumpError")) rfl)
  have xn_LumpError := excNo_ok (c.fact 90 (f := .ex (excNo "LumpError" exoNames)) rfl)
  have xi_LumpError := @excIs_own _ _ _ _ (c.fact 91 (f := .ex (excIs "LumpError" [("InvalidNumber", false), ("InvalidName", false), ("InvalidSpan", false), ("InvalidText", false), ("InvalidSeat", false), ("InvalidRecord", false), ("Clash", false), ("DuplicateName", false), ("DuplicateNumber", false), ("TooMany", false), ("Full", false), ("NotAThing", false), ("Contradiction", false), ("InvalidRule", false), ("InvalidCommand", false), ("InvalidLimit", false), ("InvalidPage", false), ("UnknownName", false), ("NothingLeft", false), ("LumpError", true), ("Missing", false)] [("ValueError", true), ("LookupError", false), ("IndexError", false)])) rfl)
  have xt_LumpError := @excIs_blt _ _ _ _ (c.fact 91 (f := .ex (excIs "LumpError" [("InvalidNumber", false), ("InvalidName", false), ("InvalidSpan", false), ("InvalidText", false), ("InvalidSeat", false), ("InvalidRecord", false), ("Clash", false), ("DuplicateName", false), ("DuplicateNumber", false), ("TooMany", false), ("Full", false), ("NotAThing", false), ("Contradiction", false), ("InvalidRule", false), ("InvalidCommand", false), ("InvalidLimit", false), ("InvalidPage", false), ("UnknownName", false), ("NothingLeft", false), ("LumpError", true), ("Missing", false)] [("ValueError", true), ("LookupError", false), ("IndexError", false)])) rfl)
  have gm_Missing := g_Missing
  have xb_Missing := excB_ok (c.fact 92 (f := .ex (excB "Missing")) rfl)
  have xn_Missing := excNo_ok (c.fact 93 (f := .ex (excNo "Missing" exoNames)) rfl)
  have xi_Missing := @excIs_own _ _ _ _ (c.fact 94 (f := .ex (excIs "Missing" [("InvalidNumber", false), ("InvalidName", false), ("InvalidSpan", false), ("InvalidText", false), ("InvalidSeat", false), ("InvalidRecord", false), ("Clash", false), ("DuplicateName", false), ("DuplicateNumber", false), ("TooMany", false), ("Full", false), ("NotAThing", false), ("Contradiction", false), ("InvalidRule", false), ("InvalidCommand", false), ("InvalidLimit", false), ("InvalidPage", false), ("UnknownName", false), ("NothingLeft", false), ("LumpError", false), ("Missing", true)] [("ValueError", false), ("LookupError", true), ("IndexError", false)])) rfl)
  have xt_Missing := @excIs_blt _ _ _ _ (c.fact 94 (f := .ex (excIs "Missing" [("InvalidNumber", false), ("InvalidName", false), ("InvalidSpan", false), ("InvalidText", false), ("InvalidSeat", false), ("InvalidRecord", false), ("Clash", false), ("DuplicateName", false), ("DuplicateNumber", false), ("TooMany", false), ("Full", false), ("NotAThing", false), ("Contradiction", false), ("InvalidRule", false), ("InvalidCommand", false), ("InvalidLimit", false), ("InvalidPage", false), ("UnknownName", false), ("NothingLeft", false), ("LumpError", false), ("Missing", true)] [("ValueError", false), ("LookupError", true), ("IndexError", false)])) rfl)
  have XA_code : ∀ c ∈ (eCode : List Nat), ExcC K (ci c).1 ∧ PySem.W.findIn K (.ref (ci c).1) "code" = some none := eCode_of ⟨xb_InvalidNumber, xn_InvalidNumber "code" (by decide +kernel)⟩ ⟨xb_InvalidName, xn_InvalidName "code" (by decide +kernel)⟩ ⟨xb_InvalidSpan, xn_InvalidSpan "code" (by decide +kernel)⟩ ⟨xb_InvalidText, xn_InvalidText "code" (by decide +kernel)⟩ ⟨xb_InvalidSeat, xn_InvalidSeat "code" (by decide +kernel)⟩ ⟨xb_InvalidRecord, xn_InvalidRecord "code" (by decide +kernel)⟩ ⟨xb_Clash, xn_Clash "code" (by decide +kernel)⟩ ⟨xb_DuplicateName, xn_DuplicateName "code" (by decide +kernel)⟩ ⟨xb_DuplicateNumber, xn_DuplicateNumber "code" (by decide +kernel)⟩ ⟨xb_TooMany, xn_TooMany "code" (by decide +kernel)⟩ ⟨xb_Full, xn_Full "code" (by decide +kernel)⟩ ⟨xb_NotAThing, xn_NotAThing "code" (by decide +kernel)⟩ ⟨xb_Contradiction, xn_Contradiction "code" (by decide +kernel)⟩ ⟨xb_InvalidRule, xn_InvalidRule "code" (by decide +kernel)⟩ ⟨xb_InvalidCommand, xn_InvalidCommand "code" (by decide +kernel)⟩ ⟨xb_InvalidLimit, xn_InvalidLimit "code" (by decide +kernel)⟩ ⟨xb_InvalidPage, xn_InvalidPage "code" (by decide +kernel)⟩ ⟨xb_UnknownName, xn_UnknownName "code" (by decide +kernel)⟩ ⟨xb_NothingLeft, xn_NothingLeft "code" (by decide +kernel)⟩
  have XA_at : ∀ c ∈ (eCode : List Nat), ExcC K (ci c).1 ∧ PySem.W.findIn K (.ref (ci c).1) "at" = some none := eCode_of ⟨xb_InvalidNumber, xn_InvalidNumber "at" (by decide +kernel)⟩ ⟨xb_InvalidName, xn_InvalidName "at" (by decide +kernel)⟩ ⟨xb_InvalidSpan, xn_InvalidSpan "at" (by decide +kernel)⟩ ⟨xb_InvalidText, xn_InvalidText "at" (by decide +kernel)⟩ ⟨xb_InvalidSeat, xn_InvalidSeat "at" (by decide +kernel)⟩ ⟨xb_InvalidRecord, xn_InvalidRecord "at" (by decide +kernel)⟩ ⟨xb_Clash, xn_Clash "at" (by decide +kernel)⟩ ⟨xb_DuplicateName, xn_DuplicateName "at" (by decide +kernel)⟩ ⟨xb_DuplicateNumber, xn_DuplicateNumber "at" (by decide +kernel)⟩ ⟨xb_TooMany, xn_TooMany "at" (by decide +kernel)⟩ ⟨xb_Full, xn_Full "at" (by decide +kernel)⟩ ⟨xb_NotAThing, xn_NotAThing "at" (by decide +kernel)⟩ ⟨xb_Contradiction, xn_Contradiction "at" (by decide +kernel)⟩ ⟨xb_InvalidRule, xn_InvalidRule "at" (by decide +kernel)⟩ ⟨xb_InvalidCommand, xn_InvalidCommand "at" (by decide +kernel)⟩ ⟨xb_InvalidLimit, xn_InvalidLimit "at" (by decide +kernel)⟩ ⟨xb_InvalidPage, xn_InvalidPage "at" (by decide +kernel)⟩ ⟨xb_UnknownName, xn_UnknownName "at" (by decide +kernel)⟩ ⟨xb_NothingLeft, xn_NothingLeft "at" (by decide +kernel)⟩
  have XA_name : ∀ c ∈ (eCode : List Nat), ExcC K (ci c).1 ∧ PySem.W.findIn K (.ref (ci c).1) "name" = some none := eCode_of ⟨xb_InvalidNumber, xn_InvalidNumber "name" (by decide +kernel)⟩ ⟨xb_InvalidName, xn_InvalidName "name" (by decide +kernel)⟩ ⟨xb_InvalidSpan, xn_InvalidSpan "name" (by decide +kernel)⟩ ⟨xb_InvalidText, xn_InvalidText "name" (by decide +kernel)⟩ ⟨xb_InvalidSeat, xn_InvalidSeat "name" (by decide +kernel)⟩ ⟨xb_InvalidRecord, xn_InvalidRecord "name" (by decide +kernel)⟩ ⟨xb_Clash, xn_Clash "name" (by decide +kernel)⟩ ⟨xb_DuplicateName, xn_DuplicateName "name" (by decide +kernel)⟩ ⟨xb_DuplicateNumber, xn_DuplicateNumber "name" (by decide +kernel)⟩ ⟨xb_TooMany, xn_TooMany "name" (by decide +kernel)⟩ ⟨xb_Full, xn_Full "name" (by decide +kernel)⟩ ⟨xb_NotAThing, xn_NotAThing "name" (by decide +kernel)⟩ ⟨xb_Contradiction, xn_Contradiction "name" (by decide +kernel)⟩ ⟨xb_InvalidRule, xn_InvalidRule "name" (by decide +kernel)⟩ ⟨xb_InvalidCommand, xn_InvalidCommand "name" (by decide +kernel)⟩ ⟨xb_InvalidLimit, xn_InvalidLimit "name" (by decide +kernel)⟩ ⟨xb_InvalidPage, xn_InvalidPage "name" (by decide +kernel)⟩ ⟨xb_UnknownName, xn_UnknownName "name" (by decide +kernel)⟩ ⟨xb_NothingLeft, xn_NothingLeft "name" (by decide +kernel)⟩
  have XA_most : ∀ c ∈ (eCode : List Nat), ExcC K (ci c).1 ∧ PySem.W.findIn K (.ref (ci c).1) "most" = some none := eCode_of ⟨xb_InvalidNumber, xn_InvalidNumber "most" (by decide +kernel)⟩ ⟨xb_InvalidName, xn_InvalidName "most" (by decide +kernel)⟩ ⟨xb_InvalidSpan, xn_InvalidSpan "most" (by decide +kernel)⟩ ⟨xb_InvalidText, xn_InvalidText "most" (by decide +kernel)⟩ ⟨xb_InvalidSeat, xn_InvalidSeat "most" (by decide +kernel)⟩ ⟨xb_InvalidRecord, xn_InvalidRecord "most" (by decide +kernel)⟩ ⟨xb_Clash, xn_Clash "most" (by decide +kernel)⟩ ⟨xb_DuplicateName, xn_DuplicateName "most" (by decide +kernel)⟩ ⟨xb_DuplicateNumber, xn_DuplicateNumber "most" (by decide +kernel)⟩ ⟨xb_TooMany, xn_TooMany "most" (by decide +kernel)⟩ ⟨xb_Full, xn_Full "most" (by decide +kernel)⟩ ⟨xb_NotAThing, xn_NotAThing "most" (by decide +kernel)⟩ ⟨xb_Contradiction, xn_Contradiction "most" (by decide +kernel)⟩ ⟨xb_InvalidRule, xn_InvalidRule "most" (by decide +kernel)⟩ ⟨xb_InvalidCommand, xn_InvalidCommand "most" (by decide +kernel)⟩ ⟨xb_InvalidLimit, xn_InvalidLimit "most" (by decide +kernel)⟩ ⟨xb_InvalidPage, xn_InvalidPage "most" (by decide +kernel)⟩ ⟨xb_UnknownName, xn_UnknownName "most" (by decide +kernel)⟩ ⟨xb_NothingLeft, xn_NothingLeft "most" (by decide +kernel)⟩
  have XA_limit : ∀ c ∈ (eCode : List Nat), ExcC K (ci c).1 ∧ PySem.W.findIn K (.ref (ci c).1) "limit" = some none := eCode_of ⟨xb_InvalidNumber, xn_InvalidNumber "limit" (by decide +kernel)⟩ ⟨xb_InvalidName, xn_InvalidName "limit" (by decide +kernel)⟩ ⟨xb_InvalidSpan, xn_InvalidSpan "limit" (by decide +kernel)⟩ ⟨xb_InvalidText, xn_InvalidText "limit" (by decide +kernel)⟩ ⟨xb_InvalidSeat, xn_InvalidSeat "limit" (by decide +kernel)⟩ ⟨xb_InvalidRecord, xn_InvalidRecord "limit" (by decide +kernel)⟩ ⟨xb_Clash, xn_Clash "limit" (by decide +kernel)⟩ ⟨xb_DuplicateName, xn_DuplicateName "limit" (by decide +kernel)⟩ ⟨xb_DuplicateNumber, xn_DuplicateNumber "limit" (by decide +kernel)⟩ ⟨xb_TooMany, xn_TooMany "limit" (by decide +kernel)⟩ ⟨xb_Full, xn_Full "limit" (by decide +kernel)⟩ ⟨xb_NotAThing, xn_NotAThing "limit" (by decide +kernel)⟩ ⟨xb_Contradiction, xn_Contradiction "limit" (by decide +kernel)⟩ ⟨xb_InvalidRule, xn_InvalidRule "limit" (by decide +kernel)⟩ ⟨xb_InvalidCommand, xn_InvalidCommand "limit" (by decide +kernel)⟩ ⟨xb_InvalidLimit, xn_InvalidLimit "limit" (by decide +kernel)⟩ ⟨xb_InvalidPage, xn_InvalidPage "limit" (by decide +kernel)⟩ ⟨xb_UnknownName, xn_UnknownName "limit" (by decide +kernel)⟩ ⟨xb_NothingLeft, xn_NothingLeft "limit" (by decide +kernel)⟩
  have XA_line : ∀ c ∈ (eCode : List Nat), ExcC K (ci c).1 ∧ PySem.W.findIn K (.ref (ci c).1) "line" = some none := eCode_of ⟨xb_InvalidNumber, xn_InvalidNumber "line" (by decide +kernel)⟩ ⟨xb_InvalidName, xn_InvalidName "line" (by decide +kernel)⟩ ⟨xb_InvalidSpan, xn_InvalidSpan "line" (by decide +kernel)⟩ ⟨xb_InvalidText, xn_InvalidText "line" (by decide +kernel)⟩ ⟨xb_InvalidSeat, xn_InvalidSeat "line" (by decide +kernel)⟩ ⟨xb_InvalidRecord, xn_InvalidRecord "line" (by decide +kernel)⟩ ⟨xb_Clash, xn_Clash "line" (by decide +kernel)⟩ ⟨xb_DuplicateName, xn_DuplicateName "line" (by decide +kernel)⟩ ⟨xb_DuplicateNumber, xn_DuplicateNumber "line" (by decide +kernel)⟩ ⟨xb_TooMany, xn_TooMany "line" (by decide +kernel)⟩ ⟨xb_Full, xn_Full "line" (by decide +kernel)⟩ ⟨xb_NotAThing, xn_NotAThing "line" (by decide +kernel)⟩ ⟨xb_Contradiction, xn_Contradiction "line" (by decide +kernel)⟩ ⟨xb_InvalidRule, xn_InvalidRule "line" (by decide +kernel)⟩ ⟨xb_InvalidCommand, xn_InvalidCommand "line" (by decide +kernel)⟩ ⟨xb_InvalidLimit, xn_InvalidLimit "line" (by decide +kernel)⟩ ⟨xb_InvalidPage, xn_InvalidPage "line" (by decide +kernel)⟩ ⟨xb_UnknownName, xn_UnknownName "line" (by decide +kernel)⟩ ⟨xb_NothingLeft, xn_NothingLeft "line" (by decide +kernel)⟩
  have XA_given : ∀ c ∈ (eCode : List Nat), ExcC K (ci c).1 ∧ PySem.W.findIn K (.ref (ci c).1) "given" = some none := eCode_of ⟨xb_InvalidNumber, xn_InvalidNumber "given" (by decide +kernel)⟩ ⟨xb_InvalidName, xn_InvalidName "given" (by decide +kernel)⟩ ⟨xb_InvalidSpan, xn_InvalidSpan "given" (by decide +kernel)⟩ ⟨xb_InvalidText, xn_InvalidText "given" (by decide +kernel)⟩ ⟨xb_InvalidSeat, xn_InvalidSeat "given" (by decide +kernel)⟩ ⟨xb_InvalidRecord, xn_InvalidRecord "given" (by decide +kernel)⟩ ⟨xb_Clash, xn_Clash "given" (by decide +kernel)⟩ ⟨xb_DuplicateName, xn_DuplicateName "given" (by decide +kernel)⟩ ⟨xb_DuplicateNumber, xn_DuplicateNumber "given" (by decide +kernel)⟩ ⟨xb_TooMany, xn_TooMany "given" (by decide +kernel)⟩ ⟨xb_Full, xn_Full "given" (by decide +kernel)⟩ ⟨xb_NotAThing, xn_NotAThing "given" (by decide +kernel)⟩ ⟨xb_Contradiction, xn_Contradiction "given" (by decide +kernel)⟩ ⟨xb_InvalidRule, xn_InvalidRule "given" (by decide +kernel)⟩ ⟨xb_InvalidCommand, xn_InvalidCommand "given" (by decide +kernel)⟩ ⟨xb_InvalidLimit, xn_InvalidLimit "given" (by decide +kernel)⟩ ⟨xb_InvalidPage, xn_InvalidPage "given" (by decide +kernel)⟩ ⟨xb_UnknownName, xn_UnknownName "given" (by decide +kernel)⟩ ⟨xb_NothingLeft, xn_NothingLeft "given" (by decide +kernel)⟩
  have XI_InvalidNumber : ∀ c ∈ (eAll : List Nat), ExcC K (ci c).1 ∧ PySem.W.kitOne K (.ref (ci c).1) (.ref (ci 1).1) = some (([1] : List Nat).contains c) := eAll_of ⟨xb_InvalidNumber, xi_InvalidNumber (y := "InvalidNumber") (b := true) (by decide +kernel)⟩ ⟨xb_InvalidName, xi_InvalidName (y := "InvalidNumber") (b := false) (by decide +kernel)⟩ ⟨xb_InvalidSpan, xi_InvalidSpan (y := "InvalidNumber") (b := false) (by decide +kernel)⟩ ⟨xb_InvalidText, xi_InvalidText (y := "InvalidNumber") (b := false) (by decide +kernel)⟩ ⟨xb_InvalidSeat, xi_InvalidSeat (y := "InvalidNumber") (b := false) (by decide +kernel)⟩ ⟨xb_InvalidRecord, xi_InvalidRecord (y := "InvalidNumber") (b := false) (by decide +kernel)⟩ ⟨xb_Clash, xi_Clash (y := "InvalidNumber") (b := false) (by decide +kernel)⟩ ⟨xb_DuplicateName, xi_DuplicateName (y := "InvalidNumber") (b := false) (by decide +kernel)⟩ ⟨xb_DuplicateNumber, xi_DuplicateNumber (y := "InvalidNumber") (b := false) (by decide +kernel)⟩ ⟨xb_TooMany, xi_TooMany (y := "InvalidNumber") (b := false) (by decide +kernel)⟩ ⟨xb_Full, xi_Full (y := "InvalidNumber") (b := false) (by decide +kernel)⟩ ⟨xb_NotAThing, xi_NotAThing (y := "InvalidNumber") (b := false) (by decide +kernel)⟩ ⟨xb_Contradiction, xi_Contradiction (y := "InvalidNumber") (b := false) (by decide +kernel)⟩ ⟨xb_InvalidRule, xi_InvalidRule (y := "InvalidNumber") (b := false) (by decide +kernel)⟩ ⟨xb_InvalidCommand, xi_InvalidCommand (y := "InvalidNumber") (b := false) (by decide +kernel)⟩ ⟨xb_InvalidLimit, xi_InvalidLimit (y := "InvalidNumber") (b := false) (by decide +kernel)⟩ ⟨xb_InvalidPage, xi_InvalidPage (y := "InvalidNumber") (b := false) (by decide +kernel)⟩ ⟨xb_UnknownName, xi_UnknownName (y := "InvalidNumber") (b := false) (by decide +kernel)⟩ ⟨xb_NothingLeft, xi_NothingLeft (y := "InvalidNumber") (b := false) (by decide +kernel)⟩ ⟨xb_LumpError, xi_LumpError (y := "InvalidNumber") (b := false) (by decide +kernel)⟩ ⟨xb_Missing, xi_Missing (y := "InvalidNumber") (b := false) (by decide +kernel)⟩
  have XI_InvalidName : ∀ c ∈ (eAll : List Nat), ExcC K (ci c).1 ∧ PySem.W.kitOne K (.ref (ci c).1) (.ref (ci 2).1) = some (([2] : List Nat).contains c) := eAll_of ⟨xb_InvalidNumber, xi_InvalidNumber (y := "InvalidName") (b := false) (by decide +kernel)⟩ ⟨xb_InvalidName, xi_InvalidName (y := "InvalidName") (b := true) (by decide +kernel)⟩ ⟨xb_InvalidSpan, xi_InvalidSpan (y := "InvalidName") (b := false) (by decide +kernel)⟩ ⟨xb_InvalidText, xi_InvalidText (y := "InvalidName") (b := false) (by decide +kernel)⟩ ⟨xb_InvalidSeat, xi_InvalidSeat (y := "InvalidName") (b := false) (by decide +kernel)⟩ ⟨xb_InvalidRecord, xi_InvalidRecord (y := "InvalidName") (b := false) (by decide +kernel)⟩ ⟨xb_Clash, xi_Clash (y := "InvalidName") (b := false) (by decide +kernel)⟩ ⟨xb_DuplicateName, xi_DuplicateName (y := "InvalidName") (b := false) (by decide +kernel)⟩ ⟨xb_DuplicateNumber, xi_DuplicateNumber (y := "InvalidName") (b := false) (by decide +kernel)⟩ ⟨xb_TooMany, xi_TooMany (y := "InvalidName") (b := false) (by decide +kernel)⟩ ⟨xb_Full, xi_Full (y := "InvalidName") (b := false) (by decide +kernel)⟩ ⟨xb_NotAThing, xi_NotAThing (y := "InvalidName") (b := false) (by decide +kernel)⟩ ⟨xb_Contradiction, xi_Contradiction (y := "InvalidName") (b := false) (by decide +kernel)⟩ ⟨xb_InvalidRule, xi_InvalidRule (y := "InvalidName") (b := false) (by decide +kernel)⟩ ⟨xb_InvalidCommand, xi_InvalidCommand (y := "InvalidName") (b := false) (by decide +kernel)⟩ ⟨xb_InvalidLimit, xi_InvalidLimit (y := "InvalidName") (b := false) (by decide +kernel)⟩ ⟨xb_InvalidPage, xi_InvalidPage (y := "InvalidName") (b := false) (by decide +kernel)⟩ ⟨xb_UnknownName, xi_UnknownName (y := "InvalidName") (b := false) (by decide +kernel)⟩ ⟨xb_NothingLeft, xi_NothingLeft (y := "InvalidName") (b := false) (by decide +kernel)⟩ ⟨xb_LumpError, xi_LumpError (y := "InvalidName") (b := false) (by decide +kernel)⟩ ⟨xb_Missing, xi_Missing (y := "InvalidName") (b := false) (by decide +kernel)⟩
  have XI_InvalidSpan : ∀ c ∈ (eAll : List Nat), ExcC K (ci c).1 ∧ PySem.W.kitOne K (.ref (ci c).1) (.ref (ci 3).1) = some (([3] : List Nat).contains c) := eAll_of ⟨xb_InvalidNumber, xi_InvalidNumber (y := "InvalidSpan") (b := false) (by decide +kernel)⟩ ⟨xb_InvalidName, xi_InvalidName (y := "InvalidSpan") (b := false) (by decide +kernel)⟩ ⟨xb_InvalidSpan, xi_InvalidSpan (y := "InvalidSpan") (b := true) (by decide +kernel)⟩ ⟨xb_InvalidText, xi_InvalidText (y := "InvalidSpan") (b := false) (by decide +kernel)⟩ ⟨xb_InvalidSeat, xi_InvalidSeat (y := "InvalidSpan") (b := false) (by decide +kernel)⟩ ⟨xb_InvalidRecord, xi_InvalidRecord (y := "InvalidSpan") (b := false) (by decide +kernel)⟩ ⟨xb_Clash, xi_Clash (y := "InvalidSpan") (b := false) (by decide +kernel)⟩ ⟨xb_DuplicateName, xi_DuplicateName (y := "InvalidSpan") (b := false) (by decide +kernel)⟩ ⟨xb_DuplicateNumber, xi_DuplicateNumber (y := "InvalidSpan") (b := false) (by decide +kernel)⟩ ⟨xb_TooMany, xi_TooMany (y := "InvalidSpan") (b := false) (by decide +kernel)⟩ ⟨xb_Full, xi_Full (y := "InvalidSpan") (b := false) (by decide +kernel)⟩ ⟨xb_NotAThing, xi_NotAThing (y := "InvalidSpan") (b := false) (by decide +kernel)⟩ ⟨xb_Contradiction, xi_Contradiction (y := "InvalidSpan") (b := false) (by decide +kernel)⟩ ⟨xb_InvalidRule, xi_InvalidRule (y := "InvalidSpan") (b := false) (by decide +kernel)⟩ ⟨xb_InvalidCommand, xi_InvalidCommand (y := "InvalidSpan") (b := false) (by decide +kernel)⟩ ⟨xb_InvalidLimit, xi_InvalidLimit (y := "InvalidSpan") (b := false) (by decide +kernel)⟩ ⟨xb_InvalidPage, xi_InvalidPage (y := "InvalidSpan") (b := false) (by decide +kernel)⟩ ⟨xb_UnknownName, xi_UnknownName (y := "InvalidSpan") (b := false) (by decide +kernel)⟩ ⟨xb_NothingLeft, xi_NothingLeft (y := "InvalidSpan") (b := false) (by decide +kernel)⟩ ⟨xb_LumpError, xi_LumpError (y := "InvalidSpan") (b := false) (by decide +kernel)⟩ ⟨xb_Missing, xi_Missing (y := "InvalidSpan") (b := false) (by decide +kernel)⟩
  have XI_InvalidText : ∀ c ∈ (eAll : List Nat), ExcC K (ci c).1 ∧ PySem.W.kitOne K (.ref (ci c).1) (.ref (ci 4).1) = some (([4] : List Nat).contains c) := eAll_of ⟨xb_InvalidNumber, xi_InvalidNumber (y := "InvalidText") (b := false) (by decide +kernel)⟩ ⟨xb_InvalidName, xi_InvalidName (y := "InvalidText") (b := false) (by decide +kernel)⟩ ⟨xb_InvalidSpan, xi_InvalidSpan (y := "InvalidText") (b := false) (by decide +kernel)⟩ ⟨xb_InvalidText, xi_InvalidText (y := "InvalidText") (b := true) (by decide +kernel)⟩ ⟨xb_InvalidSeat, xi_InvalidSeat (y := "InvalidText") (b := false) (by decide +kernel)⟩ ⟨xb_InvalidRecord, xi_InvalidRecord (y := "InvalidText") (b := false) (by decide +kernel)⟩ ⟨xb_Clash, xi_Clash (y := "InvalidText") (b := false) (by decide +kernel)⟩ ⟨xb_DuplicateName, xi_DuplicateName (y := "InvalidText") (b := false) (by decide +kernel)⟩ ⟨xb_DuplicateNumber, xi_DuplicateNumber (y := "InvalidText") (b := false) (by decide +kernel)⟩ ⟨xb_TooMany, xi_TooMany (y := "InvalidText") (b := false) (by decide +kernel)⟩ ⟨xb_Full, xi_Full (y := "InvalidText") (b := false) (by decide +kernel)⟩ ⟨xb_NotAThing, xi_NotAThing (y := "InvalidText") (b := false) (by decide +kernel)⟩ ⟨xb_Contradiction, xi_Contradiction (y := "InvalidText") (b := false) (by decide +kernel)⟩ ⟨xb_InvalidRule, xi_InvalidRule (y := "InvalidText") (b := false) (by decide +kernel)⟩ ⟨xb_InvalidCommand, xi_InvalidCommand (y := "InvalidText") (b := false) (by decide +kernel)⟩ ⟨xb_InvalidLimit, xi_InvalidLimit (y := "InvalidText") (b := false) (by decide +kernel)⟩ ⟨xb_InvalidPage, xi_InvalidPage (y := "InvalidText") (b := false) (by decide +kernel)⟩ ⟨xb_UnknownName, xi_UnknownName (y := "InvalidText") (b := false) (by decide +kernel)⟩ ⟨xb_NothingLeft, xi_NothingLeft (y := "InvalidText") (b := false) (by decide +kernel)⟩ ⟨xb_LumpError, xi_LumpError (y := "InvalidText") (b := false) (by decide +kernel)⟩ ⟨xb_Missing, xi_Missing (y := "InvalidText") (b := false) (by decide +kernel)⟩
  have XI_InvalidSeat : ∀ c ∈ (eAll : List Nat), ExcC K (ci c).1 ∧ PySem.W.kitOne K (.ref (ci c).1) (.ref (ci 5).1) = some (([5] : List Nat).contains c) := eAll_of ⟨xb_InvalidNumber, xi_InvalidNumber (y := "InvalidSeat") (b := false) (by decide +kernel)⟩ ⟨xb_InvalidName, xi_InvalidName (y := "InvalidSeat") (b := false) (by decide +kernel)⟩ ⟨xb_InvalidSpan, xi_InvalidSpan (y := "InvalidSeat") (b := false) (by decide +kernel)⟩ ⟨xb_InvalidText, xi_InvalidText (y := "InvalidSeat") (b := false) (by decide +kernel)⟩ ⟨xb_InvalidSeat, xi_InvalidSeat (y := "InvalidSeat") (b := true) (by decide +kernel)⟩ ⟨xb_InvalidRecord, xi_InvalidRecord (y := "InvalidSeat") (b := false) (by decide +kernel)⟩ ⟨xb_Clash, xi_Clash (y := "InvalidSeat") (b := false) (by decide +kernel)⟩ ⟨xb_DuplicateName, xi_DuplicateName (y := "InvalidSeat") (b := false) (by decide +kernel)⟩ ⟨xb_DuplicateNumber, xi_DuplicateNumber (y := "InvalidSeat") (b := false) (by decide +kernel)⟩ ⟨xb_TooMany, xi_TooMany (y := "InvalidSeat") (b := false) (by decide +kernel)⟩ ⟨xb_Full, xi_Full (y := "InvalidSeat") (b := false) (by decide +kernel)⟩ ⟨xb_NotAThing, xi_NotAThing (y := "InvalidSeat") (b := false) (by decide +kernel)⟩ ⟨xb_Contradiction, xi_Contradiction (y := "InvalidSeat") (b := false) (by decide +kernel)⟩ ⟨xb_InvalidRule, xi_InvalidRule (y := "InvalidSeat") (b := false) (by decide +kernel)⟩ ⟨xb_InvalidCommand, xi_InvalidCommand (y := "InvalidSeat") (b := false) (by decide +kernel)⟩ ⟨xb_InvalidLimit, xi_InvalidLimit (y := "InvalidSeat") (b := false) (by decide +kernel)⟩ ⟨xb_InvalidPage, xi_InvalidPage (y := "InvalidSeat") (b := false) (by decide +kernel)⟩ ⟨xb_UnknownName, xi_UnknownName (y := "InvalidSeat") (b := false) (by decide +kernel)⟩ ⟨xb_NothingLeft, xi_NothingLeft (y := "InvalidSeat") (b := false) (by decide +kernel)⟩ ⟨xb_LumpError, xi_LumpError (y := "InvalidSeat") (b := false) (by decide +kernel)⟩ ⟨xb_Missing, xi_Missing (y := "InvalidSeat") (b := false) (by decide +kernel)⟩
  have XI_InvalidRecord : ∀ c ∈ (eAll : List Nat), ExcC K (ci c).1 ∧ PySem.W.kitOne K (.ref (ci c).1) (.ref (ci 6).1) = some (([6] : List Nat).contains c) := eAll_of ⟨xb_InvalidNumber, xi_InvalidNumber (y := "InvalidRecord") (b := false) (by decide +kernel)⟩ ⟨xb_InvalidName, xi_InvalidName (y := "InvalidRecord") (b := false) (by decide +kernel)⟩ ⟨xb_InvalidSpan, xi_InvalidSpan (y := "InvalidRecord") (b := false) (by decide +kernel)⟩ ⟨xb_InvalidText, xi_InvalidText (y := "InvalidRecord") (b := false) (by decide +kernel)⟩ ⟨xb_InvalidSeat, xi_InvalidSeat (y := "InvalidRecord") (b := false) (by decide +kernel)⟩ ⟨xb_InvalidRecord, xi_InvalidRecord (y := "InvalidRecord") (b := true) (by decide +kernel)⟩ ⟨xb_Clash, xi_Clash (y := "InvalidRecord") (b := false) (by decide +kernel)⟩ ⟨xb_DuplicateName, xi_DuplicateName (y := "InvalidRecord") (b := false) (by decide +kernel)⟩ ⟨xb_DuplicateNumber, xi_DuplicateNumber (y := "InvalidRecord") (b := false) (by decide +kernel)⟩ ⟨xb_TooMany, xi_TooMany (y := "InvalidRecord") (b := false) (by decide +kernel)⟩ ⟨xb_Full, xi_Full (y := "InvalidRecord") (b := false) (by decide +kernel)⟩ ⟨xb_NotAThing, xi_NotAThing (y := "InvalidRecord") (b := false) (by decide +kernel)⟩ ⟨xb_Contradiction, xi_Contradiction (y := "InvalidRecord") (b := false) (by decide +kernel)⟩ ⟨xb_InvalidRule, xi_InvalidRule (y := "InvalidRecord") (b := false) (by decide +kernel)⟩ ⟨xb_InvalidCommand, xi_InvalidCommand (y := "InvalidRecord") (b := false) (by decide +kernel)⟩ ⟨xb_InvalidLimit, xi_InvalidLimit (y := "InvalidRecord") (b := false) (by decide +kernel)⟩ ⟨xb_InvalidPage, xi_InvalidPage (y := "InvalidRecord") (b := false) (by decide +kernel)⟩ ⟨xb_UnknownName, xi_UnknownName (y := "InvalidRecord") (b := false) (by decide +kernel)⟩ ⟨xb_NothingLeft, xi_NothingLeft (y := "InvalidRecord") (b := false) (by decide +kernel)⟩ ⟨xb_LumpError, xi_LumpError (y := "InvalidRecord") (b := false) (by decide +kernel)⟩ ⟨xb_Missing, xi_Missing (y := "InvalidRecord") (b := false) (by decide +kernel)⟩
  have XI_Clash : ∀ c ∈ (eAll : List Nat), ExcC K (ci c).1 ∧ PySem.W.kitOne K (.ref (ci c).1) (.ref (ci 7).1) = some (([7] : List Nat).contains c) := eAll_of ⟨xb_InvalidNumber, xi_InvalidNumber (y := "Clash") (b := false) (by decide +kernel)⟩ ⟨xb_InvalidName, xi_InvalidName (y := "Clash") (b := false) (by decide +kernel)⟩ ⟨xb_InvalidSpan, xi_InvalidSpan (y := "Clash") (b := false) (by decide +kernel)⟩ ⟨xb_InvalidText, xi_InvalidText (y := "Clash") (b := false) (by decide +kernel)⟩ ⟨xb_InvalidSeat, xi_InvalidSeat (y := "Clash") (b := false) (by decide +kernel)⟩ ⟨xb_InvalidRecord, xi_InvalidRecord (y := "Clash") (b := false) (by decide +kernel)⟩ ⟨xb_Clash, xi_Clash (y := "Clash") (b := true) (by decide +kernel)⟩ ⟨xb_DuplicateName, xi_DuplicateName (y := "Clash") (b := false) (by decide +kernel)⟩ ⟨xb_DuplicateNumber, xi_DuplicateNumber (y := "Clash") (b := false) (by decide +kernel)⟩ ⟨xb_TooMany, xi_TooMany (y := "Clash") (b := false) (by decide +kernel)⟩ ⟨xb_Full, xi_Full (y := "Clash") (b := false) (by decide +kernel)⟩ ⟨xb_NotAThing, xi_NotAThing (y := "Clash") (b := false) (by decide +kernel)⟩ ⟨xb_Contradiction, xi_Contradiction (y := "Clash") (b := false) (by decide +kernel)⟩ ⟨xb_InvalidRule, xi_InvalidRule (y := "Clash") (b := false) (by decide +kernel)⟩ ⟨xb_InvalidCommand, xi_InvalidCommand (y := "Clash") (b := false) (by decide +kernel)⟩ ⟨xb_InvalidLimit, xi_InvalidLimit (y := "Clash") (b := false) (by decide +kernel)⟩ ⟨xb_InvalidPage, xi_InvalidPage (y := "Clash") (b := false) (by decide +kernel)⟩ ⟨xb_UnknownName, xi_UnknownName (y := "Clash") (b := false) (by decide +kernel)⟩ ⟨xb_NothingLeft, xi_NothingLeft (y := "Clash") (b := false) (by decide +kernel)⟩ ⟨xb_LumpError, xi_LumpError (y := "Clash") (b := false) (by decide +kernel)⟩ ⟨xb_Missing, xi_Missing (y := "Clash") (b := false) (by decide +kernel)⟩
  have XI_DuplicateName : ∀ c ∈ (eAll : List Nat), ExcC K (ci c).1 ∧ PySem.W.kitOne K (.ref (ci c).1) (.ref (ci 8).1) = some (([8] : List Nat).contains c) := eAll_of ⟨xb_InvalidNumber, xi_InvalidNumber (y := "DuplicateName") (b := false) (by decide +kernel)⟩ ⟨xb_InvalidName, xi_InvalidName (y := "DuplicateName") (b := false) (by decide +kernel)⟩ ⟨xb_InvalidSpan, xi_InvalidSpan (y := "DuplicateName") (b := false) (by decide +kernel)⟩ ⟨xb_InvalidText, xi_InvalidText (y := "DuplicateName") (b := false) (by decide +kernel)⟩ ⟨xb_InvalidSeat, xi_InvalidSeat (y := "DuplicateName") (b := false) (by decide +kernel)⟩ ⟨xb_InvalidRecord, xi_InvalidRecord (y := "DuplicateName") (b := false) (by decide +kernel)⟩ ⟨xb_Clash, xi_Clash (y := "DuplicateName") (b := false) (by decide +kernel)⟩ ⟨xb_DuplicateName, xi_DuplicateName (y := "DuplicateName") (b := true) (by decide +kernel)⟩ ⟨xb_DuplicateNumber, xi_DuplicateNumber (y := "DuplicateName") (b := false) (by decide +kernel)⟩ ⟨xb_TooMany, xi_TooMany (y := "DuplicateName") (b := false) (by decide +kernel)⟩ ⟨xb_Full, xi_Full (y := "DuplicateName") (b := false) (by decide +kernel)⟩ ⟨xb_NotAThing, xi_NotAThing (y := "DuplicateName") (b := false) (by decide +kernel)⟩ ⟨xb_Contradiction, xi_Contradiction (y := "DuplicateName") (b := false) (by decide +kernel)⟩ ⟨xb_InvalidRule, xi_InvalidRule (y := "DuplicateName") (b := false) (by decide +kernel)⟩ ⟨xb_InvalidCommand, xi_InvalidCommand (y := "DuplicateName") (b := false) (by decide +kernel)⟩ ⟨xb_InvalidLimit, xi_InvalidLimit (y := "DuplicateName") (b := false) (by decide +kernel)⟩ ⟨xb_InvalidPage, xi_InvalidPage (y := "DuplicateName") (b := false) (by decide +kernel)⟩ ⟨xb_UnknownName, xi_UnknownName (y := "DuplicateName") (b := false) (by decide +kernel)⟩ ⟨xb_NothingLeft, xi_NothingLeft (y := "DuplicateName") (b := false) (by decide +kernel)⟩ ⟨xb_LumpError, xi_LumpError (y := "DuplicateName") (b := false) (by decide +kernel)⟩ ⟨xb_Missing, xi_Missing (y := "DuplicateName") (b := false) (by decide +kernel)⟩
  have XI_DuplicateNumber : ∀ c ∈ (eAll : List Nat), ExcC K (ci c).1 ∧ PySem.W.kitOne K (.ref (ci c).1) (.ref (ci 9).1) = some (([9] : List Nat).contains c) := eAll_of ⟨xb_InvalidNumber, xi_InvalidNumber (y := "DuplicateNumber") (b := false) (by decide +kernel)⟩ ⟨xb_InvalidName, xi_InvalidName (y := "DuplicateNumber") (b := false) (by decide +kernel)⟩ ⟨xb_InvalidSpan, xi_InvalidSpan (y := "DuplicateNumber") (b := false) (by decide +kernel)⟩ ⟨xb_InvalidText, xi_InvalidText (y := "DuplicateNumber") (b := false) (by decide +kernel)⟩ ⟨xb_InvalidSeat, xi_InvalidSeat (y := "DuplicateNumber") (b := false) (by decide +kernel)⟩ ⟨xb_InvalidRecord, xi_InvalidRecord (y := "DuplicateNumber") (b := false) (by decide +kernel)⟩ ⟨xb_Clash, xi_Clash (y := "DuplicateNumber") (b := false) (by decide +kernel)⟩ ⟨xb_DuplicateName, xi_DuplicateName (y := "DuplicateNumber") (b := false) (by decide +kernel)⟩ ⟨xb_DuplicateNumber, xi_DuplicateNumber (y := "DuplicateNumber") (b := true) (by decide +kernel)⟩ ⟨xb_TooMany, xi_TooMany (y := "DuplicateNumber") (b := false) (by decide +kernel)⟩ ⟨xb_Full, xi_Full (y := "DuplicateNumber") (b := false) (by decide +kernel)⟩ ⟨xb_NotAThing, xi_NotAThing (y := "DuplicateNumber") (b := false) (by decide +kernel)⟩ ⟨xb_Contradiction, xi_Contradiction (y := "DuplicateNumber") (b := false) (by decide +kernel)⟩ ⟨xb_InvalidRule, xi_InvalidRule (y := "DuplicateNumber") (b := false) (by decide +kernel)⟩ ⟨xb_InvalidCommand, xi_InvalidCommand (y := "DuplicateNumber") (b := false) (by decide +kernel)⟩ ⟨xb_InvalidLimit, xi_InvalidLimit (y := "DuplicateNumber") (b := false) (by decide +kernel)⟩ ⟨xb_InvalidPage, xi_InvalidPage (y := "DuplicateNumber") (b := false) (by decide +kernel)⟩ ⟨xb_UnknownName, xi_UnknownName (y := "DuplicateNumber") (b := false) (by decide +kernel)⟩ ⟨xb_NothingLeft, xi_NothingLeft (y := "DuplicateNumber") (b := false) (by decide +kernel)⟩ ⟨xb_LumpError, xi_LumpError (y := "DuplicateNumber") (b := false) (by decide +kernel)⟩ ⟨xb_Missing, xi_Missing (y := "DuplicateNumber") (b := false) (by decide +kernel)⟩
  have XI_TooMany : ∀ c ∈ (eAll : List Nat), ExcC K (ci c).1 ∧ PySem.W.kitOne K (.ref (ci c).1) (.ref (ci 10).1) = some (([10] : List Nat).contains c) := eAll_of ⟨xb_InvalidNumber, xi_InvalidNumber (y := "TooMany") (b := false) (by decide +kernel)⟩ ⟨xb_InvalidName, xi_InvalidName (y := "TooMany") (b := false) (by decide +kernel)⟩ ⟨xb_InvalidSpan, xi_InvalidSpan (y := "TooMany") (b := false) (by decide +kernel)⟩ ⟨xb_InvalidText, xi_InvalidText (y := "TooMany") (b := false) (by decide +kernel)⟩ ⟨xb_InvalidSeat, xi_InvalidSeat (y := "TooMany") (b := false) (by decide +kernel)⟩ ⟨xb_InvalidRecord, xi_InvalidRecord (y := "TooMany") (b := false) (by decide +kernel)⟩ ⟨xb_Clash, xi_Clash (y := "TooMany") (b := false) (by decide +kernel)⟩ ⟨xb_DuplicateName, xi_DuplicateName (y := "TooMany") (b := false) (by decide +kernel)⟩ ⟨xb_DuplicateNumber, xi_DuplicateNumber (y := "TooMany") (b := false) (by decide +kernel)⟩ ⟨xb_TooMany, xi_TooMany (y := "TooMany") (b := true) (by decide +kernel)⟩ ⟨xb_Full, xi_Full (y := "TooMany") (b := false) (by decide +kernel)⟩ ⟨xb_NotAThing, xi_NotAThing (y := "TooMany") (b := false) (by decide +kernel)⟩ ⟨xb_Contradiction, xi_Contradiction (y := "TooMany") (b := false) (by decide +kernel)⟩ ⟨xb_InvalidRule, xi_InvalidRule (y := "TooMany") (b := false) (by decide +kernel)⟩ ⟨xb_InvalidCommand, xi_InvalidCommand (y := "TooMany") (b := false) (by decide +kernel)⟩ ⟨xb_InvalidLimit, xi_InvalidLimit (y := "TooMany") (b := false) (by decide +kernel)⟩ ⟨xb_InvalidPage, xi_InvalidPage (y := "TooMany") (b := false) (by decide +kernel)⟩ ⟨xb_UnknownName, xi_UnknownName (y := "TooMany") (b := false) (by decide +kernel)⟩ ⟨xb_NothingLeft, xi_NothingLeft (y := "TooMany") (b := false) (by decide +kernel)⟩ ⟨xb_LumpError, xi_LumpError (y := "TooMany") (b := false) (by decide +kernel)⟩ ⟨xb_Missing, xi_Missing (y := "TooMany") (b := false) (by decide +kernel)⟩
  have XI_Full : ∀ c ∈ (eAll : List Nat), ExcC K (ci c).1 ∧ PySem.W.kitOne K (.ref (ci c).1) (.ref (ci 11).1) = some (([11] : List Nat).contains c) := eAll_of ⟨xb_InvalidNumber, xi_InvalidNumber (y := "Full") (b := false) (by decide +kernel)⟩ ⟨xb_InvalidName, xi_InvalidName (y := "Full") (b := false) (by decide +kernel)⟩ ⟨xb_InvalidSpan, xi_InvalidSpan (y := "Full") (b := false) (by decide +kernel)⟩ ⟨xb_InvalidText, xi_InvalidText (y := "Full") (b := false) (by decide +kernel)⟩ ⟨xb_InvalidSeat, xi_InvalidSeat (y := "Full") (b := false) (by decide +kernel)⟩ ⟨xb_InvalidRecord, xi_InvalidRecord (y := "Full") (b := false) (by decide +kernel)⟩ ⟨xb_Clash, xi_Clash (y := "Full") (b := false) (by decide +kernel)⟩ ⟨xb_DuplicateName, xi_DuplicateName (y := "Full") (b := false) (by decide +kernel)⟩ ⟨xb_DuplicateNumber, xi_DuplicateNumber (y := "Full") (b := false) (by decide +kernel)⟩ ⟨xb_TooMany, xi_TooMany (y := "Full") (b := false) (by decide +kernel)⟩ ⟨xb_Full, xi_Full (y := "Full") (b := true) (by decide +kernel)⟩ ⟨xb_NotAThing, xi_NotAThing (y := "Full") (b := false) (by decide +kernel)⟩ ⟨xb_Contradiction, xi_Contradiction (y := "Full") (b := false) (by decide +kernel)⟩ ⟨xb_InvalidRule, xi_InvalidRule (y := "Full") (b := false) (by decide +kernel)⟩ ⟨xb_InvalidCommand, xi_InvalidCommand (y := "Full") (b := false) (by decide +kernel)⟩ ⟨xb_InvalidLimit, xi_InvalidLimit (y := "Full") (b := false) (by decide +kernel)⟩ ⟨xb_InvalidPage, xi_InvalidPage (y := "Full") (b := false) (by decide +kernel)⟩ ⟨xb_UnknownName, xi_UnknownName (y := "Full") (b := false) (by decide +kernel)⟩ ⟨xb_NothingLeft, xi_NothingLeft (y := "Full") (b := false) (by decide +kernel)⟩ ⟨xb_LumpError, xi_LumpError (y := "Full") (b := false) (by decide +kernel)⟩ ⟨xb_Missing, xi_Missing (y := "Full") (b := false) (by decide +kernel)⟩
  have XI_NotAThing : ∀ c ∈ (eAll : List Nat), ExcC K (ci c).1 ∧ PySem.W.kitOne K (.ref (ci c).1) (.ref (ci 12).1) = some (([12] : List Nat).contains c) := eAll_of ⟨xb_InvalidNumber, xi_InvalidNumber (y := "NotAThing") (b := false) (by decide +kernel)⟩ ⟨xb_InvalidName, xi_InvalidName (y := "NotAThing") (b := false) (by decide +kernel)⟩ ⟨xb_InvalidSpan, xi_InvalidSpan (y := "NotAThing") (b := false) (by decide +kernel)⟩ ⟨xb_InvalidText, xi_InvalidText (y := "NotAThing") (b := false) (by decide +kernel)⟩ ⟨xb_InvalidSeat, xi_InvalidSeat (y := "NotAThing") (b := false) (by decide +kernel)⟩ ⟨xb_InvalidRecord, xi_InvalidRecord (y := "NotAThing") (b := false) (by decide +kernel)⟩ ⟨xb_Clash, xi_Clash (y := "NotAThing") (b := false) (by decide +kernel)⟩ ⟨xb_DuplicateName, xi_DuplicateName (y := "NotAThing") (b := false) (by decide +kernel)⟩ ⟨xb_DuplicateNumber, xi_DuplicateNumber (y := "NotAThing") (b := false) (by decide +kernel)⟩ ⟨xb_TooMany, xi_TooMany (y := "NotAThing") (b := false) (by decide +kernel)⟩ ⟨xb_Full, xi_Full (y := "NotAThing") (b := false) (by decide +kernel)⟩ ⟨xb_NotAThing, xi_NotAThing (y := "NotAThing") (b := true) (by decide +kernel)⟩ ⟨xb_Contradiction, xi_Contradiction (y := "NotAThing") (b := false) (by decide +kernel)⟩ ⟨xb_InvalidRule, xi_InvalidRule (y := "NotAThing") (b := false) (by decide +kernel)⟩ ⟨xb_InvalidCommand, xi_InvalidCommand (y := "NotAThing") (b := false) (by decide +kernel)⟩ ⟨xb_InvalidLimit, xi_InvalidLimit (y := "NotAThing") (b := false) (by decide +kernel)⟩ ⟨xb_InvalidPage, xi_InvalidPage (y := "NotAThing") (b := false) (by decide +kernel)⟩ ⟨xb_UnknownName, xi_UnknownName (y := "NotAThing") (b := false) (by decide +kernel)⟩ ⟨xb_NothingLeft, xi_NothingLeft (y := "NotAThing") (b := false) (by decide +kernel)⟩ ⟨xb_LumpError, xi_LumpError (y := "NotAThing") (b := false) (by decide +kernel)⟩ ⟨xb_Missing, xi_Missing (y := "NotAThing") (b := false) (by decide +kernel)⟩
  have XI_Contradiction : ∀ c ∈ (eAll : List Nat), ExcC K (ci c).1 ∧ PySem.W.kitOne K (.ref (ci c).1) (.ref (ci 13).1) = some (([13] : List Nat).contains c) := eAll_of ⟨xb_InvalidNumber, xi_InvalidNumber (y := "Contradiction") (b := false) (by decide +kernel)⟩ ⟨xb_InvalidName, xi_InvalidName (y := "Contradiction") (b := false) (by decide +kernel)⟩ ⟨xb_InvalidSpan, xi_InvalidSpan (y := "Contradiction") (b := false) (by decide +kernel)⟩ ⟨xb_InvalidText, xi_InvalidText (y := "Contradiction") (b := false) (by decide +kernel)⟩ ⟨xb_InvalidSeat, xi_InvalidSeat (y := "Contradiction") (b := false) (by decide +kernel)⟩ ⟨xb_InvalidRecord, xi_InvalidRecord (y := "Contradiction") (b := false) (by decide +kernel)⟩ ⟨xb_Clash, xi_Clash (y := "Contradiction") (b := false) (by decide +kernel)⟩ ⟨xb_DuplicateName, xi_DuplicateName (y := "Contradiction") (b := false) (by decide +kernel)⟩ ⟨xb_DuplicateNumber, xi_DuplicateNumber (y := "Contradiction") (b := false) (by decide +kernel)⟩ ⟨xb_TooMany, xi_TooMany (y := "Contradiction") (b := false) (by decide +kernel)⟩ ⟨xb_Full, xi_Full (y := "Contradiction") (b := false) (by decide +kernel)⟩ ⟨xb_NotAThing, xi_NotAThing (y := "Contradiction") (b := false) (by decide +kernel)⟩ ⟨xb_Contradiction, xi_Contradiction (y := "Contradiction") (b := true) (by decide +kernel)⟩ ⟨xb_InvalidRule, xi_InvalidRule (y := "Contradiction") (b := false) (by decide +kernel)⟩ ⟨xb_InvalidCommand, xi_InvalidCommand (y := "Contradiction") (b := false) (by decide +kernel)⟩ ⟨xb_InvalidLimit, xi_InvalidLimit (y := "Contradiction") (b := false) (by decide +kernel)⟩ ⟨xb_InvalidPage, xi_InvalidPage (y := "Contradiction") (b := false) (by decide +kernel)⟩ ⟨xb_UnknownName, xi_UnknownName (y := "Contradiction") (b := false) (by decide +kernel)⟩ ⟨xb_NothingLeft, xi_NothingLeft (y := "Contradiction") (b := false) (by decide +kernel)⟩ ⟨xb_LumpError, xi_LumpError (y := "Contradiction") (b := false) (by decide +kernel)⟩ ⟨xb_Missing, xi_Missing (y := "Contradiction") (b := false) (by decide +kernel)⟩
  have XI_InvalidRule : ∀ c ∈ (eAll : List Nat), ExcC K (ci c).1 ∧ PySem.W.kitOne K (.ref (ci c).1) (.ref (ci 14).1) = some (([14] : List Nat).contains c) := eAll_of ⟨xb_InvalidNumber, xi_InvalidNumber (y := "InvalidRule") (b := false) (by decide +kernel)⟩ ⟨xb_InvalidName, xi_InvalidName (y := "InvalidRule") (b := false) (by decide +kernel)⟩ ⟨xb_InvalidSpan, xi_InvalidSpan (y := "InvalidRule") (b := false) (by decide +kernel)⟩ ⟨xb_InvalidText, xi_InvalidText (y := "InvalidRule") (b := false) (by decide +kernel)⟩ ⟨xb_InvalidSeat, xi_InvalidSeat (y := "InvalidRule") (b := false) (by decide +kernel)⟩ ⟨xb_InvalidRecord, xi_InvalidRecord (y := "InvalidRule") (b := false) (by decide +kernel)⟩ ⟨xb_Clash, xi_Clash (y := "InvalidRule") (b := false) (by decide +kernel)⟩ ⟨xb_DuplicateName, xi_DuplicateName (y := "InvalidRule") (b := false) (by decide +kernel)⟩ ⟨xb_DuplicateNumber, xi_DuplicateNumber (y := "InvalidRule") (b := false) (by decide +kernel)⟩ ⟨xb_TooMany, xi_TooMany (y := "InvalidRule") (b := false) (by decide +kernel)⟩ ⟨xb_Full, xi_Full (y := "InvalidRule") (b := false) (by decide +kernel)⟩ ⟨xb_NotAThing, xi_NotAThing (y := "InvalidRule") (b := false) (by decide +kernel)⟩ ⟨xb_Contradiction, xi_Contradiction (y := "InvalidRule") (b := false) (by decide +kernel)⟩ ⟨xb_InvalidRule, xi_InvalidRule (y := "InvalidRule") (b := true) (by decide +kernel)⟩ ⟨xb_InvalidCommand, xi_InvalidCommand (y := "InvalidRule") (b := false) (by decide +kernel)⟩ ⟨xb_InvalidLimit, xi_InvalidLimit (y := "InvalidRule") (b := false) (by decide +kernel)⟩ ⟨xb_InvalidPage, xi_InvalidPage (y := "InvalidRule") (b := false) (by decide +kernel)⟩ ⟨xb_UnknownName, xi_UnknownName (y := "InvalidRule") (b := false) (by decide +kernel)⟩ ⟨xb_NothingLeft, xi_NothingLeft (y := "InvalidRule") (b := false) (by decide +kernel)⟩ ⟨xb_LumpError, xi_LumpError (y := "InvalidRule") (b := false) (by decide +kernel)⟩ ⟨xb_Missing, xi_Missing (y := "InvalidRule") (b := false) (by decide +kernel)⟩
  have XI_InvalidCommand : ∀ c ∈ (eAll : List Nat), ExcC K (ci c).1 ∧ PySem.W.kitOne K (.ref (ci c).1) (.ref (ci 15).1) = some (([15] : List Nat).contains c) := eAll_of ⟨xb_InvalidNumber, xi_InvalidNumber (y := "InvalidCommand") (b := false) (by decide +kernel)⟩ ⟨xb_InvalidName, xi_InvalidName (y := "InvalidCommand") (b := false) (by decide +kernel)⟩ ⟨xb_InvalidSpan, xi_InvalidSpan (y := "InvalidCommand") (b := false) (by decide +kernel)⟩ ⟨xb_InvalidText, xi_InvalidText (y := "InvalidCommand") (b := false) (by decide +kernel)⟩ ⟨xb_InvalidSeat, xi_InvalidSeat (y := "InvalidCommand") (b := false) (by decide +kernel)⟩ ⟨xb_InvalidRecord, xi_InvalidRecord (y := "InvalidCommand") (b := false) (by decide +kernel)⟩ ⟨xb_Clash, xi_Clash (y := "InvalidCommand") (b := false) (by decide +kernel)⟩ ⟨xb_DuplicateName, xi_DuplicateName (y := "InvalidCommand") (b := false) (by decide +kernel)⟩ ⟨xb_DuplicateNumber, xi_DuplicateNumber (y := "InvalidCommand") (b := false) (by decide +kernel)⟩ ⟨xb_TooMany, xi_TooMany (y := "InvalidCommand") (b := false) (by decide +kernel)⟩ ⟨xb_Full, xi_Full (y := "InvalidCommand") (b := false) (by decide +kernel)⟩ ⟨xb_NotAThing, xi_NotAThing (y := "InvalidCommand") (b := false) (by decide +kernel)⟩ ⟨xb_Contradiction, xi_Contradiction (y := "InvalidCommand") (b := false) (by decide +kernel)⟩ ⟨xb_InvalidRule, xi_InvalidRule (y := "InvalidCommand") (b := false) (by decide +kernel)⟩ ⟨xb_InvalidCommand, xi_InvalidCommand (y := "InvalidCommand") (b := true) (by decide +kernel)⟩ ⟨xb_InvalidLimit, xi_InvalidLimit (y := "InvalidCommand") (b := false) (by decide +kernel)⟩ ⟨xb_InvalidPage, xi_InvalidPage (y := "InvalidCommand") (b := false) (by decide +kernel)⟩ ⟨xb_UnknownName, xi_UnknownName (y := "InvalidCommand") (b := false) (by decide +kernel)⟩ ⟨xb_NothingLeft, xi_NothingLeft (y := "InvalidCommand") (b := false) (by decide +kernel)⟩ ⟨xb_LumpError, xi_LumpError (y := "InvalidCommand") (b := false) (by decide +kernel)⟩ ⟨xb_Missing, xi_Missing (y := "InvalidCommand") (b := false) (by decide +kernel)⟩
  have XI_InvalidLimit : ∀ c ∈ (eAll : List Nat), ExcC K (ci c).1 ∧ PySem.W.kitOne K (.ref (ci c).1) (.ref (ci 16).1) = some (([16] : List Nat).contains c) := eAll_of ⟨xb_InvalidNumber, xi_InvalidNumber (y := "InvalidLimit") (b := false) (by decide +kernel)⟩ ⟨xb_InvalidName, xi_InvalidName (y := "InvalidLimit") (b := false) (by decide +kernel)⟩ ⟨xb_InvalidSpan, xi_InvalidSpan (y := "InvalidLimit") (b := false) (by decide +kernel)⟩ ⟨xb_InvalidText, xi_InvalidText (y := "InvalidLimit") (b := false) (by decide +kernel)⟩ ⟨xb_InvalidSeat, xi_InvalidSeat (y := "InvalidLimit") (b := false) (by decide +kernel)⟩ ⟨xb_InvalidRecord, xi_InvalidRecord (y := "InvalidLimit") (b := false) (by decide +kernel)⟩ ⟨xb_Clash, xi_Clash (y := "InvalidLimit") (b := false) (by decide +kernel)⟩ ⟨xb_DuplicateName, xi_DuplicateName (y := "InvalidLimit") (b := false) (by decide +kernel)⟩ ⟨xb_DuplicateNumber, xi_DuplicateNumber (y := "InvalidLimit") (b := false) (by decide +kernel)⟩ ⟨xb_TooMany, xi_TooMany (y := "InvalidLimit") (b := false) (by decide +kernel)⟩ ⟨xb_Full, xi_Full (y := "InvalidLimit") (b := false) (by decide +kernel)⟩ ⟨xb_NotAThing, xi_NotAThing (y := "InvalidLimit") (b := false) (by decide +kernel)⟩ ⟨xb_Contradiction, xi_Contradiction (y := "InvalidLimit") (b := false) (by decide +kernel)⟩ ⟨xb_InvalidRule, xi_InvalidRule (y := "InvalidLimit") (b := false) (by decide +kernel)⟩ ⟨xb_InvalidCommand, xi_InvalidCommand (y := "InvalidLimit") (b := false) (by decide +kernel)⟩ ⟨xb_InvalidLimit, xi_InvalidLimit (y := "InvalidLimit") (b := true) (by decide +kernel)⟩ ⟨xb_InvalidPage, xi_InvalidPage (y := "InvalidLimit") (b := false) (by decide +kernel)⟩ ⟨xb_UnknownName, xi_UnknownName (y := "InvalidLimit") (b := false) (by decide +kernel)⟩ ⟨xb_NothingLeft, xi_NothingLeft (y := "InvalidLimit") (b := false) (by decide +kernel)⟩ ⟨xb_LumpError, xi_LumpError (y := "InvalidLimit") (b := false) (by decide +kernel)⟩ ⟨xb_Missing, xi_Missing (y := "InvalidLimit") (b := false) (by decide +kernel)⟩
  have XI_InvalidPage : ∀ c ∈ (eAll : List Nat), ExcC K (ci c).1 ∧ PySem.W.kitOne K (.ref (ci c).1) (.ref (ci 17).1) = some (([17] : List Nat).contains c) := eAll_of ⟨xb_InvalidNumber, xi_InvalidNumber (y := "InvalidPage") (b := false) (by decide +kernel)⟩ ⟨xb_InvalidName, xi_InvalidName (y := "InvalidPage") (b := false) (by decide +kernel)⟩ ⟨xb_InvalidSpan, xi_InvalidSpan (y := "InvalidPage") (b := false) (by decide +kernel)⟩ ⟨xb_InvalidText, xi_InvalidText (y := "InvalidPage") (b := false) (by decide +kernel)⟩ ⟨xb_InvalidSeat, xi_InvalidSeat (y := "InvalidPage") (b := false) (by decide +kernel)⟩ ⟨xb_InvalidRecord, xi_InvalidRecord (y := "InvalidPage") (b := false) (by decide +kernel)⟩ ⟨xb_Clash, xi_Clash (y := "InvalidPage") (b := false) (by decide +kernel)⟩ ⟨xb_DuplicateName, xi_DuplicateName (y := "InvalidPage") (b := false) (by decide +kernel)⟩ ⟨xb_DuplicateNumber, xi_DuplicateNumber (y := "InvalidPage") (b := false) (by decide +kernel)⟩ ⟨xb_TooMany, xi_TooMany (y := "InvalidPage") (b := false) (by decide +kernel)⟩ ⟨xb_Full, xi_Full (y := "InvalidPage") (b := false) (by decide +kernel)⟩ ⟨xb_NotAThing, xi_NotAThing (y := "InvalidPage") (b := false) (by decide +kernel)⟩ ⟨xb_Contradiction, xi_Contradiction (y := "InvalidPage") (b := false) (by decide +kernel)⟩ ⟨xb_InvalidRule, xi_InvalidRule (y := "InvalidPage") (b := false) (by decide +kernel)⟩ ⟨xb_InvalidCommand, xi_InvalidCommand (y := "InvalidPage") (b := false) (by decide +kernel)⟩ ⟨xb_InvalidLimit, xi_InvalidLimit (y := "InvalidPage") (b := false) (by decide +kernel)⟩ ⟨xb_InvalidPage, xi_InvalidPage (y := "InvalidPage") (b := true) (by decide +kernel)⟩ ⟨xb_UnknownName, xi_UnknownName (y := "InvalidPage") (b := false) (by decide +kernel)⟩ ⟨xb_NothingLeft, xi_NothingLeft (y := "InvalidPage") (b := false) (by decide +kernel)⟩ ⟨xb_LumpError, xi_LumpError (y := "InvalidPage") (b := false) (by decide +kernel)⟩ ⟨xb_Missing, xi_Missing (y := "InvalidPage") (b := false) (by decide +kernel)⟩
  have XI_UnknownName : ∀ c ∈ (eAll : List Nat), ExcC K (ci c).1 ∧ PySem.W.kitOne K (.ref (ci c).1) (.ref (ci 18).1) = some (([18] : List Nat).contains c) := eAll_of ⟨xb_InvalidNumber, xi_InvalidNumber (y := "UnknownName") (b := false) (by decide +kernel)⟩ ⟨xb_InvalidName, xi_InvalidName (y := "UnknownName") (b := false) (by decide +kernel)⟩ ⟨xb_InvalidSpan, xi_InvalidSpan (y := "UnknownName") (b := false) (by decide +kernel)⟩ ⟨xb_InvalidText, xi_InvalidText (y := "UnknownName") (b := false) (by decide +kernel)⟩ ⟨xb_InvalidSeat, xi_InvalidSeat (y := "UnknownName") (b := false) (by decide +kernel)⟩ ⟨xb_InvalidRecord, xi_InvalidRecord (y := "UnknownName") (b := false) (by decide +kernel)⟩ ⟨xb_Clash, xi_Clash (y := "UnknownName") (b := false) (by decide +kernel)⟩ ⟨xb_DuplicateName, xi_DuplicateName (y := "UnknownName") (b := false) (by decide +kernel)⟩ ⟨xb_DuplicateNumber, xi_DuplicateNumber (y := "UnknownName") (b := false) (by decide +kernel)⟩ ⟨xb_TooMany, xi_TooMany (y := "UnknownName") (b := false) (by decide +kernel)⟩ ⟨xb_Full, xi_Full (y := "UnknownName") (b := false) (by decide +kernel)⟩ ⟨xb_NotAThing, xi_NotAThing (y := "UnknownName") (b := false) (by decide +kernel)⟩ ⟨xb_Contradiction, xi_Contradiction (y := "UnknownName") (b := false) (by decide +kernel)⟩ ⟨xb_InvalidRule, xi_InvalidRule (y := "UnknownName") (b := false) (by decide +kernel)⟩ ⟨xb_InvalidCommand, xi_InvalidCommand (y := "UnknownName") (b := false) (by decide +kernel)⟩ ⟨xb_InvalidLimit, xi_InvalidLimit (y := "UnknownName") (b := false) (by decide +kernel)⟩ ⟨xb_InvalidPage, xi_InvalidPage (y := "UnknownName") (b := false) (by decide +kernel)⟩ ⟨xb_UnknownName, xi_UnknownName (y := "UnknownName") (b := true) (by decide +kernel)⟩ ⟨xb_NothingLeft, xi_NothingLeft (y := "UnknownName") (b := false) (by decide +kernel)⟩ ⟨xb_LumpError, xi_LumpError (y := "UnknownName") (b := false) (by decide +kernel)⟩ ⟨xb_Missing, xi_Missing (y := "UnknownName") (b := false) (by decide +kernel)⟩
  have XI_NothingLeft : ∀ c ∈ (eAll : List Nat), ExcC K (ci c).1 ∧ PySem.W.kitOne K (.ref (ci c).1) (.ref (ci 19).1) = some (([19] : List Nat).contains c) := eAll_of ⟨xb_InvalidNumber, xi_InvalidNumber (y := "NothingLeft") (b := false) (by decide +kernel)⟩ ⟨xb_InvalidName, xi_InvalidName (y := "NothingLeft") (b := false) (by decide +kernel)⟩ ⟨xb_InvalidSpan, xi_InvalidSpan (y := "NothingLeft") (b := false) (by decide +kernel)⟩ ⟨xb_InvalidText, xi_InvalidText (y := "NothingLeft") (b := false) (by decide +kernel)⟩ ⟨xb_InvalidSeat, xi_InvalidSeat (y := "NothingLeft") (b := false) (by decide +kernel)⟩ ⟨xb_InvalidRecord, xi_InvalidRecord (y := "NothingLeft") (b := false) (by decide +kernel)⟩ ⟨xb_Clash, xi_Clash (y := "NothingLeft") (b := false) (by decide +kernel)⟩ ⟨xb_DuplicateName, xi_DuplicateName (y := "NothingLeft") (b := false) (by decide +kernel)⟩ ⟨xb_DuplicateNumber, xi_DuplicateNumber (y := "NothingLeft") (b := false) (by decide +kernel)⟩ ⟨xb_TooMany, xi_TooMany (y := "NothingLeft") (b := false) (by decide +kernel)⟩ ⟨xb_Full, xi_Full (y := "NothingLeft") (b := false) (by decide +kernel)⟩ ⟨xb_NotAThing, xi_NotAThing (y := "NothingLeft") (b := false) (by decide +kernel)⟩ ⟨xb_Contradiction, xi_Contradiction (y := "NothingLeft") (b := false) (by decide +kernel)⟩ ⟨xb_InvalidRule, xi_InvalidRule (y := "NothingLeft") (b := false) (by decide +kernel)⟩ ⟨xb_InvalidCommand, xi_InvalidCommand (y := "NothingLeft") (b := false) (by decide +kernel)⟩ ⟨xb_InvalidLimit, xi_InvalidLimit (y := "NothingLeft") (b := false) (by decide +kernel)⟩ ⟨xb_InvalidPage, xi_InvalidPage (y := "NothingLeft") (b := false) (by decide +kernel)⟩ ⟨xb_UnknownName, xi_UnknownName (y := "NothingLeft") (b := false) (by decide +kernel)⟩ ⟨xb_NothingLeft, xi_NothingLeft (y := "NothingLeft") (b := true) (by decide +kernel)⟩ ⟨xb_LumpError, xi_LumpError (y := "NothingLeft") (b := false) (by decide +kernel)⟩ ⟨xb_Missing, xi_Missing (y := "NothingLeft") (b := false) (by decide +kernel)⟩
  have XI_LumpError : ∀ c ∈ (eAll : List Nat), ExcC K (ci c).1 ∧ PySem.W.kitOne K (.ref (ci c).1) (.ref (ci 20).1) = some (([1, 2, 3, 4, 5, 6, 7, 8, 9, 10, 11, 12, 13, 14, 15, 16, 17, 20] : List Nat).contains c) := eAll_of ⟨xb_InvalidNumber, xi_InvalidNumber (y := "LumpError") (b := true) (by decide +kernel)⟩ ⟨xb_InvalidName, xi_InvalidName (y := "LumpError") (b := true) (by decide +kernel)⟩ ⟨xb_InvalidSpan, xi_InvalidSpan (y := "LumpError") (b := true) (by decide +kernel)⟩ ⟨xb_InvalidText, xi_InvalidText (y := "LumpError") (b := true) (by decide +kernel)⟩ ⟨xb_InvalidSeat, xi_InvalidSeat (y := "LumpError") (b := true) (by decide +kernel)⟩ ⟨xb_InvalidRecord, xi_InvalidRecord (y := "LumpError") (b := true) (by decide +kernel)⟩ ⟨xb_Clash, xi_Clash (y := "LumpError") (b := true) (by decide +kernel)⟩ ⟨xb_DuplicateName, xi_DuplicateName (y := "LumpError") (b := true) (by decide +kernel)⟩ ⟨xb_DuplicateNumber, xi_DuplicateNumber (y := "LumpError") (b := true) (by decide +kernel)⟩ ⟨xb_TooMany, xi_TooMany (y := "LumpError") (b := true) (by decide +kernel)⟩ ⟨xb_Full, xi_Full (y := "LumpError") (b := true) (by decide +kernel)⟩ ⟨xb_NotAThing, xi_NotAThing (y := "LumpError") (b := true) (by decide +kernel)⟩ ⟨xb_Contradiction, xi_Contradiction (y := "LumpError") (b := true) (by decide +kernel)⟩ ⟨xb_InvalidRule, xi_InvalidRule (y := "LumpError") (b := true) (by decide +kernel)⟩ ⟨xb_InvalidCommand, xi_InvalidCommand (y := "LumpError") (b := true) (by decide +kernel)⟩ ⟨xb_InvalidLimit, xi_InvalidLimit (y := "LumpError") (b := true) (by decide +kernel)⟩ ⟨xb_InvalidPage, xi_InvalidPage (y := "LumpError") (b := true) (by decide +kernel)⟩ ⟨xb_UnknownName, xi_UnknownName (y := "LumpError") (b := false) (by decide +kernel)⟩ ⟨xb_NothingLeft, xi_NothingLeft (y := "LumpError") (b := false) (by decide +kernel)⟩ ⟨xb_LumpError, xi_LumpError (y := "LumpError") (b := true) (by decide +kernel)⟩ ⟨xb_Missing, xi_Missing (y := "LumpError") (b := false) (by decide +kernel)⟩
  have XI_Missing : ∀ c ∈ (eAll : List Nat), ExcC K (ci c).1 ∧ PySem.W.kitOne K (.ref (ci c).1) (.ref (ci 21).1) = some (([18, 21] : List Nat).contains c) := eAll_of ⟨xb_InvalidNumber, xi_InvalidNumber (y := "Missing") (b := false) (by decide +kernel)⟩ ⟨xb_InvalidName, xi_InvalidName (y := "Missing") (b := false) (by decide +kernel)⟩ ⟨xb_InvalidSpan, xi_InvalidSpan (y := "Missing") (b := false) (by decide +kernel)⟩ ⟨xb_InvalidText, xi_InvalidText (y := "Missing") (b := false) (by decide +kernel)⟩ ⟨xb_InvalidSeat, xi_InvalidSeat (y := "Missing") (b := false) (by decide +kernel)⟩ ⟨xb_InvalidRecord, xi_InvalidRecord (y := "Missing") (b := false) (by decide +kernel)⟩ ⟨xb_Clash, xi_Clash (y := "Missing") (b := false) (by decide +kernel)⟩ ⟨xb_DuplicateName, xi_DuplicateName (y := "Missing") (b := false) (by decide +kernel)⟩ ⟨xb_DuplicateNumber, xi_DuplicateNumber (y := "Missing") (b := false) (by decide +kernel)⟩ ⟨xb_TooMany, xi_TooMany (y := "Missing") (b := false) (by decide +kernel)⟩ ⟨xb_Full, xi_Full (y := "Missing") (b := false) (by decide +kernel)⟩ ⟨xb_NotAThing, xi_NotAThing (y := "Missing") (b := false) (by decide +kernel)⟩ ⟨xb_Contradiction, xi_Contradiction (y := "Missing") (b := false) (by decide +kernel)⟩ ⟨xb_InvalidRule, xi_InvalidRule (y := "Missing") (b := false) (by decide +kernel)⟩ ⟨xb_InvalidCommand, xi_InvalidCommand (y := "Missing") (b := false) (by decide +kernel)⟩ ⟨xb_InvalidLimit, xi_InvalidLimit (y := "Missing") (b := false) (by decide +kernel)⟩ ⟨xb_InvalidPage, xi_InvalidPage (y := "Missing") (b := false) (by decide +kernel)⟩ ⟨xb_UnknownName, xi_UnknownName (y := "Missing") (b := true) (by decide +kernel)⟩ ⟨xb_NothingLeft, xi_NothingLeft (y := "Missing") (b := false) (by decide +kernel)⟩ ⟨xb_LumpError, xi_LumpError (y := "Missing") (b := false) (by decide +kernel)⟩ ⟨xb_Missing, xi_Missing (y := "Missing") (b := true) (by decide +kernel)⟩
  have XI_ValueError : ∀ c ∈ (eAll : List Nat), ExcC K (ci c).1 ∧ PySem.W.kitOne K (.ref (ci c).1) (.type "ValueError") = some (([1, 2, 3, 4, 5, 6, 7, 8, 9, 10, 11, 12, 13, 14, 15, 16, 17, 20] : List Nat).contains c) := eAll_of ⟨xb_InvalidNumber, xt_InvalidNumber (y := "ValueError") (b := true) (by decide +kernel)⟩ ⟨xb_InvalidName, xt_InvalidName (y := "ValueError") (b := true) (by decide +kernel)⟩ ⟨xb_InvalidSpan, xt_InvalidSpan (y := "ValueError") (b := true) (by decide +kernel)⟩ ⟨xb_InvalidText, xt_InvalidText (y := "ValueError") (b := true) (by decide +kernel)⟩ ⟨xb_InvalidSeat, xt_InvalidSeat (y := "ValueError") (b := true) (by decide +kernel)⟩ ⟨xb_InvalidRecord, xt_InvalidRecord (y := "ValueError") (b := true) (by decide +kernel)⟩ ⟨xb_Clash, xt_Clash (y := "ValueError") (b := true) (by decide +kernel)⟩ ⟨xb_DuplicateName, xt_DuplicateName (y := "ValueError") (b := true) (by decide +kernel)⟩ ⟨xb_DuplicateNumber, xt_DuplicateNumber (y := "ValueError") (b := true) (by decide +kernel)⟩ ⟨xb_TooMany, xt_TooMany (y := "ValueError") (b := true) (by decide +kernel)⟩ ⟨xb_Full, xt_Full (y := "ValueError") (b := true) (by decide +kernel)⟩ ⟨xb_NotAThing, xt_NotAThing (y := "ValueError") (b := true) (by decide +kernel)⟩ ⟨xb_Contradiction, xt_Contradiction (y := "ValueError") (b := true) (by decide +kernel)⟩ ⟨xb_InvalidRule, xt_InvalidRule (y := "ValueError") (b := true) (by decide +kernel)⟩ ⟨xb_InvalidCommand, xt_InvalidCommand (y := "ValueError") (b := true) (by decide +kernel)⟩ ⟨xb_InvalidLimit, xt_InvalidLimit (y := "ValueError") (b := true) (by decide +kernel)⟩ ⟨xb_InvalidPage, xt_InvalidPage (y := "ValueError") (b := true) (by decide +kernel)⟩ ⟨xb_UnknownName, xt_UnknownName (y := "ValueError") (b := false) (by decide +kernel)⟩ ⟨xb_NothingLeft, xt_NothingLeft (y := "ValueError") (b := false) (by decide +kernel)⟩ ⟨xb_LumpError, xt_LumpError (y := "ValueError") (b := true) (by decide +kernel)⟩ ⟨xb_Missing, xt_Missing (y := "ValueError") (b := false) (by decide +kernel)⟩
  have XI_LookupError : ∀ c ∈ (eAll : List Nat), ExcC K (ci c).1 ∧ PySem.W.kitOne K (.ref (ci c).1) (.type "LookupError") = some (([18, 19, 21] : List Nat).contains c) := eAll_of ⟨xb_InvalidNumber, xt_InvalidNumber (y := "LookupError") (b := false) (by decide +kernel)⟩ ⟨xb_InvalidName, xt_InvalidName (y := "LookupError") (b := false) (by decide +kernel)⟩ ⟨xb_InvalidSpan, xt_InvalidSpan (y := "LookupError") (b := false) (by decide +kernel)⟩ ⟨xb_InvalidText, xt_InvalidText (y := "LookupError") (b := false) (by decide +kernel)⟩ ⟨xb_InvalidSeat, xt_InvalidSeat (y := "LookupError") (b := false) (by decide +kernel)⟩ ⟨xb_InvalidRecord, xt_InvalidRecord (y := "LookupError") (b := false) (by decide +kernel)⟩ ⟨xb_Clash, xt_Clash (y := "LookupError") (b := false) (by decide +kernel)⟩ ⟨xb_DuplicateName, xt_DuplicateName (y := "LookupError") (b := false) (by decide +kernel)⟩ ⟨xb_DuplicateNumber, xt_DuplicateNumber (y := "LookupError") (b := false) (by decide +kernel)⟩ ⟨xb_TooMany, xt_TooMany (y := "LookupError") (b := false) (by decide +kernel)⟩ ⟨xb_Full, xt_Full (y := "LookupError") (b := false) (by decide +kernel)⟩ ⟨xb_NotAThing, xt_NotAThing (y := "LookupError") (b := false) (by decide +kernel)⟩ ⟨xb_Contradiction, xt_Contradiction (y := "LookupError") (b := false) (by decide +kernel)⟩ ⟨xb_InvalidRule, xt_InvalidRule (y := "LookupError") (b := false) (by decide +kernel)⟩ ⟨xb_InvalidCommand, xt_InvalidCommand (y := "LookupError") (b := false) (by decide +kernel)⟩ ⟨xb_InvalidLimit, xt_InvalidLimit (y := "LookupError") (b := false) (by decide +kernel)⟩ ⟨xb_InvalidPage, xt_InvalidPage (y := "LookupError") (b := false) (by decide +kernel)⟩ ⟨xb_UnknownName, xt_UnknownName (y := "LookupError") (b := true) (by decide +kernel)⟩ ⟨xb_NothingLeft, xt_NothingLeft (y := "LookupError") (b := true) (by decide +kernel)⟩ ⟨xb_LumpError, xt_LumpError (y := "LookupError") (b := false) (by decide +kernel)⟩ ⟨xb_Missing, xt_Missing (y := "LookupError") (b := true) (by decide +kernel)⟩
  have XI_IndexError : ∀ c ∈ (eAll : List Nat), ExcC K (ci c).1 ∧ PySem.W.kitOne K (.ref (ci c).1) (.type "IndexError") = some (([19] : List Nat).contains c) := eAll_of ⟨xb_InvalidNumber, xt_InvalidNumber (y := "IndexError") (b := false) (by decide +kernel)⟩ ⟨xb_InvalidName, xt_InvalidName (y := "IndexError") (b := false) (by decide +kernel)⟩ ⟨xb_InvalidSpan, xt_InvalidSpan (y := "IndexError") (b := false) (by decide +kernel)⟩ ⟨xb_InvalidText, xt_InvalidText (y := "IndexError") (b := false) (by decide +kernel)⟩ ⟨xb_InvalidSeat, xt_InvalidSeat (y := "IndexError") (b := false) (by decide +kernel)⟩ ⟨xb_InvalidRecord, xt_InvalidRecord (y := "IndexError") (b := false) (by decide +kernel)⟩ ⟨xb_Clash, xt_Clash (y := "IndexError") (b := false) (by decide +kernel)⟩ ⟨xb_DuplicateName, xt_DuplicateName (y := "IndexError") (b := false) (by decide +kernel)⟩ ⟨xb_DuplicateNumber, xt_DuplicateNumber (y := "IndexError") (b := false) (by decide +kernel)⟩ ⟨xb_TooMany, xt_TooMany (y := "IndexError") (b := false) (by decide +kernel)⟩ ⟨xb_Full, xt_Full (y := "IndexError") (b := false) (by decide +kernel)⟩ ⟨xb_NotAThing, xt_NotAThing (y := "IndexError") (b := false) (by decide +kernel)⟩ ⟨xb_Contradiction, xt_Contradiction (y := "IndexError") (b := false) (by decide +kernel)⟩ ⟨xb_InvalidRule, xt_InvalidRule (y := "IndexError") (b := false) (by decide +kernel)⟩ ⟨xb_InvalidCommand, xt_InvalidCommand (y := "IndexError") (b := false) (by decide +kernel)⟩ ⟨xb_InvalidLimit, xt_InvalidLimit (y := "IndexError") (b := false) (by decide +kernel)⟩ ⟨xb_InvalidPage, xt_InvalidPage (y := "IndexError") (b := false) (by decide +kernel)⟩ ⟨xb_UnknownName, xt_UnknownName (y := "IndexError") (b := false) (by decide +kernel)⟩ ⟨xb_NothingLeft, xt_NothingLeft (y := "IndexError") (b := true) (by decide +kernel)⟩ ⟨xb_LumpError, xt_LumpError (y := "IndexError") (b := false) (by decide +kernel)⟩ ⟨xb_Missing, xt_Missing (y := "IndexError") (b := false) (by decide +kernel)⟩
  have ok_l_bag : FnOk P w K mg base (L2.CX P w) 1 _ fd_l_bag ["_law_script"] (spOf K ci fc_bag) := fnM F_l_bag sc_l_bag (fun as S ex Q h => by obtain ⟨k, cs, rfl, _⟩ := h; rfl) (b_l_bag T ) v_bag
  have C_l_bag : CallP P w K mg base ci 1 "_law_bag" [] (spOf K ci fc_bag) := ⟨_, fd_l_bag, _, [], ok_l_bag, g_l_bag, F_l_bag.kp, (F_l_bag.bindsN fun _ _ _ _ _ _ us hl => match us, hl with | [_], _ => rfl), .nil, rfl⟩
  have ok_l_pull : FnOk P w K mg base (L2.CX P w) 1 _ fd_l_pull ["_law_bag_here", "_law_many"] (spOf K ci fc_pull) := fnM F_l_pull sc_l_pull (fun as S ex Q h => by obtain ⟨k, m, many, rfl, _⟩ := h; rfl) (b_l_pull T ) v_pull
  have C_l_pull : CallP P w K mg base ci 1 "_law_pull" [] (spOf K ci fc_pull) := ⟨_, fd_l_pull, _, [], ok_l_pull, g_l_pull, F_l_pull.kp, (F_l_pull.bindsN fun _ _ _ _ _ _ us hl => match us, hl with | [_, _], _ => rfl), .nil, rfl⟩
  have ok_l_pick : FnOk P w K mg base (L2.CX P w) 2 _ fd_l_pick ["_law_bag_here", "_law_rows"] (spOf K ci fc_pick) := fnM F_l_pick sc_l_pick (fun as S ex Q h => by obtain ⟨k, m, rows, l, rfl, _⟩ := h; rfl) (b_l_pick T C_l_pull) v_pick
  have C_l_pick : CallP P w K mg base ci 2 "_law_pick" [] (spOf K ci fc_pick) := ⟨_, fd_l_pick, _, [], ok_l_pick, g_l_pick, F_l_pick.kp, (F_l_pick.bindsN fun _ _ _ _ _ _ us hl => match us, hl with | [_, _], _ => rfl), .nil, rfl⟩
  have bS : Binds K fd_l_same ["_law_found", "_law_due"] [] := F_l_same.bindsN fun _ _ _ _ _ _ us hl => match us, hl with | [_, _], _ => rfl
  have okS : ∀ n : Nat, FnOk P w K mg base (L2.CX P w) (n + 1) (He.ga K "_law_same") fd_l_same ["_law_found", "_law_due"] (spP K ci (G_same n)) := by
    intro n
    induction n with
    | zero =>
      have z : CallP P w K mg base ci 0 "_law_same" [] (spP K ci (G_prev 0)) := ⟨_, fd_l_same, ["_law_found", "_law_due"], [], ⟨fun vs H Q E h => (by obtain ⟨_, _, _, _, _, h, _⟩ := h; cases h), fun A outer s H args us vs Q E hr e b v h => (by obtain ⟨_, _, _, _, _, h, _⟩ := h; cases h)⟩, g_l_same, F_l_same.kp, bS, .nil, rfl⟩
      exact fnP F_l_same sc_l_same (fun ds o h => hlen_same 0 ds o h) (b_l_same (G_prev 0) T z) (v_same 0)
    | succ n ih =>
      have z : CallP P w K mg base ci (n + 1) "_law_same" [] (spP K ci (G_prev (n + 1))) := ⟨_, fd_l_same, _, [], ih, g_l_same, F_l_same.kp, bS, .nil, rfl⟩
      exact fnP F_l_same sc_l_same (fun ds o h => hlen_same (n + 1) ds o h) (b_l_same (G_prev (n + 1)) T z) (v_same (n + 1))
  have C_l_same : CallP P w K mg base ci 4 "_law_same" [] (spP K ci (G_same 3)) := ⟨_, fd_l_same, _, [], okS 3, g_l_same, F_l_same.kp, bS, .nil, rfl⟩
  have ok_l_field : FnOk P w K mg base (L2.CX P w) 1 _ fd_l_field ["_law_e"] (spP K ci G_fieldV) := fnP F_l_field sc_l_field (fun ds o h => by unfold G_fieldV at h; split at h <;> first | rfl | cases h) (b_l_field T XA_code XA_at XA_name XA_most XA_limit XA_line XA_given) v_field
  have C_l_field : CallP P w K mg base ci 1 "_law_field" [] (spP K ci G_fieldV) := ⟨_, fd_l_field, _, [], ok_l_field, g_l_field, F_l_field.kp, (F_l_field.bindsN fun _ _ _ _ _ _ us hl => match us, hl with | [_], _ => rfl), .nil, rfl⟩
  have ok_l_named : FnOk P w K mg base (L2.CX P w) 4 _ fd_l_named ["_law_one"] (spP K ci G_excs) := fnP F_l_named sc_l_named (fun ds o h => by unfold G_excs at h; split at h <;> first | rfl | cases h) (b_l_named T EV0_InvalidNumber EV0_InvalidName EV0_InvalidSpan EV0_InvalidText EV0_InvalidSeat EV0_InvalidRecord EV0_Clash EV0_DuplicateName EV0_DuplicateNumber EV0_TooMany EV0_Full EV0_NotAThing EV0_Contradiction EV0_InvalidRule EV0_InvalidCommand EV0_InvalidLimit EV0_InvalidPage EV0_UnknownName) v_named
  have C_l_named : CallP P w K mg base ci 4 "_law_named" [] (spP K ci G_excs) := ⟨_, fd_l_named, _, [], ok_l_named, g_l_named, F_l_named.kp, (F_l_named.bindsN fun _ _ _ _ _ _ us hl => match us, hl with | [_], _ => rfl), .nil, rfl⟩
  have ok_l_bare : FnOk P w K mg base (L2.CX P w) 4 _ fd_l_bare ["_law_one"] (spP K ci G_excs) := fnP F_l_bare sc_l_bare (fun ds o h => by unfold G_excs at h; split at h <;> first | rfl | cases h) (b_l_bare T EV1_InvalidNumber EV1_InvalidName EV1_InvalidSpan EV1_InvalidText EV1_InvalidSeat EV1_InvalidRecord EV1_Clash EV1_DuplicateName EV1_DuplicateNumber EV1_TooMany EV1_Full EV1_NotAThing EV1_Contradiction EV1_InvalidRule EV1_InvalidCommand EV1_InvalidLimit EV1_InvalidPage EV1_UnknownName) v_bare
  have C_l_bare : CallP P w K mg base ci 4 "_law_bare" [] (spP K ci G_excs) := ⟨_, fd_l_bare, _, [], ok_l_bare, g_l_bare, F_l_bare.kp, (F_l_bare.bindsN fun _ _ _ _ _ _ us hl => match us, hl with | [_], _ => rfl), .nil, rfl⟩
  have ok_l_classes_of : FnOk P w K mg base (L2.CX P w) 1 _ fd_l_classes_of ["_law_e"] (spP K ci G_classes) := fnP F_l_classes_of sc_l_classes_of (fun ds o h => by unfold G_classes at h; split at h <;> first | rfl | cases h) (b_l_classes_of T XI_InvalidNumber gm_InvalidNumber XI_InvalidName gm_InvalidName XI_InvalidSpan gm_InvalidSpan XI_InvalidText gm_InvalidText XI_InvalidSeat gm_InvalidSeat XI_InvalidRecord gm_InvalidRecord XI_Clash gm_Clash XI_DuplicateName gm_DuplicateName XI_DuplicateNumber gm_DuplicateNumber XI_TooMany gm_TooMany XI_Full gm_Full XI_NotAThing gm_NotAThing XI_Contradiction gm_Contradiction XI_InvalidRule gm_InvalidRule XI_InvalidCommand gm_InvalidCommand XI_InvalidLimit gm_InvalidLimit XI_InvalidPage gm_InvalidPage XI_UnknownName gm_UnknownName) v_classes
  have C_l_classes_of : CallP P w K mg base ci 1 "_law_classes_of" [] (spP K ci G_classes) := ⟨_, fd_l_classes_of, _, [], ok_l_classes_of, g_l_classes_of, F_l_classes_of.kp, (F_l_classes_of.bindsN fun _ _ _ _ _ _ us hl => match us, hl with | [_], _ => rfl), .nil, rfl⟩
  have ok_law : FnOk P w K mg base (L2.CX P w) 6 _ fd_law ["_law_script"] (spOf K ci (fc_law 63)) := fnM F_law sc_law (fun as S ex Q h => by obtain ⟨cs, rfl, _⟩ := h; rfl) (b_law T C_l_bag C_l_pick C_l_pull C_l_named C_l_bare C_l_same C_l_field C_l_classes_of XA_code XI_NothingLeft gm_NothingLeft XI_LumpError gm_LumpError XI_Missing gm_Missing XI_ValueError XI_LookupError XI_IndexError EVN_NothingLeft EX_LumpError EX_Missing) v_law
  exact law_close ok_law
end Hd
open PySem PySem.W PySem.Calls PyProof.Rows
theorem PySem.Challenge.cw_lumplooks_k01_errors_by_themselves_holds : PySem.Challenge.rw_lumplooks_k01_errors_by_themselves.Holds := by
  w_on; o_law
  refine HandSHeadRun.head_any (r := OpenLaw.row PySem.Challenge.rw_lumplooks_k01_errors_by_themselves) (q := view (OpenLaw.row PySem.Challenge.rw_lumplooks_k01_errors_by_themselves).prog [31]) (H := Hd.hk) (ob := Hd.ob) (M := 6000) (loose := Hd.loose) (d := HandSHeadRun.topDef (OpenLaw.row PySem.Challenge.rw_lumplooks_k01_errors_by_themselves).prog 31) (kwd := []) Hd.ob_eq
    (by kernel_rfl) (fun s => by kernel_rfl) Hd.run (by kernel_rfl) (by kernel_rfl) (by kernel_rfl) (by rfl) (by first | assumption | decide +kernel) (by decide +kernel) ⟨rfl, rfl, rfl, rfl, rfl, by decide +kernel⟩ ?hw ?hc
  case hw => w_witness2
  case hc =>
    refine L2.walk_ofE (l := PySem.Challenge.rw_lumplooks_k01_errors_by_themselves) (n := 63) (k := 6) (x := "_law_script") (CX := LP.CXn) rfl (by decide) (by kernel_rfl) ⟨rfl, by decide, by decide⟩ ?F (fun _ _ _ _ z => z)
    intro w mg fa h Y G hmg0
    obtain ⟨K, KX, c⟩ := Y
    have hmg : mg ("law" : PySem.Str) = some (.ref fa) := by
      have e : (HandSHeadRun.topDef (OpenLaw.row PySem.Challenge.rw_lumplooks_k01_errors_by_themselves).prog 31).name = ("law" : PySem.Str) := by kernel_rfl
      rw [← e]
      exact hmg0
    obtain ⟨fd, hb, hF⟩ := Hd.facts (P := (PySem.Challenge.rw_lumplooks_k01_errors_by_themselves).prog) (w := w) (by kernel_rfl) (by kernel_rfl) KX G hmg c
    exact ⟨K, fd, LP.spLaw K 63, KX, hb, fun H a ns hl _ hS => ⟨a, ns, rfl, hl, hS, fun _ => rfl⟩, hF⟩
