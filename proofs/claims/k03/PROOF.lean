import PyProof.Rows.All
import Wide.All
import OpenK.AllK
import Wide.FinOn
import HandS.ForMost
import HandS.Exc
import HandS.WordsExc
import HandS.Defaults
import HandS.IsInst
import HandS.FStr
import HandS.Lambda
import HandS.ExcInit
import HandS.ExcValue
import KE.KDflt
import HandS.Walk
import HandS.Style
import HandS.Property
import HandS.Zip
import HandS.StrMore
import HandS.More
import HandS.TupAny
import HandS.MakeKwOnly
import HandS.MakeKw
import HandS.Codes
import HandS.OwnEq
import HandS.HeadHook2
import HandS.TupSets
import HandS.Wide
import HandS.Star
import HandS.SlotsOwn
import PyProof.InstNe
import PyProof.Conv_bool
import KE.GoesEnum
import HandS.ClsMeth
import HandS.Small
import HandS.SetFor
import HandS.Strs
import KE.GoesSet
import KE.GoesOver
import HandS.TupLe
import HandS.Iter
import KE.KSuper
import KE.KExcSuper
import KE.KTryMore
import HandS.ExcField
import HandS.HotCalls
import KE.KStateDown
import HandS.Words
import HandS.Head0
import HandS.Head1
import HandS.Head2
import HandS.HeadEnd
import HandS.HeadHook1
import HandS.HeadWalk
import HandS.EndTab
import KE.KUnpackStar
import PyProof.Rows.SetFrom
import HandS.Sort
import HandS.Conv
import HandS.ListEq
import PyProof.NeKinds
import HandS.SetKeys
import HandS.DictTup
import KE.KSortTupAny
import KE.GoesMore
import KE.KExcInit
import HandS.SortInts
import HandS.Dict
import HandS.DictComp
import KE.KEqDict
import HandS.GenList
import HandS.Comp
import Lean
import PySem.Challenge.RW_lumplooks_k03_letters_by_membership
set_option Elab.async false
set_option linter.all false
set_option maxRecDepth 100000
namespace LP
open PySem PySem.Spec PyProof.Rows L2
inductive D where
  | non | bl (b : Bool) | int (i : Int) | str (s : Str)
  | tup (l : List D) | lst (l : List D) | ins (c : Nat) (fs : List D) | dic (ks : List Key) (l : List D)
  /-- a function at an address, opaque -/
  | fn (a : Addr)
  /-- an error object held as a value: its class, its attributes -/
  | exc (c : Nat) (ns : List Str) (l : List D)
/-- a slot's value -/
inductive A where
  | d (x : D) | loc (k : Nat)
/-- a lambda's words, the cells that it captured -/
structure LamD where
  params : Arguments
  body : Expr
  scope : Scope
  clos : List (Str × Addr)
/-- a thing that may change -/
inductive MO where
  | lst (l : List A) | ins (c : Nat) (fs : List A) | dK (ks : List Key) (l : List A) | frz (x : D) | scr (l : List D) | gone
  /-- a table of code objects of one name; a caught error: the address, that of its dict, its attributes -/
  | tab (P : Addr) (q : Str) | exo (a dx : Addr) (fs : List (Str × D))
  /-- lambdas at addresses; a frame's slots -/
  | fnl (q : Str) (as : List Addr) (l : List LamD) | slo (σ : L2.St) (Γ : List (Option A))
def MO.live : MO → Bool
  | .lst _ => true | .ins _ _ => true | .dK _ _ => true | .tab _ _ => true | _ => false
/-- an error that was raised: its class, its own attributes -/
structure Er where
  c : Nat
  fs : List (Str × D)
abbrev Ga := List (Option A)
abbrev So := List MO
/-- classes: where each stands, the names of its attributes in their order -/
abbrev Ci := Nat → Addr × List Str
def Lw (K : PySem.W.Frag) (a : Addr) (xs : List V) : Prop :=
    ∃ (o : Obj) (its : Array Value) (n : Nat), K.lookup a = some o ∧ o.cls = .type "list" ∧ o.dict = none ∧ o.data = .seq its n ∧ its.size ≤ sizeLine ∧ Vals xs its.toList
theorem sql_iff {K : PySem.W.Frag} {H : Hp} {a : Addr} {xs : List V} : SqL K H a xs ↔ (Rd H a (.lst xs) ∨ Lw K a xs) := Iff.rfl
def Tw (K : PySem.W.Frag) (a : Addr) (xs : List V) : Prop :=
    ∃ (o : Obj) (its : Array Value) (n : Nat), K.lookup a = some o ∧ o.cls = .type "tuple" ∧ o.data = .seq its n ∧ its.size ≤ sizeLine ∧ Vals xs its.toList
theorem sqt_iff {K : PySem.W.Frag} {H : Hp} {a : Addr} {xs : List V} : SqT K H a xs ↔ (Rd H a (.tup xs) ∨ Tw K a xs) := Iff.rfl
section
variable (K : PySem.W.Frag) (ci : Ci)
mutual
def Rep (M : List Addr) (H : Hp) : D → V → Prop
  | .non, v => v = .non
  | .bl b, v => v = .bl b
  | .int i, v => v = .int i
  | .str s, v => v = .str s
  | .tup l, v => ∃ p vs, v = .ref p ∧ ((Rd H p (.tup vs) ∧ p ∉ M) ∨ Tw K p vs) ∧ Reps M H l vs
  | .lst l, v => ∃ p vs, v = .ref p ∧ (H p = some (.lst vs) ∧ p ∉ M) ∧ Reps M H l vs
  | .ins c fs, v => ∃ p dx vs, v = .ref p ∧ H p = some (.ins (ci c).1 dx ((ci c).2.zip vs)) ∧ p ∉ M ∧ vs.length = (ci c).2.length ∧ Reps M H fs vs
  | .dic ks l, v => ∃ p vs, v = .ref p ∧ Rd H p (.dK (ks.zip vs)) ∧ p ∉ M ∧ vs.length = ks.length ∧ Reps M H l vs
  | .fn a, v => v = .ref a
  | .exc c ns l, v => ∃ p vs, v = .ref p ∧ p ∉ M ∧ ((ns = [] ∧ H p = some (ExO (.ref (ci c).1) p)) ∨ ∃ dx, H p = some (exo p (ci c).1 (some dx)) ∧ H dx = some (exd dx (ns.zip vs)) ∧ dx ∉ M) ∧ vs.length = ns.length ∧ Reps M H l vs
def Reps (M : List Addr) (H : Hp) : List D → List V → Prop
  | [], vs => vs = []
  | d :: ds, vs => ∃ v r, vs = v :: r ∧ Rep M H d v ∧ Reps M H ds r
end
end
section
variable {K : PySem.W.Frag} {ci : Ci} {M M' : List Addr} {H H' : Hp}
theorem rd_mono {p : Addr} {u : HO} (h : ∀ a o, H a = some o → a ∉ M → H' a = some o ∧ a ∉ M') (hp : p ∉ M) (r : Rd H p u) : Rd H' p u ∧ p ∉ M' := by
  rcases r with r | ⟨o, r⟩
  · exact ⟨.inl (h _ _ r hp).1, (h _ _ r hp).2⟩
  · exact ⟨.inr ⟨o, (h _ _ r hp).1⟩, (h _ _ r hp).2⟩
mutual
theorem Rep.mono (h : ∀ a o, H a = some o → a ∉ M → H' a = some o ∧ a ∉ M') : ∀ (d : D) (v : V), Rep K ci M H d v → Rep K ci M' H' d v
  | .non, v, r => r
  | .bl b, v, r => r
  | .int i, v, r => r
  | .str s, v, r => r
  | .tup l, v, r => by
    rw [Rep] at r ⊢
    obtain ⟨p, vs, e, q, rs⟩ := r
    refine ⟨p, vs, e, ?_, Reps.mono h l vs rs⟩
    rcases q with ⟨q, n⟩ | q
    · exact .inl (rd_mono h n q)
    · exact .inr q
  | .lst l, v, r => by
    rw [Rep] at r ⊢
    obtain ⟨p, vs, e, q, rs⟩ := r
    exact ⟨p, vs, e, h _ _ q.1 q.2, Reps.mono h l vs rs⟩
  | .ins c fs, v, r => by
    rw [Rep] at r ⊢
    obtain ⟨p, dx, vs, e, q, n, z, rs⟩ := r
    exact ⟨p, dx, vs, e, (h _ _ q n).1, (h _ _ q n).2, z, Reps.mono h fs vs rs⟩
  | .dic ks l, v, r => by
    rw [Rep] at r ⊢
    obtain ⟨p, vs, e, q, n, z, rs⟩ := r
    exact ⟨p, vs, e, (rd_mono h n q).1, (rd_mono h n q).2, z, Reps.mono h l vs rs⟩
  | .fn a, v, r => by rw [Rep] at r ⊢; exact r
  | .exc c ns l, v, r => by
    rw [Rep] at r ⊢
    obtain ⟨p, vs, e, n, q, z, rs⟩ := r
    have hp : ∃ o, H p = some o := by
      rcases q with ⟨_, q⟩ | ⟨dx, q, _⟩ <;> exact ⟨_, q⟩
    obtain ⟨o, ho⟩ := hp
    refine ⟨p, vs, e, (h _ _ ho n).2, ?_, z, Reps.mono h l vs rs⟩
    rcases q with ⟨e0, q⟩ | ⟨dx, q1, q2, q3⟩
    · exact .inl ⟨e0, (h _ _ q n).1⟩
    · exact .inr ⟨dx, (h _ _ q1 n).1, (h _ _ q2 q3).1, (h _ _ q2 q3).2⟩
theorem Reps.mono (h : ∀ a o, H a = some o → a ∉ M → H' a = some o ∧ a ∉ M') : ∀ (ds : List D) (vs : List V), Reps K ci M H ds vs → Reps K ci M' H' ds vs
  | [], vs, r => by rw [Reps] at r ⊢; exact r
  | d :: ds, vs, r => by
    rw [Reps] at r ⊢
    obtain ⟨v, rr, e, r1, r2⟩ := r
    exact ⟨v, rr, e, Rep.mono h d v r1, Reps.mono h ds rr r2⟩
end
theorem Reps.length : ∀ {ds : List D} {vs : List V}, Reps K ci M H ds vs → ds.length = vs.length
  | [], vs, r => by rw [Reps] at r; subst r; rfl
  | d :: ds, vs, r => by
    rw [Reps] at r
    obtain ⟨v, rr, rfl, r1, r2⟩ := r
    simp [Reps.length r2]
theorem Reps.get : ∀ {ds : List D} {vs : List V} {i : Nat} {v : V}, Reps K ci M H ds vs → vs[i]? = some v → ∃ d, ds[i]? = some d ∧ Rep K ci M H d v
  | [], vs, i, v, r, e => by rw [Reps] at r; rw [r] at e; simp at e
  | d :: ds, vs, i, v, r, e => by
    rw [Reps] at r
    obtain ⟨v0, rr, rfl, r1, r2⟩ := r
    cases i with
    | zero => simp at e; subst e; exact ⟨d, rfl, r1⟩
    | succ i => simp at e; simpa using Reps.get r2 e
theorem Reps.getD : ∀ {ds : List D} {vs : List V} {i : Nat} {d : D}, Reps K ci M H ds vs → ds[i]? = some d → ∃ v, vs[i]? = some v ∧ Rep K ci M H d v := fun {ds vs i d} r e => by
  have hi : i < vs.length := by rw [← r.length]; exact (List.getElem?_eq_some_iff.mp e).1
  obtain ⟨d', e', r'⟩ := r.get (i := i) (v := vs[i]) (by simp [hi])
  rw [e] at e'; cases e'
  exact ⟨_, by simp [hi], r'⟩
theorem Reps.append : ∀ {ds es : List D} {vs ws : List V}, Reps K ci M H ds vs → Reps K ci M H es ws → Reps K ci M H (ds ++ es) (vs ++ ws)
  | [], es, vs, ws, r, q => by rw [Reps] at r; subst r; exact q
  | d :: ds, es, vs, ws, r, q => by
    rw [Reps] at r
    obtain ⟨v0, rr, rfl, r1, r2⟩ := r
    show Reps K ci M H (d :: (ds ++ es)) (v0 :: (rr ++ ws))
    rw [Reps]
    exact ⟨v0, _, rfl, r1, Reps.append r2 q⟩
theorem Reps.take : ∀ (n : Nat) {ds : List D} {vs : List V}, Reps K ci M H ds vs → Reps K ci M H (ds.take n) (vs.take n)
  | 0, ds, vs, r => by simp [Reps]
  | n + 1, [], vs, r => by rw [Reps] at r; subst r; simp [Reps]
  | n + 1, d :: ds, vs, r => by
    rw [Reps] at r
    obtain ⟨v0, rr, rfl, r1, r2⟩ := r
    show Reps K ci M H (d :: ds.take n) (v0 :: rr.take n)
    rw [Reps]
    exact ⟨v0, _, rfl, r1, Reps.take n r2⟩
theorem Reps.drop : ∀ (n : Nat) {ds : List D} {vs : List V}, Reps K ci M H ds vs → Reps K ci M H (ds.drop n) (vs.drop n)
  | 0, ds, vs, r => r
  | n + 1, [], vs, r => by rw [Reps] at r; subst r; simp [Reps]
  | n + 1, d :: ds, vs, r => by
    rw [Reps] at r
    obtain ⟨v0, rr, rfl, r1, r2⟩ := r
    exact Reps.drop n r2
theorem Reps.nil : Reps K ci M H [] [] := by rw [Reps]
theorem Reps.cons {d : D} {v : V} {ds : List D} {vs : List V} (r : Rep K ci M H d v) (q : Reps K ci M H ds vs) : Reps K ci M H (d :: ds) (v :: vs) := by
  rw [Reps]; exact ⟨v, vs, rfl, r, q⟩
end
/-- the object at a is o -/
def FunX (a : Addr) (o : Obj) : HO := .ext fun h => h.get? a = some o
/-- a lambda stands at f -/
def LamAt (M : List Addr) (H : Hp) (q : Str) (f : Addr) (d : LamD) : Prop := ∃ (doc pm ctv dV : Value) (c' : Addr), H f = some (FunX f (PySem.W.kdv_obj "<lambda>" q d.params (.expr d.body) d.scope d.clos dV doc pm c' ctv)) ∧ f ∉ M ∧ H c' = some (LamX.CodeO c' q) ∧ c' ∉ M ∧
  ((d.params.defaults = [] ∧ dV = .none) ∨ (d.params.defaults ≠ [] ∧ ∃ t tk, dV = .ref t ∧ H t = some (FunX t (PySem.W.kdv_tup [.int 0 tk])) ∧ t ∉ M))
def LamsAt (M : List Addr) (H : Hp) (q : Str) : List Addr → List LamD → Prop
  | [], [] => True
  | f :: fs, d :: ds => LamAt M H q f d ∧ LamsAt M H q fs ds
  | _, _ => False
section
variable (K : PySem.W.Frag) (ci : Ci)
def ARep (ρ M : List Addr) (H : Hp) : A → V → Prop
  | .d x, v => Rep K ci M H x v
  | .loc k, v => ∃ p, ρ[k]? = some p ∧ v = .ref p
def AReps (ρ M : List Addr) (H : Hp) : List A → List V → Prop
  | [], vs => vs = []
  | a :: as, vs => ∃ v r, vs = v :: r ∧ ARep K ci ρ M H a v ∧ AReps ρ M H as r
def MRep (ρ M : List Addr) (H : Hp) (p : Addr) : MO → Prop
  | .lst l => ∃ vs, H p = some (.lst vs) ∧ AReps K ci ρ M H l vs
  | .ins c fs => ∃ dx vs, H p = some (.ins (ci c).1 dx ((ci c).2.zip vs)) ∧ vs.length ≤ (ci c).2.length ∧ AReps K ci ρ M H fs vs
  | .dK ks l => ∃ vs, H p = some (.dK (ks.zip vs)) ∧ vs.length = ks.length ∧ AReps K ci ρ M H l vs
  | .frz d => Rep K ci M H d (.ref p)
  | .scr l => ∃ vs, ((Rd H p (.lst vs) ∧ p ∉ M) ∨ Lw K p vs) ∧ Reps K ci M H l vs
  | .gone => True
  | .tab P q => p = P ∧ ∃ ps, H p = some (.tbl ps) ∧ TriplesOk ps.toList ∧ ∀ (pos : Pos) (cv : Value), codeAmong pos ps.toList = some cv → ∃ c, cv = .ref c ∧ H c = some (LamX.CodeO c q) ∧ c ∉ M
  | .exo a dx fs => p = a ∧ ∃ vs, H dx = some (.xd ((fs.map (·.1)).zip vs)) ∧ dx ∉ M ∧ vs.length = fs.length ∧ Reps K ci M H (fs.map (·.2)) vs
  | .fnl q fs l => LamsAt M H q fs l
  | .slo σ Γ => Γ.length = σ.length ∧ ∀ (i : Nat) (a : A), Γ[i]? = some (some a) → ∃ v, σ[i]? = some (some v) ∧ ARep K ci ρ M H a v
end
def mutA : List Addr → So → List Addr
  | p :: ρ, o :: S => if o.live = true then p :: mutA ρ S else mutA ρ S
  | _, _ => []
section
variable {K : PySem.W.Frag} {ci : Ci} {ρ ρ' M M' : List Addr} {H H' : Hp}
theorem ARep.mono (h : ∀ a o, H a = some o → a ∉ M → H' a = some o ∧ a ∉ M') (hρ : ρ <+: ρ') : ∀ {a : A} {v : V}, ARep K ci ρ M H a v → ARep K ci ρ' M' H' a v
  | .d x, v, r => Rep.mono h x v r
  | .loc k, v, ⟨p, e, q⟩ => by
    obtain ⟨t, rfl⟩ := hρ
    refine ⟨p, ?_, q⟩
    rw [List.getElem?_append_left (List.getElem?_eq_some_iff.mp e).1]
    exact e
theorem AReps.mono (h : ∀ a o, H a = some o → a ∉ M → H' a = some o ∧ a ∉ M') (hρ : ρ <+: ρ') : ∀ {as : List A} {vs : List V}, AReps K ci ρ M H as vs → AReps K ci ρ' M' H' as vs
  | [], vs, r => r
  | a :: as, vs, ⟨v, rr, e, r1, r2⟩ => ⟨v, rr, e, r1.mono h hρ, AReps.mono h hρ r2⟩
theorem AReps.length : ∀ {ds : List A} {vs : List V}, AReps K ci ρ M H ds vs → ds.length = vs.length
  | [], vs, r => by rw [AReps] at r; subst r; rfl
  | d :: ds, vs, ⟨v, rr, e, r1, r2⟩ => by subst e; simp [AReps.length r2]
theorem AReps.get : ∀ {ds : List A} {vs : List V} {i : Nat} {v : V}, AReps K ci ρ M H ds vs → vs[i]? = some v → ∃ d, ds[i]? = some d ∧ ARep K ci ρ M H d v
  | [], vs, i, v, r, e => by rw [AReps] at r; rw [r] at e; simp at e
  | d :: ds, vs, i, v, ⟨v0, rr, e0, r1, r2⟩, e => by
    subst e0
    cases i with
    | zero => simp at e; subst e; exact ⟨d, rfl, r1⟩
    | succ i => simp at e; simpa using AReps.get r2 e
theorem AReps.getA {ds : List A} {vs : List V} {i : Nat} {d : A} (r : AReps K ci ρ M H ds vs) (e : ds[i]? = some d) : ∃ v, vs[i]? = some v ∧ ARep K ci ρ M H d v := by
  have hi : i < vs.length := by rw [← r.length]; exact (List.getElem?_eq_some_iff.mp e).1
  obtain ⟨d', e', r'⟩ := r.get (i := i) (v := vs[i]) (by simp [hi])
  rw [e] at e'; cases e'
  exact ⟨_, by simp [hi], r'⟩
theorem AReps.set {a : A} {v : V} (q : ARep K ci ρ M H a v) : ∀ {ds : List A} {vs : List V} (i : Nat), AReps K ci ρ M H ds vs → AReps K ci ρ M H (ds.set i a) (vs.set i v)
  | [], vs, i, r => by rw [AReps] at r; subst r; simp [AReps]
  | d :: ds, vs, 0, ⟨v0, rr, e0, r1, r2⟩ => by subst e0; exact ⟨v, rr, rfl, q, r2⟩
  | d :: ds, vs, i + 1, ⟨v0, rr, e0, r1, r2⟩ => by subst e0; exact ⟨v0, _, rfl, r1, AReps.set q i r2⟩
theorem AReps.append : ∀ {ds es : List A} {vs ws : List V}, AReps K ci ρ M H ds vs → AReps K ci ρ M H es ws → AReps K ci ρ M H (ds ++ es) (vs ++ ws)
  | [], es, vs, ws, r, q => by rw [AReps] at r; subst r; exact q
  | d :: ds, es, vs, ws, ⟨v0, rr, e0, r1, r2⟩, q => by subst e0; exact ⟨v0, _, rfl, r1, AReps.append r2 q⟩
/-- data alone -/
theorem AReps.data : ∀ {ds : List D} {vs : List V}, AReps K ci ρ M H (ds.map A.d) vs → Reps K ci M H ds vs
  | [], vs, r => by rw [Reps]; exact r
  | d :: ds, vs, ⟨v0, rr, e0, r1, r2⟩ => by rw [Reps]; exact ⟨v0, rr, e0, r1, AReps.data r2⟩
theorem AReps.ofData : ∀ {ds : List D} {vs : List V}, Reps K ci M H ds vs → AReps K ci ρ M H (ds.map A.d) vs
  | [], vs, r => by rw [Reps] at r; exact r
  | d :: ds, vs, r => by
    rw [Reps] at r
    obtain ⟨v0, rr, e0, r1, r2⟩ := r
    exact ⟨v0, rr, e0, r1, AReps.ofData r2⟩
theorem LamAt.mono {q : Str} {f : Addr} {d : LamD} (h : ∀ a o, H a = some o → a ∉ M → H' a = some o ∧ a ∉ M') : LamAt M H q f d → LamAt M' H' q f d := by
  rintro ⟨doc, pm, ctv, dV, c', h1, h2, h3, h4, h5⟩
  refine ⟨doc, pm, ctv, dV, c', (h _ _ h1 h2).1, (h _ _ h1 h2).2, (h _ _ h3 h4).1, (h _ _ h3 h4).2, h5.imp id ?_⟩
  rintro ⟨k, t, tk, e, h6, h7⟩
  exact ⟨k, t, tk, e, (h _ _ h6 h7).1, (h _ _ h6 h7).2⟩
theorem LamsAt.mono {q : Str} (h : ∀ a o, H a = some o → a ∉ M → H' a = some o ∧ a ∉ M') : ∀ {fs : List Addr} {ds : List LamD}, LamsAt M H q fs ds → LamsAt M' H' q fs ds
  | [], [], _ => trivial
  | [], _ :: _, z => z.elim
  | _ :: _, [], z => z.elim
  | f :: fs, d :: ds, ⟨a, b⟩ => ⟨a.mono h, b.mono h⟩
theorem MRep.mono (h : ∀ a o, H a = some o → a ∉ M → H' a = some o ∧ a ∉ M') (hρ : ρ <+: ρ') {p : Addr} {o : MO} (hp : o.live = true → H' p = H p) (r : MRep K ci ρ M H p o) : MRep K ci ρ' M' H' p o := by
  cases o with
  | lst l => obtain ⟨vs, e, q⟩ := r; exact ⟨vs, by rw [hp rfl]; exact e, q.mono h hρ⟩
  | ins c fs => obtain ⟨dx, vs, e, z, q⟩ := r; exact ⟨dx, vs, by rw [hp rfl]; exact e, z, q.mono h hρ⟩
  | dK ks l => obtain ⟨vs, e, z, q⟩ := r; exact ⟨vs, by rw [hp rfl]; exact e, z, q.mono h hρ⟩
  | frz d => exact Rep.mono h d _ r
  | scr l =>
    obtain ⟨vs, e, q⟩ := r
    refine ⟨vs, ?_, Reps.mono h l vs q⟩
    rcases e with ⟨e | ⟨o, e⟩, n⟩ | e
    · exact .inl ⟨.inl (h _ _ e n).1, (h _ _ e n).2⟩
    · exact .inl ⟨.inr ⟨o, (h _ _ e n).1⟩, (h _ _ e n).2⟩
    · exact .inr e
  | gone => trivial
  | tab P q =>
    obtain ⟨e0, ps, e, t, z⟩ := r
    refine ⟨e0, ps, by rw [hp rfl]; exact e, t, fun pos cv hc => ?_⟩
    obtain ⟨c, e1, e2, e3⟩ := z pos cv hc
    exact ⟨c, e1, (h _ _ e2 e3).1, (h _ _ e2 e3).2⟩
  | exo a dx fs =>
    obtain ⟨e0, vs, e, n, z, q⟩ := r
    exact ⟨e0, vs, (h _ _ e n).1, (h _ _ e n).2, z, Reps.mono h _ vs q⟩
  | fnl q fs l => exact LamsAt.mono h r
  | slo σ Γ =>
    refine ⟨r.1, fun i a e => ?_⟩
    obtain ⟨v, e1, q⟩ := r.2 i a e
    exact ⟨v, e1, q.mono h hρ⟩
theorem MRep.there {p : Addr} {o : MO} (hl : o.live = true) (r : MRep K ci ρ M H p o) : ∃ u, H p = some u ∧ True := by
  cases o with
  | lst l => obtain ⟨vs, e, q⟩ := r; exact ⟨_, e, trivial⟩
  | ins c fs => obtain ⟨dx, vs, e, z, q⟩ := r; exact ⟨_, e, trivial⟩
  | dK ks l => obtain ⟨vs, e, z, q⟩ := r; exact ⟨_, e, trivial⟩
  | frz d => cases hl
  | scr l => cases hl
  | gone => cases hl
  | tab P q => obtain ⟨_, ps, e, _⟩ := r; exact ⟨_, e, trivial⟩
  | exo a dx fs => cases hl
  | fnl q fs l => cases hl
  | slo σ Γ => cases hl
theorem mem_mutA : ∀ {ρ : List Addr} {S : So} {p : Addr}, p ∈ mutA ρ S → ∃ (k : Nat) (o : MO), ρ[k]? = some p ∧ S[k]? = some o ∧ o.live = true
  | [], _, p, h => by simp [mutA] at h
  | _ :: _, [], p, h => by simp [mutA] at h
  | q :: ρ, o :: S, p, h => by
    unfold mutA at h
    split at h
    · rename_i hl
      rcases List.mem_cons.mp h with rfl | h
      · exact ⟨0, o, rfl, rfl, hl⟩
      · obtain ⟨k, o', e1, e2, e3⟩ := mem_mutA h
        exact ⟨k + 1, o', by simpa using e1, by simpa using e2, e3⟩
    · obtain ⟨k, o', e1, e2, e3⟩ := mem_mutA h
      exact ⟨k + 1, o', by simpa using e1, by simpa using e2, e3⟩
theorem mutA_mem : ∀ {ρ : List Addr} {S : So} {p : Addr} {k : Nat} {o : MO}, ρ[k]? = some p → S[k]? = some o → o.live = true → p ∈ mutA ρ S
  | [], _, p, k, o, e1, e2, h => by simp at e1
  | _ :: _, [], p, k, o, e1, e2, h => by simp at e2
  | q :: ρ, o' :: S, p, k, o, e1, e2, h => by
    unfold mutA
    cases k with
    | zero => simp at e1 e2; subst e1 e2; rw [if_pos h]; exact List.mem_cons_self
    | succ k =>
      have := mutA_mem (p := p) (k := k) (o := o) (ρ := ρ) (S := S) (by simpa using e1) (by simpa using e2) h
      split
      · exact List.mem_cons_of_mem _ this
      · exact this
theorem mutA_append : ∀ {ρ : List Addr} {S : So} {p : Addr} {o : MO}, ρ.length = S.length → mutA (ρ ++ [p]) (S ++ [o]) = mutA ρ S ++ (if o.live = true then [p] else [])
  | [], [], p, o, _ => by simp [mutA]
  | [], _ :: _, p, o, h => by simp at h
  | _ :: _, [], p, o, h => by simp at h
  | q :: ρ, o' :: S, p, o, h => by
    have := mutA_append (ρ := ρ) (S := S) (p := p) (o := o) (by simpa using h)
    simp only [List.cons_append, mutA, this]
    split <;> simp
theorem mutA_set_same : ∀ {ρ : List Addr} {S : So} {k : Nat} {o o' : MO}, S[k]? = some o → o.live = o'.live → mutA ρ (S.set k o') = mutA ρ S
  | [], S, k, o, o', _, _ => by simp [mutA]
  | _ :: _, [], k, o, o', h, _ => by simp at h
  | q :: ρ, a :: S, 0, o, o', h, e => by
    simp at h; subst h
    simp only [List.set_cons_zero, mutA, e]
  | q :: ρ, a :: S, k + 1, o, o', h, e => by
    simp only [List.set_cons_succ, mutA]
    rw [mutA_set_same (k := k) (o := o) (by simpa using h) e]
/-- one thing less that may change -/
theorem mutA_set_sub : ∀ {ρ : List Addr} {S : So} {k : Nat} {o' : MO}, o'.live = false → (mutA ρ (S.set k o')).Sublist (mutA ρ S)
  | [], S, k, o', _ => by simp [mutA]
  | _ :: _, [], k, o', _ => by simp [mutA]
  | q :: ρ, a :: S, 0, o', e => by
    simp only [List.set_cons_zero, mutA, e]
    simp only [Bool.false_eq_true, ↓reduceIte]
    split
    · exact List.sublist_cons_self _ _
    · exact List.Sublist.refl _
  | q :: ρ, a :: S, k + 1, o', e => by
    simp only [List.set_cons_succ, mutA]
    split
    · exact (mutA_set_sub e).cons₂ _
    · exact mutA_set_sub e
theorem mutA_set_gone : ∀ {ρ : List Addr} {S : So} {k : Nat} {p : Addr} {o' : MO}, (mutA ρ S).Nodup → ρ[k]? = some p → o'.live = false → (∃ o, S[k]? = some o ∧ o.live = true) → p ∉ mutA ρ (S.set k o')
  | [], S, k, p, o', _, e, _, _ => by simp at e
  | _ :: _, [], k, p, o', _, _, _, ⟨o, h, _⟩ => by simp at h
  | q :: ρ, a :: S, 0, p, o', nd, e, hl, ⟨o, h, ho⟩ => by
    simp at e h; subst e h
    simp only [List.set_cons_zero, mutA, hl, ho, ↓reduceIte, Bool.false_eq_true] at nd ⊢
    exact (List.nodup_cons.mp nd).1
  | q :: ρ, a :: S, k + 1, p, o', nd, e, hl, ⟨o, h, ho⟩ => by
    have e' : ρ[k]? = some p := by simpa using e
    have h' : S[k]? = some o := by simpa using h
    simp only [List.set_cons_succ, mutA] at nd ⊢
    split at nd
    · rename_i hq
      simp only [hq, ↓reduceIte]
      intro hm
      rcases List.mem_cons.mp hm with r | r
      · subst r; exact (List.nodup_cons.mp nd).1 (mutA_mem e' h' ho)
      · exact mutA_set_gone (List.nodup_cons.mp nd).2 e' hl ⟨o, h', ho⟩ r
    · rename_i hq
      simp only [hq]
      exact mutA_set_gone nd e' hl ⟨o, h', ho⟩
end
end LP
namespace LP
open PySem PySem.Spec PyProof.Rows L2
/-- a def's entry: the heap, the things that may change; ex: things of others that may change, but not here -/
structure Fr (K : PySem.W.Frag) (ci : Ci) where
  H : Hp
  ρ : List Addr
  M : List Addr
  ex : List Addr
abbrev mu {K : PySem.W.Frag} {ci : Ci} (F : Fr K ci) (ρ : List Addr) (S : So) : List Addr := mutA ρ S ++ F.ex
structure RelR {K : PySem.W.Frag} {ci : Ci} (F : Fr K ci) (ρ : List Addr) (T : List (A × V)) (Γ : Ga) (S : So) (σ : L2.St) (H : Hp) : Prop where
  pre : F.ρ <+: ρ
  len : ρ.length = S.length
  nd : (mutA ρ S).Nodup
  st : ∀ (k : Nat) (p : Addr) (o : MO), ρ[k]? = some p → S[k]? = some o → MRep K ci ρ (mu F ρ S) H p o
  gs : Γ.length = σ.length
  gl : ∀ (i : Nat) (a : A), Γ[i]? = some (some a) → ∃ v, σ[i]? = some (some v) ∧ ARep K ci ρ (mu F ρ S) H a v
  tl : ∀ q ∈ T, ARep K ci ρ (mu F ρ S) H q.1 q.2
  ext : ∀ a o, F.H a = some o → a ∉ F.M → H a = some o
  fr : ∀ p ∈ mutA ρ S, p ∈ F.M ∨ F.H p = none
  fo : ∀ p ∈ F.ex, p ∉ F.M ∧ F.H p ≠ none
def Rel {K : PySem.W.Frag} {ci : Ci} (F : Fr K ci) (T : List (A × V)) (Γ : Ga) (S : So) (σ : L2.St) (H : Hp) : Prop := ∃ ρ, RelR F ρ T Γ S σ H
section
variable {K : PySem.W.Frag} {ci : Ci} {F : Fr K ci} {ρ : List Addr} {T : List (A × V)} {Γ : Ga} {S : So} {σ : L2.St} {H H' : Hp} {p : Addr} {o : HO}
theorem RelR.dj (r : RelR F ρ T Γ S σ H) {p : Addr} (h : p ∈ mutA ρ S) : p ∉ F.ex := fun z => by
  rcases r.fr p h with q | q
  · exact (r.fo p z).1 q
  · exact (r.fo p z).2 q
theorem RelR.tracked (r : RelR F ρ T Γ S σ H) {p : Addr} (h : p ∈ mutA ρ S) : ∃ u, H p = some u ∧ True := by
  obtain ⟨k, o, e1, e2, e3⟩ := mem_mutA h
  exact (r.st k p o e1 e2).there e3
theorem RelR.freshM (r : RelR F ρ T Γ S σ H) {p : Addr} (h : H p = none) : p ∉ mutA ρ S := fun hm => by
  obtain ⟨u, e, _⟩ := r.tracked hm
  rw [h] at e; cases e
theorem RelR.fresh (r : RelR F ρ T Γ S σ H) {p : Addr} (h : H p = none) : p ∉ mu F ρ S := fun hm => by
  rcases List.mem_append.mp hm with hm | hm
  · exact r.freshM h hm
  · have := r.fo p hm
    cases e : F.H p with
    | none => exact this.2 e
    | some u => rw [r.ext p u e this.1] at h; cases h
/-- all that the relation says, from one store and heap to another -/
theorem RelR.move (r : RelR F ρ T Γ S σ H) {ρ' : List Addr} {S' : So} (hρ : ρ <+: ρ') (h1 : ρ'.length = S'.length) (h2 : (mutA ρ' S').Nodup)
    (h : ∀ a o, H a = some o → a ∉ mu F ρ S → H' a = some o ∧ a ∉ mu F ρ' S')
    (h3 : ∀ (k : Nat) (p : Addr) (o : MO), ρ'[k]? = some p → S'[k]? = some o → MRep K ci ρ' (mu F ρ' S') H' p o)
    (h4 : ∀ a o, F.H a = some o → a ∉ F.M → H' a = some o) (h5 : ∀ p ∈ mutA ρ' S', p ∈ F.M ∨ F.H p = none) : RelR F ρ' T Γ S' σ H' where
  pre := r.pre.trans hρ
  len := h1
  nd := h2
  st := h3
  gs := r.gs
  gl := fun i a e => by
    obtain ⟨v, e1, e2⟩ := r.gl i a e
    exact ⟨v, e1, e2.mono h hρ⟩
  tl := fun q hq => (r.tl q hq).mono h hρ
  ext := h4
  fr := h5
  fo := r.fo
/-- a new thing that never changes -/
theorem RelR.alloc (r : RelR F ρ T Γ S σ H) (hp : H p = none) : RelR F ρ T Γ S σ (upd H p o) := by
  have hm := r.freshM hp
  have hh : ∀ a u, H a = some u → a ∉ mu F ρ S → (upd H p o) a = some u ∧ a ∉ mu F ρ S := fun a u e n => ⟨by rw [upd_ne (ne_of_none e hp)]; exact e, n⟩
  refine r.move (List.prefix_refl _) r.len r.nd hh (fun k q u e1 e2 => (r.st k q u e1 e2).mono hh (List.prefix_refl _) fun hl => ?_) (fun a u e n => ?_) r.fr
  · rw [upd_ne]
    intro z; subst z
    exact hm (mutA_mem e1 e2 hl)
  · rw [upd_ne (ne_of_none (r.ext a u e n) hp)]
    exact r.ext a u e n
theorem RelR.back (r : RelR F ρ T Γ S σ H) (hp : H p = none) : p ∉ F.M → F.H p = none := fun n => by
  cases e : F.H p with
  | none => rfl
  | some u => rw [r.ext p u e n] at hp; cases hp
theorem mu_app {p : Addr} {mo : MO} (h : ρ.length = S.length) (hl : mo.live = true) {a : Addr} : a ∈ mu F (ρ ++ [p]) (S ++ [mo]) ↔ a ∈ mu F ρ S ∨ a = p := by
  show a ∈ mutA (ρ ++ [p]) (S ++ [mo]) ++ F.ex ↔ a ∈ mutA ρ S ++ F.ex ∨ a = p
  rw [mutA_append h, if_pos hl]
  simp only [List.mem_append, List.mem_cons, List.not_mem_nil, or_false]
  constructor
  · rintro ((h | h) | h)
    · exact .inl (.inl h)
    · exact .inr h
    · exact .inl (.inr h)
  · rintro ((h | h) | h)
    · exact .inl (.inl h)
    · exact .inr h
    · exact .inl (.inr h)
/-- a new thing that may change -/
theorem RelR.allocM (r : RelR F ρ T Γ S σ H) (hp : H p = none) {mo : MO} (hl : mo.live = true)
    (hm : MRep K ci (ρ ++ [p]) (mu F (ρ ++ [p]) (S ++ [mo])) (upd H p o) p mo) : RelR F (ρ ++ [p]) T Γ (S ++ [mo]) σ (upd H p o) := by
  have hf := r.freshM hp
  have em : mutA (ρ ++ [p]) (S ++ [mo]) = mutA ρ S ++ [p] := by rw [mutA_append r.len, if_pos hl]
  have hh : ∀ a u, H a = some u → a ∉ mu F ρ S → (upd H p o) a = some u ∧ a ∉ mu F (ρ ++ [p]) (S ++ [mo]) := fun a u e n => by
    have ne : a ≠ p := ne_of_none e hp
    refine ⟨by rw [upd_ne ne]; exact e, fun z => ?_⟩
    rcases (mu_app (F := F) r.len hl).mp z with z | z
    · exact n z
    · exact ne z
  refine r.move (List.prefix_append _ _) (by simp [r.len]) ?_ hh (fun k q u e1 e2 => ?_) (fun a u e n => ?_) fun q hq => ?_
  · rw [em]
    refine List.nodup_append.mpr ⟨r.nd, by simp, fun a ha b hb => ?_⟩
    simp at hb; subst hb
    intro z; subst z; exact hf ha
  · by_cases hk : k < S.length
    · rw [List.getElem?_append_left (by rw [r.len]; exact hk)] at e1
      rw [List.getElem?_append_left hk] at e2
      refine (r.st k q u e1 e2).mono hh (List.prefix_append _ _) fun hl => ?_
      rw [upd_ne]
      intro z; subst z
      exact hf (mutA_mem e1 e2 hl)
    · have hk2 : k = S.length := by
        have := (List.getElem?_eq_some_iff.mp e2).1
        simp at this
        omega
      subst hk2
      rw [← r.len] at e1
      simp at e1 e2
      subst e1 e2
      exact hm
  · rw [upd_ne (ne_of_none (r.ext a u e n) hp)]
    exact r.ext a u e n
  · rw [em] at hq
    rcases List.mem_append.mp hq with hq | hq
    · exact r.fr q hq
    · simp at hq; subst hq
      by_cases hM : q ∈ F.M
      · exact .inl hM
      · exact .inr (r.back hp hM)
theorem nodup_places : ∀ {ρ : List Addr} {S : So} {p : Addr} {i j : Nat} {o u : MO}, (mutA ρ S).Nodup → ρ[i]? = some p → S[i]? = some o → o.live = true → ρ[j]? = some p → S[j]? = some u → u.live = true → i = j := by
  intro ρ
  induction ρ with
  | nil => intro S p i j o u _ e; simp at e
  | cons q ρ ih =>
    intro S p i j o u nd e1 e2 h1 e3 e4 h2
    cases S with
    | nil => simp at e2
    | cons a S =>
      cases i with
      | zero =>
        cases j with
        | zero => rfl
        | succ j =>
          simp at e1 e2; subst e1 e2
          simp only [mutA, h1, ↓reduceIte] at nd
          exact absurd (mutA_mem (by simpa using e3) (by simpa using e4) h2) (List.nodup_cons.mp nd).1
      | succ i =>
        cases j with
        | zero =>
          simp at e3 e4; subst e3 e4
          simp only [mutA, h2, ↓reduceIte] at nd
          exact absurd (mutA_mem (by simpa using e1) (by simpa using e2) h1) (List.nodup_cons.mp nd).1
        | succ j =>
          have nd' : (mutA ρ S).Nodup := by
            simp only [mutA] at nd
            split at nd
            · exact (List.nodup_cons.mp nd).2
            · exact nd
          rw [ih (S := S) (i := i) (j := j) (p := p) (o := o) (u := u) nd' (by simpa using e1) (by simpa using e2) h1 (by simpa using e3) (by simpa using e4) h2]
/-- a thing changes -/
theorem RelR.write (r : RelR F ρ T Γ S σ H) {k : Nat} {mo mo' : MO} (e1 : ρ[k]? = some p) (e2 : S[k]? = some mo) (hl : mo.live = true) (hl' : mo'.live = true)
    (hm : MRep K ci ρ (mu F ρ S) (upd H p o) p mo') : RelR F ρ T Γ (S.set k mo') σ (upd H p o) := by
  have em : mutA ρ (S.set k mo') = mutA ρ S := mutA_set_same e2 (by rw [hl, hl'])
  have em2 : mu F ρ (S.set k mo') = mu F ρ S := by show mutA _ _ ++ F.ex = mutA _ _ ++ F.ex; rw [em]
  have hp := mutA_mem e1 e2 hl
  have hpm : p ∈ mu F ρ S := List.mem_append_left _ hp
  have hh : ∀ a u, H a = some u → a ∉ mu F ρ S → (upd H p o) a = some u ∧ a ∉ mu F ρ (S.set k mo') := fun a u e n => by
    rw [em2]
    refine ⟨?_, n⟩
    rw [upd_ne]
    · exact e
    · intro z; subst z; exact n hpm
  refine r.move (List.prefix_refl _) (by simp [r.len]) (by rw [em]; exact r.nd) hh (fun j q u q1 q2 => ?_) (fun a u e n => ?_) (by rw [em]; exact r.fr)
  · by_cases hj : j = k
    · subst hj
      rw [e1] at q1; cases q1
      rw [List.getElem?_set_self (List.getElem?_eq_some_iff.mp e2).1] at q2
      cases q2
      rw [em2]
      exact hm
    · rw [List.getElem?_set_ne (fun z => hj z.symm)] at q2
      refine (r.st j q u q1 q2).mono hh (List.prefix_refl _) fun hlu => ?_
      rw [upd_ne]
      intro z; subst z
      exact hj (nodup_places r.nd q1 q2 hlu e1 e2 hl)
  · rw [upd_ne]
    · exact r.ext a u e n
    · intro z; subst z
      rcases r.fr _ hp with h | h
      · exact n h
      · rw [h] at e; cases e
/-- a thing that will not change any more -/
theorem RelR.freeze (r : RelR F ρ T Γ S σ H) {k : Nat} {mo : MO} {d : D} (e1 : ρ[k]? = some p) (e2 : S[k]? = some mo) (hl : mo.live = true)
    (hm : ∀ M', (∀ a o, H a = some o → a ∉ mu F ρ S → H a = some o ∧ a ∉ M') → p ∉ M' → Rep K ci M' H d (.ref p)) : RelR F ρ T Γ (S.set k (.frz d)) σ H ∧ Rep K ci (mu F ρ (S.set k (.frz d))) H d (.ref p) := by
  have hs := mutA_set_sub (ρ := ρ) (S := S) (k := k) (o' := .frz d) rfl
  have hh : ∀ a u, H a = some u → a ∉ mu F ρ S → H a = some u ∧ a ∉ mu F ρ (S.set k (.frz d)) := fun a u e n => ⟨e, fun z => n (by
    rcases List.mem_append.mp z with z | z
    · exact List.mem_append_left _ (hs.subset z)
    · exact List.mem_append_right _ z)⟩
  have hd := hm (mu F ρ (S.set k (.frz d))) hh (fun z => by
    rcases List.mem_append.mp z with z | z
    · exact mutA_set_gone r.nd e1 rfl ⟨mo, e2, hl⟩ z
    · exact r.dj (mutA_mem e1 e2 hl) z)
  refine ⟨r.move (List.prefix_refl _) (by simp [r.len]) (hs.nodup r.nd) hh (fun j q u q1 q2 => ?_) r.ext fun q hq => r.fr q (hs.subset hq), hd⟩
  by_cases hj : j = k
  · subst hj
    rw [e1] at q1; cases q1
    rw [List.getElem?_set_self (List.getElem?_eq_some_iff.mp e2).1] at q2
    cases q2
    exact hd
  · rw [List.getElem?_set_ne (fun z => hj z.symm)] at q2
    exact (r.st j q u q1 q2).mono hh (List.prefix_refl _) fun _ => rfl
theorem RelR.push (r : RelR F ρ T Γ S σ H) {a : A} {v : V} (h : ARep K ci ρ (mu F ρ S) H a v) : RelR F ρ ((a, v) :: T) Γ S σ H := by
  have tl : ∀ q ∈ (a, v) :: T, ARep K ci ρ (mu F ρ S) H q.1 q.2 := fun q hq => by
    rcases List.mem_cons.mp hq with rfl | hq
    · exact h
    · exact r.tl q hq
  exact ⟨r.pre, r.len, r.nd, r.st, r.gs, r.gl, tl, r.ext, r.fr, r.fo⟩
theorem RelR.drop (r : RelR F ρ T Γ S σ H) {T' : List (A × V)} (h : ∀ q ∈ T', q ∈ T) : RelR F ρ T' Γ S σ H := { r with tl := fun q hq => r.tl q (h q hq) }
theorem RelR.top (r : RelR F ρ T Γ S σ H) {a : A} {v : V} (h : (a, v) ∈ T) : ARep K ci ρ (mu F ρ S) H a v := r.tl _ h
/-- a slot is set -/
theorem RelR.put (r : RelR F ρ T Γ S σ H) {a : A} {v : V} (i : Nat) (h : ARep K ci ρ (mu F ρ S) H a v) : RelR F ρ T (Γ.set i (some a)) S (σ.set i (some v)) H := by
  have gl : ∀ (j : Nat) (b : A), (Γ.set i (some a))[j]? = some (some b) → ∃ u, (σ.set i (some v))[j]? = some (some u) ∧ ARep K ci ρ (mu F ρ S) H b u := fun j b e => by
    by_cases hj : i = j
    · subst hj
      by_cases hi : i < Γ.length
      · rw [List.getElem?_set_self hi] at e
        cases e
        exact ⟨v, by rw [List.getElem?_set_self (by rw [← r.gs]; exact hi)], h⟩
      · rw [List.getElem?_eq_none (by simpa using hi)] at e; cases e
    · rw [List.getElem?_set_ne hj] at e
      obtain ⟨u, e1, e2⟩ := r.gl j b e
      exact ⟨u, by rw [List.getElem?_set_ne hj]; exact e1, e2⟩
  exact ⟨r.pre, r.len, r.nd, r.st, by simp [r.gs], gl, r.tl, r.ext, r.fr, r.fo⟩
/-- slots that nobody knows may be forgotten -/
theorem RelR.slots (r : RelR F ρ T Γ S σ H) {Γ' : Ga} {σ' : L2.St} (h1 : Γ'.length = σ'.length) (h2 : ∀ (i : Nat) (a : A), Γ'[i]? = some (some a) → ∃ v, σ'[i]? = some (some v) ∧ ARep K ci ρ (mu F ρ S) H a v) : RelR F ρ T Γ' S σ' H := ⟨r.pre, r.len, r.nd, r.st, h1, h2, r.tl, r.ext, r.fr, r.fo⟩
end
def wpX (X : Cx) (e : Expr) : TE := fun σ H Q => ∀ (pins : List (Addr × Obj)) (s : Shared), Inv X pins σ H s → wpAny (model X.prog X.w) X.A (eval e X.env) (EP X pins σ Q) X.xe s
def wpT (X : Cx) (e : Expr) : TT := fun σ H Q => ∀ (pins : List (Addr × Obj)) (s : Shared), Inv X pins σ H s → wpAny (model X.prog X.w) X.A (isTrue e X.env (eval e X.env)) (TP X pins σ Q) X.xe s
def wpA (X : Cx) (es : List Expr) : TA := fun σ H Q => ∀ (pos : Pos) (pins : List (Addr × Obj)) (s : Shared), Inv X pins σ H s → wpAny (model X.prog X.w) X.A (spliced (backTo pos (starEach es X.env))) (AP X pins σ Q) X.xe s
def wpS (X : Cx) (st : Stmt) : TS := fun D σ H => ∀ (pins : List (Addr × Obj)) (s : Shared), Inv X pins σ H s → wpAny (model X.prog X.w) X.A (exec st X.env) (SP X pins D) X.xe s
def wpSs (X : Cx) (st : List Stmt) : TS := fun D σ H => ∀ (pins : List (Addr × Obj)) (s : Shared), Inv X pins σ H s → wpAny (model X.prog X.w) X.A (execs st X.env) (SP X pins D) X.xe s
section
variable {X : Cx} {e : Expr} {es : List Expr} {st : Stmt} {sts : List Stmt} {σ : L2.St} {H : Hp}
theorem pe_wp : PE X e (wpX X e) := ⟨fun pins s σ H Q I h => h pins s I⟩
theorem pt_wp : PT X e (wpT X e) := ⟨fun pins s σ H Q I h => h pins s I⟩
theorem pa_wp : PA X es (wpA X es) := ⟨fun pos pins s σ H Q I h => h pos pins s I⟩
theorem ps_wp : PS X st (wpS X st) := ⟨fun pins s σ H D I h => h pins s I⟩
theorem pss_wp : PSs X sts (wpSs X sts) := ⟨fun pins s σ H D I h => h pins s I⟩
theorem wpX_of {t : TE} (h : PE X e t) {Q : VK} (q : t σ H Q) : wpX X e σ H Q := fun pins s I => h.run pins s σ H Q I q
theorem wpT_of {t : TT} (h : PT X e t) {Q : Bool → Hp → Prop} (q : t σ H Q) : wpT X e σ H Q := fun pins s I => h.run pins s σ H Q I q
theorem wpA_of {t : TA} (h : PA X es t) {Q : List V → Hp → Prop} (q : t σ H Q) : wpA X es σ H Q := fun pos pins s I => h.run pos pins s σ H Q I q
theorem wpS_of {t : TS} (h : PS X st t) {D : Ends} (q : t D σ H) : wpS X st D σ H := fun pins s I => h.run pins s σ H D I q
theorem wpSs_of {t : TS} (h : PSs X sts t) {D : Ends} (q : t D σ H) : wpSs X sts D σ H := fun pins s I => h.run pins s σ H D I q
/-- with the invariant at hand: a list is short -/
theorem wpX_monoI {Q Q' : VK} (h : wpX X e σ H Q) (k : ∀ v H', (∀ a xs, SqL X.K H' a xs ∨ SqT X.K H' a xs → xs.length ≤ sizeLine) → Q v H' → Q' v H') : wpX X e σ H Q' := fun pins s I => thn (h pins s I) fun _ _ ⟨v, H', I', r, q⟩ => ⟨v, H', I', r, k v H' (fun a xs hs => by
  rcases hs with hs | hs
  · obtain ⟨_, _, _, h⟩ := I'.list hs; exact h
  · obtain ⟨_, _, _, h⟩ := I'.tuple hs; exact h) q⟩
theorem wpX_mono {Q Q' : VK} (h : wpX X e σ H Q) (k : ∀ v H', Q v H' → Q' v H') : wpX X e σ H Q' := fun pins s I => thn (h pins s I) fun _ _ ⟨v, H', I', r, q⟩ => ⟨v, H', I', r, k v H' q⟩
theorem wpT_mono {Q Q' : Bool → Hp → Prop} (h : wpT X e σ H Q) (k : ∀ b H', Q b H' → Q' b H') : wpT X e σ H Q' := fun pins s I => thn (h pins s I) fun _ _ ⟨H', I', q⟩ => ⟨H', I', k _ H' q⟩
theorem wpA_mono {Q Q' : List V → Hp → Prop} (h : wpA X es σ H Q) (k : ∀ v H', Q v H' → Q' v H') : wpA X es σ H Q' := fun pos pins s I => thn (h pos pins s I) fun _ _ ⟨v, H', I', r, q⟩ => ⟨v, H', I', r, k v H' q⟩
end
section
variable {K : PySem.W.Frag} {ci : Ci} {F : Fr K ci} {ρ : List Addr} {T : List (A × V)} {Γ : Ga} {S : So} {σ : L2.St} {H H' : Hp}
/-- from here on -/
def Fr.here (F : Fr K ci) (H : Hp) (ρ : List Addr) (S : So) : Fr K ci := ⟨H, ρ, mutA ρ S, F.ex⟩
theorem RelR.exT (r : RelR F ρ T Γ S σ H) {p : Addr} (h : p ∈ F.ex) : p ∉ mutA ρ S ∧ H p ≠ none := by
  refine ⟨fun z => r.dj z h, fun z => ?_⟩
  have := r.fo p h
  cases e : F.H p with
  | none => exact this.2 e
  | some u => rw [r.ext p u e this.1] at z; cases z
theorem RelR.here (r : RelR F ρ T Γ S σ H) : RelR (F.here H ρ S) ρ T Γ S σ H :=
  ⟨List.prefix_refl _, r.len, r.nd, r.st, r.gs, r.gl, r.tl, fun a o e _ => e, fun p hp => .inl hp, fun p hp => r.exT hp⟩
theorem RelR.there {ρ' : List Addr} {T' : List (A × V)} {Γ' : Ga} {S' : So} {σ' : L2.St} (r : RelR F ρ T Γ S σ H) (q : RelR (F.here H ρ S) ρ' T' Γ' S' σ' H') : RelR F ρ' T' Γ' S' σ' H' := by
  refine ⟨r.pre.trans q.pre, q.len, q.nd, q.st, q.gs, q.gl, q.tl, fun a o e n => ?_, fun p hp => ?_, r.fo⟩
  · refine q.ext a o (r.ext a o e n) fun hm => ?_
    rcases r.fr a hm with h | h
    · exact n h
    · rw [h] at e; cases e
  · rcases q.fr p hp with h | h
    · exact r.fr p h
    · by_cases hM : p ∈ F.M
      · exact .inl hM
      · exact .inr (r.back h hM)
/-- .. where something of ours is a thing of others: L -/
def Fr.hide (F : Fr K ci) (H : Hp) (ρ : List Addr) (S : So) (L : Addr) : Fr K ci := ⟨H, ρ, mutA ρ S, L :: F.ex⟩
theorem RelR.hideIn (r : RelR F ρ T Γ S σ H) {p : Addr} {o : HO} (hp : H p = none) : RelR (F.hide (upd H p o) ρ S p) ρ T Γ S σ (upd H p o) := by
  have hh : ∀ a u, H a = some u → a ∉ mu F ρ S → (upd H p o) a = some u ∧ a ∉ mu (F.hide (upd H p o) ρ S p) ρ S := fun a u e n => by
    have ne : a ≠ p := ne_of_none e hp
    refine ⟨by rw [upd_ne ne]; exact e, fun z => ?_⟩
    rcases List.mem_append.mp z with z | z
    · exact n (List.mem_append_left _ z)
    · rcases List.mem_cons.mp z with z | z
      · exact ne z
      · exact n (List.mem_append_right _ z)
  refine ⟨List.prefix_refl _, r.len, r.nd, fun k q u e1 e2 => (r.st k q u e1 e2).mono hh (List.prefix_refl _) fun hl => ?_, r.gs, fun i a e => ?_, fun q hq => (r.tl q hq).mono hh (List.prefix_refl _), fun a u e _ => e, fun q hq => .inl hq, fun q hq => ?_⟩
  · rw [upd_ne]
    intro z; subst z
    exact r.freshM hp (mutA_mem e1 e2 hl)
  · obtain ⟨v, e1, h⟩ := r.gl i a e
    exact ⟨v, e1, h.mono hh (List.prefix_refl _)⟩
  · rcases List.mem_cons.mp hq with rfl | hq
    · exact ⟨r.freshM hp, by show upd H q o q ≠ none; rw [upd_same]; intro z; cases z⟩
    · refine ⟨(r.exT hq).1, ?_⟩
      show upd H p o q ≠ none
      by_cases hqp : q = p
      · subst hqp; rw [upd_same]; intro z; cases z
      · rw [upd_ne hqp]; exact (r.exT hq).2
/-- a heap without p -/
def less (H : Hp) (p : Addr) : Hp := fun b => if b = p then none else H b
theorem less_same {p : Addr} : less H p p = none := by unfold less; rw [if_pos rfl]
theorem less_ne {p b : Addr} (h : b ≠ p) : less H p b = H b := by unfold less; rw [if_neg h]
theorem upd_less {p : Addr} {o : HO} : upd H p o = upd (less H p) p o := by
  funext b
  by_cases h : b = p
  · subst h; rw [upd_same, upd_same]
  · rw [upd_ne h, upd_ne h, less_ne h]
theorem RelR.hideOut (r : RelR F ρ T Γ S σ H) {p : Addr} {o : HO} (hp : H p = none) {ρ' : List Addr} {T' : List (A × V)} {Γ' : Ga} {S' : So} {σ' : L2.St} (q : RelR (F.hide (upd H p o) ρ S p) ρ' T' Γ' S' σ' H') :
    H' p = some o ∧ RelR F ρ' T' Γ' S' σ' (less H' p) := by
  have hm := r.freshM hp
  refine ⟨q.ext p o (by show upd H p o p = some o; exact upd_same) hm, ?_⟩
  have hpe : p ∈ (F.hide (upd H p o) ρ S p).ex := List.mem_cons_self
  have hh : ∀ a u, H' a = some u → a ∉ mu (F.hide (upd H p o) ρ S p) ρ' S' → less H' p a = some u ∧ a ∉ mu F ρ' S' := fun a u e n => by
    have ne : a ≠ p := fun z => n (List.mem_append_right _ (by rw [z]; exact hpe))
    refine ⟨by rw [less_ne ne]; exact e, fun z => n ?_⟩
    rcases List.mem_append.mp z with z | z
    · exact List.mem_append_left _ z
    · exact List.mem_append_right _ (List.mem_cons_of_mem _ z)
  refine ⟨r.pre.trans q.pre, q.len, q.nd, fun k b u e1 e2 => (q.st k b u e1 e2).mono hh (List.prefix_refl _) fun hl => ?_, q.gs, fun i a e => ?_, fun b hb => (q.tl b hb).mono hh (List.prefix_refl _), fun a u e n => ?_, fun b hb => ?_, r.fo⟩
  · rw [less_ne]
    intro z; subst z
    exact q.dj (mutA_mem e1 e2 hl) hpe
  · obtain ⟨v, e1, h⟩ := q.gl i a e
    exact ⟨v, e1, h.mono hh (List.prefix_refl _)⟩
  · have e1 := r.ext a u e n
    have ne : a ≠ p := ne_of_none e1 hp
    rw [less_ne ne]
    refine q.ext a u (by show upd H p o a = some u; rw [upd_ne ne]; exact e1) fun hmm => ?_
    rcases r.fr a hmm with h | h
    · exact n h
    · rw [h] at e; cases e
  · rcases q.fr b hb with h | h
    · exact r.fr b h
    · by_cases hM : b ∈ F.M
      · exact .inl hM
      · refine .inr (r.back ?_ hM)
        have h' : upd H p o b = none := h
        by_cases hb2 : b = p
        · subst hb2; exact hp
        · rw [upd_ne hb2] at h'; exact h'
/-- what the slots hold, as temporaries -/
theorem RelR.keep (r : RelR F ρ T Γ S σ H) : ∃ U : List (A × V), (∀ (i : Nat) (a : A), Γ[i]? = some (some a) → ∃ v, σ[i]? = some (some v) ∧ (a, v) ∈ U) ∧ RelR F ρ (U ++ T) Γ S σ H := by
  refine ⟨(Γ.zip σ).filterMap fun p => match p with | (some a, some v) => some (a, v) | _ => none, fun i a e => ?_, { r with tl := fun q hq => ?_ }⟩
  · obtain ⟨v, e1, _⟩ := r.gl i a e
    refine ⟨v, e1, List.mem_filterMap.mpr ⟨(some a, some v), ?_, rfl⟩⟩
    exact List.mem_of_getElem? (i := i) (by rw [List.getElem?_zip_eq_some]; exact ⟨e, e1⟩)
  · rcases List.mem_append.mp hq with hq | hq
    · obtain ⟨p, hp, e⟩ := List.mem_filterMap.mp hq
      obtain ⟨i, hi⟩ := List.mem_iff_getElem?.mp hp
      split at e
      · rename_i a v
        cases e
        rw [List.getElem?_zip_eq_some] at hi
        obtain ⟨w, e1, h⟩ := r.gl i a hi.1
        have e2 : σ[i]? = some (some v) := hi.2
        rw [e2] at e1
        cases e1
        exact h
      · cases e
    · exact r.tl q hq
def wipeG (Γ : Ga) : List Nat → Ga
  | [] => Γ
  | v :: vs => (wipeG Γ vs).set v none
theorem RelR.wipe (r : RelR F ρ T Γ S σ H) : ∀ vs : List Nat, RelR F ρ T (wipeG Γ vs) S (wipe σ vs) H
  | [] => r
  | v :: vs => by
    have q := RelR.wipe r vs
    refine q.slots (by rw [wipeG, L2.wipe, List.length_set, List.length_set, q.gs]) fun i a e => ?_
    rw [wipeG] at e
    by_cases hi : v = i
    · subst hi
      by_cases hl : v < (wipeG Γ vs).length
      · rw [List.getElem?_set_self hl] at e; cases e
      · rw [List.getElem?_eq_none (by simpa using hl)] at e; cases e
    · rw [List.getElem?_set_ne hi] at e
      obtain ⟨u, e1, h⟩ := q.gl i a e
      exact ⟨u, by rw [L2.wipe, List.getElem?_set_ne hi]; exact e1, h⟩
theorem wipe_set {σ : L2.St} {v : Option V} {i : Nat} : ∀ {vs : List Nat}, i ∈ vs → L2.wipe (σ.set i v) vs = L2.wipe σ vs
  | [], h => by cases h
  | w :: vs, h => by
    rw [L2.wipe, L2.wipe]
    by_cases hw : i ∈ vs
    · rw [wipe_set hw]
    · have : i = w := by
        rcases List.mem_cons.mp h with h | h
        · exact h
        · exact absurd h hw
      subst this
      have e : ∀ vs : List Nat, i ∉ vs → L2.wipe (σ.set i v) vs = (L2.wipe σ vs).set i v := by
        intro vs
        induction vs with
        | nil => intro _; rfl
        | cons u us ih =>
          intro hn
          rw [L2.wipe, L2.wipe, ih (fun z => hn (List.mem_cons_of_mem _ z)), List.set_comm _ _ (fun z => hn (by rw [z]; exact List.mem_cons_self))]
      rw [e vs hw, List.set_set]
theorem wipe_idem {σ : L2.St} : ∀ vs ws : List Nat, (∀ v ∈ ws, v ∈ vs) → L2.wipe (L2.wipe σ ws) vs = L2.wipe σ vs
  | vs, [], _ => rfl
  | vs, w :: ws, h => by
    rw [show L2.wipe σ (w :: ws) = (L2.wipe σ ws).set w none from rfl, wipe_set (h w List.mem_cons_self), wipe_idem vs ws fun v hv => h v (List.mem_cons_of_mem _ hv)]
end
end LP
namespace LP
open PySem PySem.Spec PyProof.Rows L2
section
variable {K : PySem.W.Frag} {ci : Ci} {F : Fr K ci} {T : List (A × V)} {Γ : Ga} {S : So} {σ : L2.St} {H : Hp}
theorem Rel.drop {T' : List (A × V)} (r : Rel F T Γ S σ H) (h : ∀ q ∈ T', q ∈ T) : Rel F T' Γ S σ H := let ⟨ρ, r⟩ := r; ⟨ρ, r.drop h⟩
theorem Rel.tail {q : A × V} (r : Rel F (q :: T) Γ S σ H) : Rel F T Γ S σ H := r.drop fun x hx => List.mem_cons_of_mem _ hx
theorem Rel.alloc {p : Addr} {o : HO} (r : Rel F T Γ S σ H) (hp : H p = none) : Rel F T Γ S σ (upd H p o) := let ⟨ρ, r⟩ := r; ⟨ρ, r.alloc hp⟩
theorem Rel.pushS (r : Rel F T Γ S σ H) {d : D} {v : V} (h : ∀ M, Rep K ci M H d v) : Rel F ((.d d, v) :: T) Γ S σ H := let ⟨ρ, r⟩ := r; ⟨ρ, r.push (h _)⟩
theorem Rel.int (r : Rel F T Γ S σ H) (i : Int) : Rel F ((.d (.int i), .int i) :: T) Γ S σ H := r.pushS fun M => by rw [Rep]
theorem Rel.str (r : Rel F T Γ S σ H) (s : Str) : Rel F ((.d (.str s), .str s) :: T) Γ S σ H := r.pushS fun M => by rw [Rep]
theorem Rel.bl (r : Rel F T Γ S σ H) (b : Bool) : Rel F ((.d (.bl b), .bl b) :: T) Γ S σ H := r.pushS fun M => by rw [Rep]
theorem Rel.non (r : Rel F T Γ S σ H) : Rel F ((.d .non, .non) :: T) Γ S σ H := r.pushS fun M => by rw [Rep]
theorem Rel.asInt (r : Rel F T Γ S σ H) {i : Int} {v : V} (h : (A.d (.int i), v) ∈ T) : v = .int i := by
  obtain ⟨ρ, r⟩ := r; have := r.top h; rw [ARep, Rep] at this; exact this
theorem Rel.asStr (r : Rel F T Γ S σ H) {i : Str} {v : V} (h : (A.d (.str i), v) ∈ T) : v = .str i := by
  obtain ⟨ρ, r⟩ := r; have := r.top h; rw [ARep, Rep] at this; exact this
theorem Rel.asBl (r : Rel F T Γ S σ H) {i : Bool} {v : V} (h : (A.d (.bl i), v) ∈ T) : v = .bl i := by
  obtain ⟨ρ, r⟩ := r; have := r.top h; rw [ARep, Rep] at this; exact this
theorem Rel.asNon (r : Rel F T Γ S σ H) {v : V} (h : (A.d .non, v) ∈ T) : v = .non := by
  obtain ⟨ρ, r⟩ := r; have := r.top h; rw [ARep, Rep] at this; exact this
end
def A.toD : A → Option D
  | .d x => some x
  | .loc _ => none
def dataOf : List A → Option (List D)
  | [] => some []
  | .d x :: r => (dataOf r).map (x :: ·)
  | .loc _ :: _ => none
theorem dataOf_map : ∀ l : List D, dataOf (l.map A.d) = some l
  | [] => rfl
  | x :: r => by rw [List.map_cons, dataOf, dataOf_map r]; rfl
theorem dataOf_eq : ∀ {as : List A} {l : List D}, dataOf as = some l → as = l.map A.d
  | [], l, h => by cases h; rfl
  | .d x :: r, l, h => by
    rw [dataOf] at h
    cases e : dataOf r with
    | none => rw [e] at h; cases h
    | some m => rw [e] at h; cases h; rw [List.map_cons, dataOf_eq e]
  | .loc _ :: _, l, h => by cases h
def viewL (S : So) : A → Option (List D)
  | .d (.lst l) => some l
  | .loc k => match S[k]? with
    | some (.lst as) => dataOf as
    | some (.frz (.lst l)) => some l
    | some (.scr l) => some l
    | _ => none
  | _ => none
def viewT : A → Option (List D)
  | .d (.tup l) => some l
  | _ => none
def viewQ (S : So) (a : A) : Option (List D) := match a with
  | .d (.tup l) => some l
  | a => viewL S a
section
variable {K : PySem.W.Frag} {ci : Ci} {F : Fr K ci} {ρ : List Addr} {T : List (A × V)} {Γ : Ga} {S : So} {σ : L2.St} {H : Hp} {a : A} {v : V} {l : List D}
theorem sq_rd {K : PySem.W.Frag} {M : List Addr} {p : Addr} {vs : List V} (h : H p = some (.lst vs) ∧ p ∉ M) : SqL K H p vs := .inl (.inl h.1)
theorem st_rd {K : PySem.W.Frag} {M : List Addr} {p : Addr} {vs : List V} (h : (Rd H p (.tup vs) ∧ p ∉ M) ∨ Tw K p vs) : SqT K H p vs := h.elim (fun h => .inl h.1) .inr
theorem RelR.viewL (r : RelR F ρ T Γ S σ H) (h : ARep K ci ρ (mu F ρ S) H a v) (e : viewL S a = some l) : ∃ p vs, v = .ref p ∧ SqL K H p vs ∧ Reps K ci (mu F ρ S) H l vs := by
  unfold LP.viewL at e
  split at e
  · cases e
    rw [ARep, Rep] at h
    obtain ⟨p, vs, e1, q, rs⟩ := h
    exact ⟨p, vs, e1, sq_rd q, rs⟩
  · rename_i k
    obtain ⟨p, hp, rfl⟩ := h
    split at e
    · rename_i as hs
      obtain ⟨vs, e1, q⟩ := r.st k p _ hp hs
      rw [dataOf_eq e] at q
      exact ⟨p, vs, rfl, SqL.of e1, q.data⟩
    · rename_i l' hs
      cases e
      have := r.st k p _ hp hs
      rw [MRep, Rep] at this
      obtain ⟨p', vs, e1, q, rs⟩ := this
      cases e1
      exact ⟨p, vs, rfl, sq_rd q, rs⟩
    · rename_i l' hs
      cases e
      obtain ⟨vs, q, rs⟩ := r.st k p _ hp hs
      exact ⟨p, vs, rfl, sql_iff.mpr (q.imp And.left id), rs⟩
    · cases e
  · cases e
theorem RelR.viewT (h : ARep K ci ρ (mu F ρ S) H a v) (e : viewT a = some l) : ∃ p vs, v = .ref p ∧ SqT K H p vs ∧ Reps K ci (mu F ρ S) H l vs := by
  unfold LP.viewT at e
  split at e
  · cases e
    rw [ARep, Rep] at h
    obtain ⟨p, vs, e1, q, rs⟩ := h
    exact ⟨p, vs, e1, st_rd q, rs⟩
  · cases e
theorem RelR.viewQ (r : RelR F ρ T Γ S σ H) (h : ARep K ci ρ (mu F ρ S) H a v) (e : viewQ S a = some l) : ∃ p vs, v = .ref p ∧ (SqL K H p vs ∨ SqT K H p vs) ∧ Reps K ci (mu F ρ S) H l vs := by
  unfold LP.viewQ at e
  split at e
  · cases e
    obtain ⟨p, vs, e1, q, rs⟩ := RelR.viewT (a := .d (.tup _)) h rfl
    exact ⟨p, vs, e1, .inr q, rs⟩
  · obtain ⟨p, vs, e1, q, rs⟩ := r.viewL h e
    exact ⟨p, vs, e1, .inl q, rs⟩
theorem RelR.newL (r : RelR F ρ T Γ S σ H) {p : Addr} {vs : List V} {ds : List D} (hp : H p = none) (q : Reps K ci (mu F ρ S) H ds vs) : RelR F ρ ((.d (.lst ds), .ref p) :: T) Γ S σ (upd H p (.lst vs)) := by
  refine (r.alloc hp).push ?_
  rw [ARep, Rep]
  refine ⟨p, vs, rfl, ⟨upd_same, r.fresh hp⟩, q.mono (fun a o e n => ⟨?_, n⟩)⟩
  rw [upd_ne (ne_of_none e hp)]
  exact e
theorem RelR.newT (r : RelR F ρ T Γ S σ H) {p : Addr} {vs : List V} {ds : List D} (hp : H p = none) (q : Reps K ci (mu F ρ S) H ds vs) : RelR F ρ ((.d (.tup ds), .ref p) :: T) Γ S σ (upd H p (.tup vs)) := by
  refine (r.alloc hp).push ?_
  rw [ARep, Rep]
  refine ⟨p, vs, rfl, .inl ⟨.inl upd_same, r.fresh hp⟩, q.mono (fun a o e n => ⟨?_, n⟩)⟩
  rw [upd_ne (ne_of_none e hp)]
  exact e
end
abbrev QF := Ga → So → Option A
def RP (ci : Ci) (X : Cx) (e : Expr) (f : QF) : Prop := ∀ (F : Fr X.K ci) T Γ S σ H a, Rel F T Γ S σ H → f Γ S = some a → wpX X e σ H (fun v H' => Rel F ((a, v) :: T) Γ S σ H')
abbrev QFs := Ga → So → Option (List A)
def RPs (ci : Ci) (X : Cx) (es : List Expr) (f : QFs) : Prop := (∀ Γ S as, f Γ S = some as → as.length = es.length) ∧ ∀ (F : Fr X.K ci) T Γ S σ H as, Rel F T Γ S σ H → f Γ S = some as → wpA X es σ H (fun vs H' => as.length = vs.length ∧ Rel F ((as.zip vs) ++ T) Γ S σ H')
abbrev QB := Ga → So → Option Bool
def RB (ci : Ci) (X : Cx) (e : Expr) (f : QB) : Prop := ∀ (F : Fr X.K ci) T Γ S σ H b, Rel F T Γ S σ H → f Γ S = some b → wpT X e σ H (fun c H' => c = b ∧ Rel F T Γ S σ H')
def OpG (ci : Ci) (X : Cx) (fv : Value → Value → Sem Value) (g : So → A → A → Option D) : Prop :=
  ∃ r, OpR X fv r ∧ ∀ (F : Fr X.K ci) T Γ S σ H x y a b d, Rel F T Γ S σ H → (a, x) ∈ T → (b, y) ∈ T → g S a b = some d → ∀ Q : VK, (∀ v H', Rel F ((.d d, v) :: T) Γ S σ H' → Q v H') → r x y H Q
def CallG (ci : Ci) (X : Cx) (f : Value) (g : So → List A → Option D) : Prop :=
  ∃ r, CallR X f r ∧ ∀ (F : Fr X.K ci) T Γ S σ H as vs d, Rel F T Γ S σ H → as.length = vs.length → (∀ q ∈ as.zip vs, q ∈ T) → g S as = some d → ∀ Q : VK, (∀ v H', Rel F ((.d d, v) :: T) Γ S σ H' → Q v H') → r vs H Q
def fV (i : Nat) : QF := fun Γ _ => match Γ[i]? with | some (some a) => some a | _ => none
def fC (d : D) : QF := fun _ _ => some (.d d)
def fOp (g : So → A → A → Option D) (fa fb : QF) : QF := fun Γ S => (fa Γ S).bind fun x => (fb Γ S).bind fun y => (g S x y).map A.d
def fNil : QFs := fun _ _ => some []
def fCons (f : QF) (fs : QFs) : QFs := fun Γ S => (f Γ S).bind fun x => (fs Γ S).map (x :: ·)
def fCall (g : So → List A → Option D) (fs : QFs) : QF := fun Γ S => (fs Γ S).bind fun as => (g S as).map A.d
def fTup (fs : QFs) : QF := fun Γ S => (fs Γ S).bind fun as => (dataOf as).map fun l => .d (.tup l)
def fLst (fs : QFs) : QF := fun Γ S => (fs Γ S).bind fun as => (dataOf as).map fun l => .d (.lst l)
def fIf (b : QB) (f g : QF) : QF := fun Γ S => (b Γ S).bind fun c => if c = true then f Γ S else g Γ S
def bV (f : QF) : QB := fun Γ S => (f Γ S).bind fun a => match a with | .d (.bl b) => some b | _ => none
def bNot (f : QB) : QB := fun Γ S => (f Γ S).map (!·)
def bAnd (f g : QB) : QB := fun Γ S => (f Γ S).bind fun c => if c = true then g Γ S else some false
def bOr (f g : QB) : QB := fun Γ S => (f Γ S).bind fun c => if c = true then some true else g Γ S
theorem op_some {g : So → A → A → Option D} {fa fb : QF} {Γ : Ga} {S : So} {a : A} (h : fOp g fa fb Γ S = some a) : ∃ x y d, fa Γ S = some x ∧ fb Γ S = some y ∧ g S x y = some d ∧ a = .d d := by
  unfold fOp at h
  cases e1 : fa Γ S with
  | none => rw [e1] at h; cases h
  | some x =>
    cases e2 : fb Γ S with
    | none => rw [e1, e2] at h; cases h
    | some y =>
      rw [e1, e2] at h
      cases e3 : g S x y with
      | none => rw [Option.bind_some, Option.bind_some, e3] at h; cases h
      | some d => rw [Option.bind_some, Option.bind_some, e3] at h; cases h; exact ⟨x, y, d, rfl, rfl, e3, rfl⟩
section
variable {ci : Ci} {X : Cx}
theorem RP.imp {e : Expr} {f f' : QF} (h : RP ci X e f) (k : ∀ Γ S a, f' Γ S = some a → f Γ S = some a) : RP ci X e f' := fun F T Γ S σ H a r q => h F T Γ S σ H a r (k _ _ _ q)
theorem gl_of {X : Cx} {x : Str} (h : X.env.kindOf x = some .globalImplicit) : Gl X x := h
def locB (sc : Scope) (x : Str) : Bool := match sc.names.lookup x with | some .local => true | some .cell => true | _ => false
theorem loc_of {sc : Scope} {x : Str} (h : locB sc x = true) : Loc sc x := by
  unfold locB at h
  split at h
  · exact .inl (by assumption)
  · exact .inr (by assumption)
  · cases h
def visB (sc : Scope) (x : Str) : Bool := match sc.names.lookup x with | some .local => true | some .cell => true | some .free => true | _ => false
theorem vis_of {sc : Scope} {x : Str} (h : visB sc x = true) : Vis sc x := by
  unfold visB at h
  split at h
  · exact .inl (by assumption)
  · exact .inr (.inl (by assumption))
  · exact .inr (.inr (by assumption))
  · cases h
def fnB (b : Bool) (sc : Scope) (x : Str) : Bool := b || (match sc.names.lookup x with | some .local => true | _ => false)
theorem fn_of {b : Bool} {sc : Scope} {x : Str} (h : fnB b sc x = true) : b = true ∨ sc.names.lookup x = some .local := by
  unfold fnB at h
  rcases Bool.or_eq_true_iff.mp h with h | h
  · exact .inl h
  · split at h
    · exact .inr (by assumption)
    · cases h
theorem rp_v (i : Nat) {x : Str} {pos : Pos} (hN : X.N[i]? = some x := by rfl) (hv : Vis X.env.scope x := by exact vis_of (by kernel_rfl)) (hd : (x == ("__debug__" : Str)) = false := by decide +kernel)
    (hcd : (x == ("__classdict__" : Str)) = false := by decide +kernel) : RP ci X (.Name x pos) (fV i) := fun F T Γ S σ H a r q => by
  unfold fV at q
  split at q
  · rename_i b e
    cases q
    obtain ⟨ρ, r⟩ := r
    obtain ⟨v, e1, h⟩ := r.gl i a e
    exact wpX_of (pe_var hN hv hd hcd) ⟨v, e1, ρ, r.push h⟩
  · cases q
theorem rp_int {i j pos} : RP ci X (.Constant (.int i) j pos) (fC (.int i)) := fun F T Γ S σ H a r q => by
  cases q; exact wpX_of pe_int (r.int i)
theorem rp_str {i j pos} : RP ci X (.Constant (.str i) j pos) (fC (.str i)) := fun F T Γ S σ H a r q => by
  cases q; exact wpX_of pe_str (r.str i)
theorem rp_bl {i j pos} : RP ci X (.Constant (.bool i) j pos) (fC (.bl i)) := fun F T Γ S σ H a r q => by
  cases q; exact wpX_of pe_bl (r.bl i)
theorem rp_non {j pos} : RP ci X (.Constant .none j pos) (fC .non) := fun F T Γ S σ H a r q => by
  cases q; exact wpX_of pe_non r.non
/-- two expressions in a row -/
theorem two {a b : Expr} {fa fb : QF} (ha : RP ci X a fa) (hb : RP ci X b fb) {F : Fr X.K ci} {T : List (A × V)} {Γ : Ga} {S : So} {σ : L2.St} {H : Hp} {x y : A} (r : Rel F T Γ S σ H) (e1 : fa Γ S = some x) (e2 : fb Γ S = some y) :
    wpX X a σ H fun v H1 => wpX X b σ H1 fun u H2 => Rel F ((y, u) :: (x, v) :: T) Γ S σ H2 :=
  wpX_mono (ha F T Γ S σ H x r e1) fun v H1 r1 => hb F _ Γ S σ H1 y r1 e2
theorem drop3 {q a b : A × V} {T : List (A × V)} : ∀ x ∈ q :: T, x ∈ q :: a :: b :: T := fun x hx => by
  rcases List.mem_cons.mp hx with rfl | hx
  · exact List.mem_cons_self
  · exact List.mem_cons_of_mem _ (List.mem_cons_of_mem _ (List.mem_cons_of_mem _ hx))
theorem drop2 {q a : A × V} {T : List (A × V)} : ∀ x ∈ q :: T, x ∈ q :: a :: T := fun x hx => by
  rcases List.mem_cons.mp hx with rfl | hx
  · exact List.mem_cons_self
  · exact List.mem_cons_of_mem _ (List.mem_cons_of_mem _ hx)
theorem rp_op {op : Operator} {a b : Expr} {pos : Pos} {g : So → A → A → Option D} {fa fb : QF} (ho : OpG ci X (binaryOp op) g) (ha : RP ci X a fa) (hb : RP ci X b fb) : RP ci X (.BinOp a op b pos) (fOp g fa fb) := fun F T Γ S σ H z r q => by
  obtain ⟨x, y, d, e1, e2, e3, rfl⟩ := op_some q
  obtain ⟨rr, hr, hk⟩ := ho
  refine wpX_of (pe_op hr pe_wp pe_wp) (wpX_mono (two ha hb r e1 e2) fun v H1 h1 => wpX_mono h1 fun u H2 h2 => ?_)
  exact hk F _ Γ S σ H2 v u x y d h2 (by simp) (by simp) e3 _ fun w H3 h3 => h3.drop drop3
theorem rp_cmp {op : CmpOp} {a b : Expr} {pos : Pos} {g : So → A → A → Option D} {fa fb : QF} (ho : OpG ci X (compareOp op) g) (ha : RP ci X a fa) (hb : RP ci X b fb) (hm : behindInMarks op b = false) : RP ci X (.Compare a [op] [b] pos) (fOp g fa fb) := fun F T Γ S σ H z r q => by
  obtain ⟨x, y, d, e1, e2, e3, rfl⟩ := op_some q
  obtain ⟨rr, hr, hk⟩ := ho
  refine wpX_of (pe_cmpR hr pe_wp pe_wp hm) (wpX_mono (two ha hb r e1 e2) fun v H1 h1 => wpX_mono h1 fun u H2 h2 => ?_)
  exact hk F _ Γ S σ H2 v u x y d h2 (by simp) (by simp) e3 _ fun w H3 h3 => h3.drop drop3
theorem bv_some {f : QF} {Γ : Ga} {S : So} {b : Bool} (h : bV f Γ S = some b) : f Γ S = some (.d (.bl b)) := by
  unfold bV at h
  cases e : f Γ S with
  | none => rw [e] at h; cases h
  | some a =>
    rw [e, Option.bind_some] at h
    split at h
    · cases h; rfl
    · cases h
/-- a comparison as a test -/
theorem rb_cmp {op : CmpOp} {a b : Expr} {pos : Pos} {g : So → A → A → Option D} {fa fb : QF} (ho : OpG ci X (compareOp op) g) (ha : RP ci X a fa) (hb : RP ci X b fb) (hm : behindInMarks op b = false) : RB ci X (.Compare a [op] [b] pos) (bV (fOp g fa fb)) := fun F T Γ S σ H z r q => by
  obtain ⟨x, y, d, e1, e2, e3, e4⟩ := op_some (bv_some q)
  cases e4
  obtain ⟨rr, hr, hk⟩ := ho
  refine wpT_of (pt_cmpR hr pe_wp pe_wp hm) (wpX_mono (two ha hb r e1 e2) fun v H1 h1 => wpX_mono h1 fun u H2 h2 => ?_)
  refine hk F _ Γ S σ H2 v u x y _ h2 (by simp) (by simp) e3 _ fun w H3 h3 => ?_
  exact ⟨z, h3.asBl List.mem_cons_self, rfl, h3.drop fun q hq => by simp [hq]⟩
theorem rb_v {e : Expr} {f : QF} (h : RP ci X e f) (he : ∀ whole, isTrue e X.env whole = (do let v ← whole; standAt e.pos; holding [v] (truthy v)) := by intro _; rfl) : RB ci X e (bV f) := fun F T Γ S σ H b r q => by
  refine wpT_of (pt_val pe_wp he) (wpX_mono (h F T Γ S σ H _ r (bv_some q)) fun v H' h' => ?_)
  exact ⟨b, h'.asBl List.mem_cons_self, rfl, h'.tail⟩
theorem rb_not {a : Expr} {f : QB} {pos : Pos} (h : RB ci X a f) : RB ci X (.UnaryOp .Not a pos) (bNot f) := fun F T Γ S σ H b r q => by
  unfold bNot at q
  cases e : f Γ S with
  | none => rw [e] at q; cases q
  | some c =>
    rw [e] at q
    refine wpT_of (pt_not pt_wp) (wpT_mono (h F T Γ S σ H c r e) fun v H' h' => ?_)
    obtain ⟨rfl, h'⟩ := h'
    exact ⟨Option.some.inj q, h'⟩
def wpW (X : Cx) (e : Expr) : TT := fun σ H Q => ∀ (whole : Sem Value) (pins : List (Addr × Obj)) (s : Shared), Inv X pins σ H s → wpAny (model X.prog X.w) X.A (isTrue e X.env whole) (TP X pins σ Q) X.xe s
theorem pw_wp {e : Expr} : PW X e (wpW X e) := ⟨fun whole pins s σ H Q I h => h whole pins s I⟩
theorem wpW_of {e : Expr} {t : TT} {σ : L2.St} {H : Hp} (h : PW X e t) {Q : Bool → Hp → Prop} (q : t σ H Q) : wpW X e σ H Q := fun whole pins s I => h.run whole pins s σ H Q I q
/-- a chain of and, or -/
def RW (ci : Ci) (X : Cx) (e : Expr) (f : QB) : Prop := ∀ (F : Fr X.K ci) T Γ S σ H b, Rel F T Γ S σ H → f Γ S = some b → wpW X e σ H (fun c H' => c = b ∧ Rel F T Γ S σ H')
theorem rw_and1 {a : Expr} {f : QB} {pos : Pos} (h : RB ci X a f) : RW ci X (.BoolOp .And [a] pos) f := fun F T Γ S σ H b r q => wpW_of (pw_and1 pt_wp) (h F T Γ S σ H b r q)
theorem rw_or1 {a : Expr} {f : QB} {pos : Pos} (h : RB ci X a f) : RW ci X (.BoolOp .Or [a] pos) f := fun F T Γ S σ H b r q => wpW_of (pw_or1 pt_wp) (h F T Γ S σ H b r q)
theorem rw_and {a b : Expr} {rest : List Expr} {f g : QB} {pos : Pos} (h : RB ci X a f) (h2 : RW ci X (.BoolOp .And (b :: rest) pos) g) : RW ci X (.BoolOp .And (a :: b :: rest) pos) (bAnd f g) := fun F T Γ S σ H c r q => by
  unfold bAnd at q
  cases e : f Γ S with
  | none => rw [e] at q; cases q
  | some d =>
    rw [e, Option.bind_some] at q
    refine wpW_of (pw_and pt_wp pw_wp) (wpT_mono (h F T Γ S σ H d r e) fun v H' h' => ?_)
    obtain ⟨rfl, h'⟩ := h'
    cases v with
    | true => exact iteT (h2 F T Γ S σ H' c h' q)
    | false => cases q; exact iteF ⟨rfl, h'⟩
theorem rw_or {a b : Expr} {rest : List Expr} {f g : QB} {pos : Pos} (h : RB ci X a f) (h2 : RW ci X (.BoolOp .Or (b :: rest) pos) g) : RW ci X (.BoolOp .Or (a :: b :: rest) pos) (bOr f g) := fun F T Γ S σ H c r q => by
  unfold bOr at q
  cases e : f Γ S with
  | none => rw [e] at q; cases q
  | some d =>
    rw [e, Option.bind_some] at q
    refine wpW_of (pw_or pt_wp pw_wp) (wpT_mono (h F T Γ S σ H d r e) fun v H' h' => ?_)
    obtain ⟨rfl, h'⟩ := h'
    cases v with
    | true => cases q; exact iteT ⟨rfl, h'⟩
    | false => exact iteF (h2 F T Γ S σ H' c h' q)
theorem rb_w {e : Expr} {f : QB} (h : RW ci X e f) : RB ci X e f := fun F T Γ S σ H b r q => wpT_of pw_wp.pt (h F T Γ S σ H b r q)
/-- and, or, not as values that are True or False -/
def fAnd (f g : QF) : QF := fun Γ S => (bV f Γ S).bind fun c => if c = true then g Γ S else some (.d (.bl false))
def fOr (f g : QF) : QF := fun Γ S => (bV f Γ S).bind fun c => if c = true then some (.d (.bl true)) else g Γ S
def fNot (f : QF) : QF := fun Γ S => (bV f Γ S).map fun c => .d (.bl (!c))
theorem rp_one {op : BoolOp} {a : Expr} {f : QF} {pos : Pos} (h : RP ci X a f) : RP ci X (.BoolOp op [a] pos) f := fun F T Γ S σ H z r q => wpX_of (L2.pe_one pe_wp) (h F T Γ S σ H z r q)
theorem rp_and {a b : Expr} {rest : List Expr} {f g : QF} {pos : Pos} (h : RP ci X a f) (h2 : RP ci X (.BoolOp .And (b :: rest) pos) g) : RP ci X (.BoolOp .And (a :: b :: rest) pos) (fAnd f g) := fun F T Γ S σ H z r q => by
  unfold fAnd at q
  cases e : bV f Γ S with
  | none => rw [e] at q; cases q
  | some d =>
    rw [e, Option.bind_some] at q
    refine wpX_of (L2.pe_and pe_wp pe_wp) (wpX_mono (h F T Γ S σ H _ r (bv_some e)) fun v H' h' => ⟨d, h'.asBl List.mem_cons_self, ?_⟩)
    cases d with
    | true => exact iteT (h2 F T Γ S σ H' z h'.tail q)
    | false => cases q; exact iteF (h'.tail.bl false)
theorem rp_not {a : Expr} {f : QF} {pos : Pos} (h : RP ci X a f) : RP ci X (.UnaryOp .Not a pos) (fNot f) := fun F T Γ S σ H z r q => by
  unfold fNot at q
  cases e : bV f Γ S with
  | none => rw [e] at q; cases q
  | some d =>
    rw [e] at q
    cases q
    exact wpX_of (L2.pe_not pe_wp) (wpX_mono (h F T Γ S σ H _ r (bv_some e)) fun v H' h' => ⟨d, h'.asBl List.mem_cons_self, h'.tail.bl _⟩)
theorem rp_ife {c a b : Expr} {fc : QB} {fa fb : QF} {pos : Pos} (hc : RB ci X c fc) (ha : RP ci X a fa) (hb : RP ci X b fb) : RP ci X (.IfExp c a b pos) (fIf fc fa fb) := fun F T Γ S σ H z r q => by
  unfold fIf at q
  cases e : fc Γ S with
  | none => rw [e] at q; cases q
  | some d =>
    rw [e, Option.bind_some] at q
    refine wpX_of (pe_ifExp pt_wp pe_wp pe_wp) (wpT_mono (hc F T Γ S σ H d r e) fun v H' h' => ?_)
    obtain ⟨rfl, h'⟩ := h'
    cases v with
    | true => exact iteT (ha F T Γ S σ H' z h' q)
    | false => exact iteF (hb F T Γ S σ H' z h' q)
def fNeg (f : QF) : QF := fun Γ S => (f Γ S).bind fun a => match a with | .d (.int i) => some (.d (.int (-i))) | _ => none
theorem rp_neg {a : Expr} {f : QF} {pos : Pos} (h : RP ci X a f) : RP ci X (.UnaryOp .USub a pos) (fNeg f) := fun F T Γ S σ H z r q => by
  unfold fNeg at q
  cases e : f Γ S with
  | none => rw [e] at q; cases q
  | some d =>
    rw [e, Option.bind_some] at q
    split at q
    · rename_i i
      cases q
      exact wpX_of (pe_un un_neg pe_wp) (wpX_mono (h F T Γ S σ H _ r e) fun v H' h' => ⟨i, h'.asInt List.mem_cons_self, h'.tail.int _⟩)
    · cases q
theorem cons_some {f : QF} {fs : QFs} {Γ : Ga} {S : So} {as : List A} (h : fCons f fs Γ S = some as) : ∃ a r, f Γ S = some a ∧ fs Γ S = some r ∧ as = a :: r := by
  unfold fCons at h
  cases e1 : f Γ S with
  | none => rw [e1] at h; cases h
  | some a =>
    rw [e1, Option.bind_some] at h
    cases e2 : fs Γ S with
    | none => rw [e2] at h; cases h
    | some r => rw [e2] at h; cases h; exact ⟨a, r, rfl, rfl, rfl⟩
theorem rps_nil : RPs ci X [] fNil := ⟨fun Γ S as q => by cases q; rfl, fun F T Γ S σ H as r q => by
  cases q
  exact wpA_of pa_nil ⟨rfl, r⟩⟩
theorem rps_cons {e : Expr} {es : List Expr} {f : QF} {fs : QFs} (h : RP ci X e f) (hs : RPs ci X es fs) (hst : starEach (e :: es) X.env = (false, eval e X.env) :: starEach es X.env := by kernel_rfl) : RPs ci X (e :: es) (fCons f fs) := by
  refine ⟨fun Γ S as q => ?_, fun F T Γ S σ H as r q => ?_⟩
  · obtain ⟨a, as', e1, e2, rfl⟩ := cons_some q
    rw [List.length_cons, List.length_cons, hs.1 Γ S as' e2]
  · obtain ⟨a, as', e1, e2, rfl⟩ := cons_some q
    refine wpA_of (pa_cons pe_wp pa_wp hst) (wpX_mono (h F T Γ S σ H _ r e1) fun v H' h' => wpA_mono (hs.2 F _ Γ S σ H' _ h' e2) fun vs H2 h2 => ?_)
    obtain ⟨hl, h2⟩ := h2
    refine ⟨by simp [hl], h2.drop fun x hx => ?_⟩
    rw [List.zip_cons_cons] at hx
    simp only [List.cons_append, List.mem_cons, List.mem_append] at hx ⊢
    rcases hx with hx | hx | hx <;> simp [hx]
theorem reps_of {K : PySem.W.Frag} {F : Fr K ci} {ρ : List Addr} {T : List (A × V)} {Γ : Ga} {S : So} {σ : L2.St} {H : Hp} (r : RelR F ρ T Γ S σ H) : ∀ {l : List D} {vs : List V}, l.length = vs.length → (∀ q ∈ (l.map A.d).zip vs, q ∈ T) → Reps K ci (mu F ρ S) H l vs
  | [], [], _, _ => .nil
  | [], _ :: _, h, _ => by cases h
  | _ :: _, [], h, _ => by cases h
  | d :: l, v :: vs, h, k => by
    have := r.tl _ (k (.d d, v) (by simp))
    exact .cons this (reps_of r (by simpa using h) fun q hq => k q (by rw [List.map_cons, List.zip_cons_cons]; exact List.mem_cons_of_mem _ hq))
theorem bind_data {f : QFs} {Γ : Ga} {S : So} {a : A} {k : List D → A} (h : ((f Γ S).bind fun as => (dataOf as).map k) = some a) : ∃ l, f Γ S = some (l.map A.d) ∧ a = k l := by
  cases e1 : f Γ S with
  | none => rw [e1] at h; cases h
  | some as =>
    rw [e1, Option.bind_some] at h
    cases e2 : dataOf as with
    | none => rw [e2] at h; cases h
    | some l => rw [e2] at h; cases h; rw [dataOf_eq e2]; exact ⟨l, rfl, rfl⟩
theorem small_len {n m : Nat} (h : n = m) (hl : Nat.ble m 1000 = true) : n ≤ sizeLine := by
  rw [h]
  exact Nat.le_trans (Nat.le_of_ble_eq_true hl) (by decide)
theorem rp_tup {es : List Expr} {fs : QFs} {x1 : Nat} {pos : Pos} (h : RPs ci X es fs) (hl : Nat.ble es.length 1000 = true := by kernel_rfl) : RP ci X (.Tuple es x1 pos) (fTup fs) := fun F T Γ S σ H a r q => by
  obtain ⟨l, e1, rfl⟩ := bind_data q
  refine wpX_of (pe_tup pa_wp) (wpA_mono (h.2 F T Γ S σ H _ r e1) fun vs H' h' => ?_)
  obtain ⟨hz, ρ, h'⟩ := h'
  have hz' : l.length = vs.length := by rw [← hz, List.length_map]
  refine ⟨small_len (hz.symm.trans (h.1 _ _ _ e1)) hl, fun p hp => ?_⟩
  have R := reps_of h' hz' fun q hq => List.mem_append_left _ hq
  exact ⟨ρ, (h'.newT hp R).drop fun q hq => by
    rcases List.mem_cons.mp hq with rfl | hq
    · exact List.mem_cons_self
    · exact List.mem_cons_of_mem _ (List.mem_append_right _ hq)⟩
theorem rp_lst {es : List Expr} {fs : QFs} {pos : Pos} (h : RPs ci X es fs) (hl : Nat.ble es.length 1000 = true := by kernel_rfl) : RP ci X (.List es pos) (fLst fs) := fun F T Γ S σ H a r q => by
  obtain ⟨l, e1, rfl⟩ := bind_data q
  refine wpX_of (pe_lst pa_wp) (wpA_mono (h.2 F T Γ S σ H _ r e1) fun vs H' h' => ?_)
  obtain ⟨hz, ρ, h'⟩ := h'
  have hz' : l.length = vs.length := by rw [← hz, List.length_map]
  refine ⟨small_len (hz.symm.trans (h.1 _ _ _ e1)) hl, fun p hp => ?_⟩
  have R := reps_of h' hz' fun q hq => List.mem_append_left _ hq
  exact ⟨ρ, (h'.newL hp R).drop fun q hq => by
    rcases List.mem_cons.mp hq with rfl | hq
    · exact List.mem_cons_self
    · exact List.mem_cons_of_mem _ (List.mem_append_right _ hq)⟩
theorem call_some {g : So → List A → Option D} {fs : QFs} {Γ : Ga} {S : So} {a : A} (h : fCall g fs Γ S = some a) : ∃ as d, fs Γ S = some as ∧ g S as = some d ∧ a = .d d := by
  unfold fCall at h
  cases e1 : fs Γ S with
  | none => rw [e1] at h; cases h
  | some as =>
    rw [e1, Option.bind_some] at h
    cases e2 : g S as with
    | none => rw [e2] at h; cases h
    | some d => rw [e2] at h; cases h; exact ⟨as, d, rfl, e2, rfl⟩
theorem dropA {q : A × V} {U T : List (A × V)} : ∀ x ∈ q :: T, x ∈ q :: (U ++ T) := fun x hx => by
  rcases List.mem_cons.mp hx with rfl | hx
  · exact List.mem_cons_self
  · exact List.mem_cons_of_mem _ (List.mem_append_right _ hx)
theorem rp_callB {id : String} {x : Str} {p pos : Pos} {e : Expr} {es : List Expr} {g : So → List A → Option D} {fs : QFs} (hc : CallG ci X (.builtin id) g) (hg : Gl X x) (hm : X.mg x = none) (hv : bootBuiltins x = some (.builtin id)) (ha : RPs ci X (e :: es) fs) (hn : x ≠ "__name__" := by decide +kernel) (hdb : (x == ("__debug__" : Str)) = false := by decide +kernel)
    (he : starEach (e :: es) X.env = (false, eval e X.env) :: starEach es X.env := by rfl) (hpl : (backTo pos (starEach es X.env)).any (·.1) = false := by kernel_rfl) : RP ci X (.Call (.Name x p) (e :: es) [] pos) (fCall g fs) := fun F T Γ S σ H a r q => by
  obtain ⟨as, d, e1, e2, rfl⟩ := call_some q
  obtain ⟨rr, hr, hk⟩ := hc
  refine wpX_of (pe_callB hr hg hm hv pa_wp hn hdb he hpl) (wpA_mono (ha.2 F T Γ S σ H _ r e1) fun vs H' h' => ?_)
  obtain ⟨hz, h'⟩ := h'
  exact hk F _ Γ S σ H' as vs d h' hz (fun q hq => List.mem_append_left _ hq) e2 _ fun v H2 h2 => h2.drop dropA
theorem rp_callTy {id : String} {x : Str} {p pos : Pos} {e : Expr} {es : List Expr} {g : So → List A → Option D} {fs : QFs} (hc : CallG ci X (.type id) g) (hg : Gl X x) (hm : X.mg x = none) (hv : bootBuiltins x = some (.type id)) (ha : RPs ci X (e :: es) fs) (hn : x ≠ "__name__" := by decide +kernel) (hdb : (x == ("__debug__" : Str)) = false := by decide +kernel)
    (he : starEach (e :: es) X.env = (false, eval e X.env) :: starEach es X.env := by rfl) (hpl : (backTo pos (starEach es X.env)).any (·.1) = false := by kernel_rfl) : RP ci X (.Call (.Name x p) (e :: es) [] pos) (fCall g fs) := fun F T Γ S σ H a r q => by
  obtain ⟨as, d, e1, e2, rfl⟩ := call_some q
  obtain ⟨rr, hr, hk⟩ := hc
  refine wpX_of (pe_callTy hr hg hm hv pa_wp hn hdb he hpl) (wpA_mono (ha.2 F T Γ S σ H _ r e1) fun vs H' h' => ?_)
  obtain ⟨hz, h'⟩ := h'
  exact hk F _ Γ S σ H' as vs d h' hz (fun q hq => List.mem_append_left _ hq) e2 _ fun v H2 h2 => h2.drop dropA
end
section
variable {ci : Ci} {X : Cx}
def gAdd (_ : So) : A → A → Option D
  | .d (.int i), .d (.int j) => some (.int (i + j))
  | .d (.str s), .d (.str t) => if s.length + t.length ≤ sizeLine then some (.str (s ++ t)) else none
  | _, _ => none
theorem o_add : OpG ci X (binaryOp .Add) gAdd := ⟨_, op_add.or op_add_str, fun F T Γ S σ H x y a b d r hx hy e Q k => by
  unfold gAdd at e
  split at e
  · cases e; exact .inl ⟨_, _, r.asInt hx, r.asInt hy, k _ _ (r.int _)⟩
  · split at e
    · rename_i hl
      cases e; exact .inr ⟨_, _, r.asStr hx, r.asStr hy, hl, k _ _ (r.str _)⟩
    · cases e
  · cases e⟩
def gI (p : Int → Int → Bool) (f : Int → Int → D) (_ : So) : A → A → Option D
  | .d (.int i), .d (.int j) => if p i j = true then some (f i j) else none
  | _, _ => none
theorem gi_some {p : Int → Int → Bool} {f : Int → Int → D} {S : So} {a b : A} {d : D} (h : gI p f S a b = some d) : ∃ i j, a = .d (.int i) ∧ b = .d (.int j) ∧ p i j = true ∧ d = f i j := by
  unfold gI at h
  split at h
  · split at h
    · rename_i hp
      cases h; exact ⟨_, _, rfl, rfl, hp, rfl⟩
    · cases h
  · cases h
abbrev gSub := gI (fun _ _ => true) fun i j => .int (i - j)
theorem o_sub : OpG ci X (binaryOp .Sub) gSub := ⟨_, op_sub, fun F T Γ S σ H x y a b d r hx hy e Q k => by
  obtain ⟨i, j, rfl, rfl, _, rfl⟩ := gi_some e
  exact ⟨_, _, r.asInt hx, r.asInt hy, k _ _ (r.int _)⟩⟩
abbrev gMul := gI (fun i j => decide ((-(2 ^ 64) < i ∧ i < 2 ^ 64) ∨ (-(2 ^ 64) < j ∧ j < 2 ^ 64))) fun i j => .int (i * j)
theorem o_mul : OpG ci X (binaryOp .Mult) gMul := ⟨_, op_mul, fun F T Γ S σ H x y a b d r hx hy e Q k => by
  obtain ⟨i, j, rfl, rfl, hp, rfl⟩ := gi_some e
  exact ⟨_, _, r.asInt hx, r.asInt hy, (by have := of_decide_eq_true hp; exact this), k _ _ (r.int _)⟩⟩
abbrev gFdiv := gI (fun _ j => decide (0 < j ∧ j < 1073741824)) fun i j => .int (i / j)
abbrev gMod := gI (fun _ j => decide (0 < j)) fun i j => .int (i % j)
theorem o_mod : OpG ci X (binaryOp .Mod) gMod := ⟨_, op_mod, fun F T Γ S σ H x y a b d r hx hy e Q k => by
  obtain ⟨i, j, rfl, rfl, hp, rfl⟩ := gi_some e
  exact ⟨_, _, r.asInt hx, r.asInt hy, (by have := of_decide_eq_true hp; exact this), k _ _ (r.int _)⟩⟩
abbrev gPow := gI (fun i j => decide (0 ≤ j ∧ j ≤ 1000000 ∧ i.natAbs < 2 ^ 64)) fun i j => .int (i ^ j.toNat)
theorem o_pow : OpG ci X (binaryOp .Pow) gPow := ⟨_, op_pow, fun F T Γ S σ H x y a b d r hx hy e Q k => by
  obtain ⟨i, j, rfl, rfl, hp, rfl⟩ := gi_some e
  exact ⟨_, _, r.asInt hx, r.asInt hy, (by have := of_decide_eq_true hp; exact this), k _ _ (r.int _)⟩⟩
abbrev gLt := gI (fun _ _ => true) fun i j => .bl (decide (i < j))
theorem o_lt : OpG ci X (compareOp .Lt) gLt := ⟨_, op_lt, fun F T Γ S σ H x y a b d r hx hy e Q k => by
  obtain ⟨i, j, rfl, rfl, _, rfl⟩ := gi_some e
  exact ⟨_, _, r.asInt hx, r.asInt hy, k _ _ (r.bl _)⟩⟩
abbrev gLe := gI (fun _ _ => true) fun i j => .bl (decide (i ≤ j))
theorem o_le : OpG ci X (compareOp .LtE) gLe := ⟨_, op_le, fun F T Γ S σ H x y a b d r hx hy e Q k => by
  obtain ⟨i, j, rfl, rfl, _, rfl⟩ := gi_some e
  exact ⟨_, _, r.asInt hx, r.asInt hy, k _ _ (r.bl _)⟩⟩
abbrev gGt := gI (fun _ _ => true) fun i j => .bl (decide (j < i))
theorem o_gt : OpG ci X (compareOp .Gt) gGt := ⟨_, op_gt, fun F T Γ S σ H x y a b d r hx hy e Q k => by
  obtain ⟨i, j, rfl, rfl, _, rfl⟩ := gi_some e
  exact ⟨_, _, r.asInt hx, r.asInt hy, k _ _ (r.bl _)⟩⟩
abbrev gGe := gI (fun _ _ => true) fun i j => .bl (decide (j ≤ i))
theorem o_ge : OpG ci X (compareOp .GtE) gGe := ⟨_, op_ge, fun F T Γ S σ H x y a b d r hx hy e Q k => by
  obtain ⟨i, j, rfl, rfl, _, rfl⟩ := gi_some e
  exact ⟨_, _, r.asInt hx, r.asInt hy, k _ _ (r.bl _)⟩⟩
end
end LP
namespace LP
open PySem PySem.Spec PyProof.Rows L2
section
variable {ci : Ci} {X : Cx}
def D.v : D → V
  | .non => .non | .bl b => .bl b | .int i => .int i | .str s => .str s | _ => .ref 0
def D.flat : D → Bool
  | .non => true | .bl _ => true | .int _ => true | .str _ => true | _ => false
theorem Rep.flat {K : PySem.W.Frag} {M : List Addr} {H : Hp} : ∀ {d : D} {v : V}, d.flat = true → Rep K ci M H d v → v = d.v
  | .non, v, _, r => by rw [Rep] at r; exact r
  | .bl _, v, _, r => by rw [Rep] at r; exact r
  | .int _, v, _, r => by rw [Rep] at r; exact r
  | .str _, v, _, r => by rw [Rep] at r; exact r
  | .tup _, v, h, r => by cases h
  | .lst _, v, h, r => by cases h
  | .ins _ _, v, h, r => by cases h
  | .dic _ _, v, h, r => by cases h
  | .fn _, v, h, r => by cases h
  | .exc _ _ _, v, h, r => by cases h
theorem D.flat_v : ∀ {d : D}, d.flat = true → flatV d.v = true
  | .non, _ => rfl
  | .bl _, _ => rfl
  | .int _, _ => rfl
  | .str _, _ => rfl
  | .tup _, h => by cases h
  | .lst _, h => by cases h
  | .ins _ _, h => by cases h
  | .dic _ _, h => by cases h
  | .fn _, h => by cases h
  | .exc _ _ _, h => by cases h
theorem Reps.flat {K : PySem.W.Frag} {M : List Addr} {H : Hp} : ∀ {l : List D} {vs : List V}, l.all D.flat = true → Reps K ci M H l vs → vs = l.map D.v
  | [], vs, _, r => by rw [Reps] at r; exact r
  | d :: l, vs, h, r => by
    rw [Reps] at r
    obtain ⟨v, rr, rfl, r1, r2⟩ := r
    rw [List.all_cons, Bool.and_eq_true] at h
    rw [List.map_cons, r1.flat h.1, Reps.flat h.2 r2]
theorem all_flat {l : List D} (h : l.all D.flat = true) : (l.map D.v).all flatV = true := by
  rw [List.all_map]
  exact List.all_eq_true.mpr fun x hx => D.flat_v (List.all_eq_true.mp h x hx)
theorem Rel.flat {F : Fr X.K ci} {T : List (A × V)} {Γ : Ga} {S : So} {σ : L2.St} {H : Hp} (r : Rel F T Γ S σ H) {d : D} {v : V} (h : (A.d d, v) ∈ T) (hf : d.flat = true) : v = d.v := by
  obtain ⟨ρ, r⟩ := r
  exact Rep.flat hf (r.top h)
/-- Python's == of flat data -/
def feq : D → D → Bool
  | .non, .non => true
  | .bl a, .bl b => a == b
  | .bl a, .int b => (if a then 1 else 0) == b
  | .int a, .bl b => a == (if b then 1 else 0)
  | .int a, .int b => a == b
  | .str a, .str b => decide (a = b)
  | _, _ => false
theorem feq_eqV {x y : D} (hx : x.flat = true) (hy : y.flat = true) : eqV x.v y.v = feq x y := by
  cases x <;> cases hx <;> cases y <;> first | rfl | cases hy
/-- x in xs (flat things) -/
def gIn (neg : Bool) (S : So) (a b : A) : Option D := match a with
  | .d x => (viewQ S b).bind fun l => if x.flat && l.all D.flat then some (.bl (if neg then !(l.any fun y => feq y x) else l.any fun y => feq y x)) else none
  | _ => none
theorem in_any {l : List D} {x : D} (hx : x.flat = true) (hl : l.all D.flat = true) : inV x.v (l.map D.v) = l.any fun y => feq y x := by
  unfold inV
  rw [List.any_map]
  induction l with
  | nil => rfl
  | cons y l ih =>
    rw [List.all_cons, Bool.and_eq_true] at hl
    rw [List.any_cons, List.any_cons, ih hl.2]
    show (eqV y.v x.v || _) = _
    rw [feq_eqV hl.1 hx]
theorem gIn_ok {neg : Bool} {F : Fr X.K ci} {T : List (A × V)} {Γ : Ga} {S : So} {σ : L2.St} {H : Hp} {x y : V} {a b : A} {d : D} (r : Rel F T Γ S σ H) (hx : (a, x) ∈ T) (hy : (b, y) ∈ T) (e : gIn neg S a b = some d) :
    ∃ p xs, y = .ref p ∧ (SqL X.K H p xs ∨ SqT X.K H p xs) ∧ flatV x = true ∧ xs.all flatV = true ∧ d = .bl (if neg then !inV x xs else inV x xs) := by
  unfold gIn at e
  split at e
  · rename_i u
    cases e1 : viewQ S b with
    | none => rw [e1] at e; cases e
    | some l =>
      rw [e1, Option.bind_some] at e
      split at e
      · rename_i hf
        rw [Bool.and_eq_true] at hf
        cases e
        obtain ⟨ρ, r⟩ := r
        obtain ⟨p, vs, rfl, hq, R⟩ := r.viewQ (r.top hy) e1
        have hv := Reps.flat hf.2 R
        subst hv
        have hu := Rep.flat hf.1 (r.top hx)
        subst hu
        exact ⟨p, _, rfl, hq, D.flat_v hf.1, all_flat hf.2, by rw [in_any hf.1 hf.2]⟩
      · cases e
  · cases e
theorem o_in : OpG ci X (compareOp .In) (gIn false) := ⟨_, op_in_seq, fun F T Γ S σ H x y a b d r hx hy e Q k => by
  obtain ⟨p, xs, rfl, hq, f1, f2, rfl⟩ := gIn_ok r hx hy e
  exact ⟨p, xs, rfl, hq, f1, f2, k _ _ (r.bl _)⟩⟩
/-- c in s: a sign in a text -/
def gInS (neg : Bool) (_ : So) (a b : A) : Option D := match a, b with
  | .d (.str x), .d (.str z) => if neg then some (.bl (!(!(Builtin.Str.occurrences z x 0 z.length 1).isEmpty))) else some (.bl (!(Builtin.Str.occurrences z x 0 z.length 1).isEmpty))
  | _, _ => none
theorem o_inS : OpG ci X (compareOp .In) (gInS false) := ⟨_, op_in_str, fun F T Γ S σ H x y a b d r hx hy e Q k => by
  unfold gInS at e
  split at e
  · cases e
    exact ⟨_, _, r.asStr hx, r.asStr hy, k _ _ (r.bl _)⟩
  · cases e⟩
mutual
def D.py : D → Option PyData
  | .non => some .none
  | .bl b => some (.bool b)
  | .int i => some (.int i)
  | .str s => some (.str s)
  | .tup l => (D.pys l).map .tuple
  | .lst l => (D.pys l).map .list
  | _ => none
def D.pys : List D → Option (List PyData)
  | [] => some []
  | d :: l => (D.py d).bind fun x => (D.pys l).map (x :: ·)
end
mutual
theorem Rep.dp {K : PySem.W.Frag} {M : List Addr} {H : Hp} : ∀ (d : D) (v : V) (x : PyData), d.py = some x → Rep K ci M H d v → Dp K H v x
  | .non, v, x, h, r => by rw [D.py] at h; cases h; rw [Rep] at r; subst r; exact .non
  | .bl _, v, x, h, r => by rw [D.py] at h; cases h; rw [Rep] at r; subst r; exact .bl _
  | .int _, v, x, h, r => by rw [D.py] at h; cases h; rw [Rep] at r; subst r; exact .int _
  | .str _, v, x, h, r => by rw [D.py] at h; cases h; rw [Rep] at r; subst r; exact .str _
  | .tup l, v, x, h, r => by
    rw [D.py] at h
    cases e : D.pys l with
    | none => rw [e] at h; cases h
    | some xs =>
      rw [e] at h; cases h
      rw [Rep] at r
      obtain ⟨p, vs, rfl, q, R⟩ := r
      exact .tup (st_rd q) (Reps.dp l vs xs e R)
  | .lst l, v, x, h, r => by
    rw [D.py] at h
    cases e : D.pys l with
    | none => rw [e] at h; cases h
    | some xs =>
      rw [e] at h; cases h
      rw [Rep] at r
      obtain ⟨p, vs, rfl, q, R⟩ := r
      exact .lst (sq_rd q) (Reps.dp l vs xs e R)
  | .ins _ _, v, x, h, r => by rw [D.py] at h <;> first | cases h | (intros; intro z; cases z)
  | .dic _ _, v, x, h, r => by rw [D.py] at h <;> first | cases h | (intros; intro z; cases z)
  | .fn _, v, x, h, r => by rw [D.py] at h <;> first | cases h | (intros; intro z; cases z)
  | .exc _ _ _, v, x, h, r => by rw [D.py] at h <;> first | cases h | (intros; intro z; cases z)
theorem Reps.dp {K : PySem.W.Frag} {M : List Addr} {H : Hp} : ∀ (l : List D) (vs : List V) (xs : List PyData), D.pys l = some xs → Reps K ci M H l vs → DpAll K H vs xs
  | [], vs, xs, h, r => by rw [D.pys] at h; cases h; rw [Reps] at r; subst r; exact .nil
  | d :: l, vs, xs, h, r => by
    rw [D.pys] at h
    cases e1 : D.py d with
    | none => rw [e1] at h; cases h
    | some x =>
      rw [e1, Option.bind_some] at h
      cases e2 : D.pys l with
      | none => rw [e2] at h; cases h
      | some ys =>
        rw [e2] at h; cases h
        rw [Reps] at r
        obtain ⟨v, rr, rfl, r1, r2⟩ := r
        exact .cons (Rep.dp d v x e1 r1) (Reps.dp l rr ys e2 r2)
end
/-- a slot's data -/
def valD (S : So) : A → Option D
  | .d x => some x
  | .loc k => (viewL S (.loc k)).map .lst
theorem valD_dp {F : Fr X.K ci} {ρ : List Addr} {T : List (A × V)} {Γ : Ga} {S : So} {σ : L2.St} {H : Hp} {x : V} {a : A} {d : D} {y : PyData} (r : RelR F ρ T Γ S σ H) (hx : (a, x) ∈ T) (e : valD S a = some d) (ey : d.py = some y) : Dp X.K H x y := by
  cases a with
  | d u => cases e; exact Rep.dp _ _ _ ey (r.top hx)
  | loc k =>
    rw [valD] at e
    cases e1 : viewL S (.loc k) with
    | none => rw [e1] at e; cases e
    | some l =>
      rw [e1] at e; cases e
      obtain ⟨p, vs, rfl, hq, R⟩ := r.viewL (r.top hx) e1
      rw [D.py] at ey
      cases e2 : D.pys l with
      | none => rw [e2] at ey; cases ey
      | some xs => rw [e2] at ey; cases ey; exact .lst hq (Reps.dp l vs xs e2 R)
def deq (x y : D) : Option Bool := x.py.bind fun a => y.py.bind fun b => if SeqAt.shaped a && SeqAt.shaped b then some (PyData.eqv a b) else none
def gEq (neg : Bool) (S : So) (a b : A) : Option D := (valD S a).bind fun x => (valD S b).bind fun y => (deq x y).map fun c => .bl (if neg then !c else c)
theorem gEq_ok {neg : Bool} {F : Fr X.K ci} {T : List (A × V)} {Γ : Ga} {S : So} {σ : L2.St} {H : Hp} {x y : V} {a b : A} {d : D} (r : Rel F T Γ S σ H) (hx : (a, x) ∈ T) (hy : (b, y) ∈ T) (e : gEq neg S a b = some d) :
    ∃ u w, Dp X.K H x u ∧ Dp X.K H y w ∧ SeqAt.shaped u = true ∧ SeqAt.shaped w = true ∧ d = .bl (if neg then !PyData.eqv u w else PyData.eqv u w) := by
  unfold gEq at e
  cases e1 : valD S a with
  | none => rw [e1] at e; cases e
  | some x' =>
    rw [e1, Option.bind_some] at e
    cases e2 : valD S b with
    | none => rw [e2] at e; cases e
    | some y' =>
      rw [e2, Option.bind_some] at e
      unfold deq at e
      cases e3 : x'.py with
      | none => rw [e3] at e; cases e
      | some u =>
        rw [e3, Option.bind_some] at e
        cases e4 : y'.py with
        | none => rw [e4] at e; cases e
        | some w =>
          rw [e4, Option.bind_some] at e
          by_cases hs : (SeqAt.shaped u && SeqAt.shaped w) = true
          · rw [if_pos hs] at e
            rw [Bool.and_eq_true] at hs
            cases e
            obtain ⟨ρ, r⟩ := r
            exact ⟨u, w, valD_dp r hx e1 e3, valD_dp r hy e2 e4, hs.1, hs.2, rfl⟩
          · rw [if_neg hs] at e; cases e
theorem o_eq (hu : X.A.units + 64 < cLine) : OpG ci X (compareOp .Eq) (gEq false) := ⟨_, op_eqD hu, fun F T Γ S σ H x y a b d r hx hy e Q k => by
  obtain ⟨u, w, h1, h2, h3, h4, rfl⟩ := gEq_ok r hx hy e
  exact ⟨u, w, h1, h2, h3, h4, k _ _ (r.bl _)⟩⟩
theorem o_ne (hu : X.A.units + 64 < cLine) : OpG ci X (compareOp .NotEq) (gEq true) := ⟨_, op_neD hu, fun F T Γ S σ H x y a b d r hx hy e Q k => by
  obtain ⟨u, w, h1, h2, h3, h4, rfl⟩ := gEq_ok r hx hy e
  exact ⟨u, w, h1, h2, h3, h4, k _ _ (r.bl _)⟩⟩
/-- x is None -/
def gIsN (neg : Bool) (_ : So) (a b : A) : Option D := match a, b with
  | .d .non, .d .non => some (.bl (!neg))
  | .d _, .d .non => some (.bl neg)
  | .loc _, .d .non => some (.bl neg)
  | _, _ => none
theorem Rep.notNon {K : PySem.W.Frag} {M : List Addr} {H : Hp} : ∀ {d : D} {v : V}, d ≠ .non → Rep K ci M H d v → v ≠ .non
  | .non, v, h, _ => absurd rfl h
  | .bl _, v, _, r => by rw [Rep] at r; subst r; intro z; cases z
  | .int _, v, _, r => by rw [Rep] at r; subst r; intro z; cases z
  | .str _, v, _, r => by rw [Rep] at r; subst r; intro z; cases z
  | .tup _, v, _, r => by rw [Rep] at r; obtain ⟨_, _, rfl, _⟩ := r; intro z; cases z
  | .lst _, v, _, r => by rw [Rep] at r; obtain ⟨_, _, rfl, _⟩ := r; intro z; cases z
  | .ins _ _, v, _, r => by rw [Rep] at r; obtain ⟨_, _, _, rfl, _⟩ := r; intro z; cases z
  | .dic _ _, v, _, r => by rw [Rep] at r; obtain ⟨_, _, rfl, _⟩ := r; intro z; cases z
  | .fn _, v, _, r => by rw [Rep] at r; subst r; intro z; cases z
  | .exc _ _ _, v, _, r => by rw [Rep] at r; obtain ⟨_, _, rfl, _⟩ := r; intro z; cases z
theorem gIsN_ok {neg : Bool} {F : Fr X.K ci} {T : List (A × V)} {Γ : Ga} {S : So} {σ : L2.St} {H : Hp} {x y : V} {a b : A} {d : D} (r : Rel F T Γ S σ H) (hx : (a, x) ∈ T) (hy : (b, y) ∈ T) (e : gIsN neg S a b = some d) :
    y = .non ∧ d = .bl (if neg then !decide (x = .non) else decide (x = .non)) := by
  unfold gIsN at e
  split at e
  · cases e
    rw [r.asNon hx]
    exact ⟨r.asNon hy, by cases neg <;> rfl⟩
  · rename_i u hu
    cases e
    obtain ⟨ρ, r'⟩ := id r
    have : x ≠ .non := Rep.notNon (fun z => hu (by rw [z])) (r'.top hx)
    exact ⟨r.asNon hy, by rw [decide_eq_false this]; cases neg <;> rfl⟩
  · cases e
    obtain ⟨ρ, r'⟩ := id r
    obtain ⟨p, _, rfl⟩ := r'.top hx
    exact ⟨r.asNon hy, by cases neg <;> rfl⟩
  · cases e
theorem o_is : OpG ci X (compareOp .Is) (gIsN false) := ⟨_, op_isN, fun F T Γ S σ H x y a b d r hx hy e Q k => by
  obtain ⟨h1, rfl⟩ := gIsN_ok r hx hy e
  exact ⟨h1, k _ _ (r.bl _)⟩⟩
end
end LP
namespace LP
open PySem PySem.Spec PyProof.Rows L2
section
variable {ci : Ci} {X : Cx}
def gIx (S : So) (a b : A) : Option D := match b with
  | .d (.int i) => match a with
    | .d (.str s) => if s.length ≤ sizeLine then (atI s.cps.toList i).map fun c => .str ⟨#[c]⟩ else none
    | a => (viewQ S a).bind fun l => atI l i
  | _ => none
theorem atI_reps {K : PySem.W.Frag} {M : List Addr} {H : Hp} {l : List D} {vs : List V} {i : Int} {d : D} (R : Reps K ci M H l vs) (e : atI l i = some d) : ∃ v, atI vs i = some v ∧ Rep K ci M H d v := by
  unfold atI at e ⊢
  rw [← R.length]
  cases e1 : ixN l.length i with
  | none => rw [e1] at e; cases e
  | some j =>
    rw [e1, Option.bind_some] at e
    rw [Option.bind_some]
    exact R.getD e
theorem rp_ix {a b : Expr} {pos : Pos} {fa fb : QF} (ha : RP ci X a fa) (hb : RP ci X b fb) (hs : PlainIx b := by exact fun _ _ => rfl) : RP ci X (.Subscript a b pos) (fOp gIx fa fb) := fun F T Γ S σ H z r q => by
  obtain ⟨x, y, d, e1, e2, e3, rfl⟩ := op_some q
  refine wpX_of (pe_ix ix_seq pe_wp pe_wp hs) (wpX_mono (two ha hb r e1 e2) fun v H1 h1 => wpX_mono h1 fun u H2 h2 => ?_)
  unfold gIx at e3
  split at e3
  · rename_i i
    have hu := h2.asInt (v := u) List.mem_cons_self
    split at e3
    · rename_i s
      have hv := h2.asStr (v := v) (i := s) (by simp)
      split at e3
      · rename_i hl
        cases e4 : atI s.cps.toList i with
        | none => rw [e4] at e3; cases e3
        | some c =>
          rw [e4] at e3; cases e3
          exact .inr (.inr ⟨s, i, c, hv, hu, hl, e4, (h2.drop fun q hq => by simp [hq] : Rel F T Γ S σ H2).str _⟩)
      · cases e3
    · cases e4 : viewQ S x with
      | none => rw [e4] at e3; cases e3
      | some l =>
        rw [e4, Option.bind_some] at e3
        obtain ⟨ρ, r2⟩ := h2
        obtain ⟨p, vs, rfl, hq, R⟩ := r2.viewQ (r2.top (a := x) (v := v) (by simp)) e4
        obtain ⟨w, hw, rw'⟩ := atI_reps R e3
        have fin : Rel F ((.d d, w) :: T) Γ S σ H2 := ⟨ρ, (r2.push (a := .d d) (v := w) rw').drop drop3⟩
        rcases hq with hq | hq
        · exact .inl ⟨p, vs, i, w, rfl, hu, hq, hw, fin⟩
        · exact .inr (.inl ⟨p, vs, i, w, rfl, hu, hq, hw, fin⟩)
  · cases e3
/-- a part of a slice -/
abbrev QO := Ga → So → Option (Option Int)
def wpO (X : Cx) (e : Option Expr) : TO := fun σ H Q => ∀ (pins : List (Addr × Obj)) (s : Shared), Inv X pins σ H s → wpAny (model X.prog X.w) X.A (evalPart e X.env) (fun u s' => ∃ o H', Inv X pins σ H' s' ∧ IsPart u o ∧ Q o H') X.xe s
theorem po_wp {e : Option Expr} : PO X e (wpO X e) := ⟨fun pins s σ H Q I h => h pins s I⟩
theorem wpO_of {e : Option Expr} {t : TO} {σ : L2.St} {H : Hp} (h : PO X e t) {Q : Option Int → Hp → Prop} (q : t σ H Q) : wpO X e σ H Q := fun pins s I => h.run pins s σ H Q I q
theorem wpO_mono {e : Option Expr} {σ : L2.St} {H : Hp} {Q Q' : Option Int → Hp → Prop} (h : wpO X e σ H Q) (k : ∀ b H', Q b H' → Q' b H') : wpO X e σ H Q' := fun pins s I => thn (h pins s I) fun _ _ ⟨o, H', I', p, q⟩ => ⟨o, H', I', p, k _ H' q⟩
def RO (ci : Ci) (X : Cx) (e : Option Expr) (f : QO) : Prop := ∀ (F : Fr X.K ci) T Γ S σ H o, Rel F T Γ S σ H → f Γ S = some o → wpO X e σ H (fun c H' => c = o ∧ Rel F T Γ S σ H')
def oN : QO := fun _ _ => some none
def oS (f : QF) : QO := fun Γ S => (f Γ S).bind fun a => match a with | .d (.int i) => some (some i) | _ => none
theorem ro_n : RO ci X none oN := fun F T Γ S σ H o r q => by
  cases q; exact wpO_of po_none ⟨rfl, r⟩
theorem ro_s {e : Expr} {f : QF} (h : RP ci X e f) : RO ci X (some e) (oS f) := fun F T Γ S σ H o r q => by
  unfold oS at q
  cases e1 : f Γ S with
  | none => rw [e1] at q; cases q
  | some a =>
    rw [e1, Option.bind_some] at q
    split at q
    · cases q
      exact wpO_of (po_some pe_wp) (wpX_mono (h F T Γ S σ H _ r e1) fun v H' h' => ⟨_, h'.asInt List.mem_cons_self, rfl, h'.tail⟩)
    · cases q
def cutD (l : List D) (lo hi : Option Int) : List D := (l.drop (HT.sIx l.length 0 lo)).take (HT.sIx l.length l.length hi - HT.sIx l.length 0 lo)
theorem cut_reps {K : PySem.W.Frag} {M : List Addr} {H : Hp} {l : List D} {vs : List V} {lo hi : Option Int} (R : Reps K ci M H l vs) : Reps K ci M H (cutD l lo hi) (cutV vs lo hi) := by
  unfold cutD cutV
  rw [R.length]
  exact (R.drop _).take _
theorem sl_some {f : QF} {lo hi : QO} {k : A → Option Int → Option Int → Option A} {Γ : Ga} {S : So} {z : A} (h : ((f Γ S).bind fun a => (lo Γ S).bind fun l => (hi Γ S).bind fun u => k a l u) = some z) : ∃ a l u, f Γ S = some a ∧ lo Γ S = some l ∧ hi Γ S = some u ∧ k a l u = some z := by
  cases e1 : f Γ S with
  | none => rw [e1] at h; cases h
  | some a =>
    cases e2 : lo Γ S with
    | none => rw [e1, e2] at h; cases h
    | some l =>
      cases e3 : hi Γ S with
      | none => rw [e1, e2, e3] at h; cases h
      | some u => rw [e1, e2, e3] at h; exact ⟨a, l, u, rfl, rfl, rfl, h⟩
theorem slice_run {e : Expr} {lo hi : Option Expr} {f : QF} {fl fh : QO} (he : RP ci X e f) (hl : RO ci X lo fl) (hh : RO ci X hi fh) {F : Fr X.K ci} {T : List (A × V)} {Γ : Ga} {S : So} {σ : L2.St} {H : Hp} {a : A} {l u : Option Int} (r : Rel F T Γ S σ H) (e1 : f Γ S = some a) (e2 : fl Γ S = some l) (e3 : fh Γ S = some u)
    {R : V → Option Int → Option Int → Hp → Prop} (k : ∀ v H', Rel F ((a, v) :: T) Γ S σ H' → R v l u H') : wpX X e σ H fun v H1 => wpO X lo σ H1 fun c H2 => wpO X hi σ H2 fun d H3 => R v c d H3 :=
  wpX_mono (he F T Γ S σ H a r e1) fun v H1 r1 => wpO_mono (hl F _ Γ S σ H1 l r1 e2) fun c H2 ⟨q2, r2⟩ => wpO_mono (hh F _ Γ S σ H2 u r2 e3) fun d H3 ⟨q3, r3⟩ => by
    subst q2 q3; exact k v H3 r3
theorem as1 {K : PySem.W.Frag} {F : Fr K ci} {T : List (A × V)} {a : A} {vs : List V} (hl : [a].length = vs.length) (h : ∀ q ∈ [a].zip vs, q ∈ T) : ∃ v, vs = [v] ∧ (a, v) ∈ T := by
  match vs, hl with
  | [v], _ => exact ⟨v, rfl, h _ (by simp)⟩
theorem as2 {K : PySem.W.Frag} {F : Fr K ci} {T : List (A × V)} {a b : A} {vs : List V} (hl : [a, b].length = vs.length) (h : ∀ q ∈ [a, b].zip vs, q ∈ T) : ∃ v u, vs = [v, u] ∧ (a, v) ∈ T ∧ (b, u) ∈ T := by
  match vs, hl with
  | [v, u], _ => exact ⟨v, u, rfl, h _ (by simp), h _ (by simp)⟩
def gLen (S : So) : List A → Option D
  | [.d (.str s)] => if s.length ≤ sizeLine then some (.int s.length) else none
  | [.d (.ins _ _)] => none
  | [a] => (viewQ S a).map fun l => .int l.length
  | _ => none
theorem c_len : CallG ci X (.builtin "len") gLen := ⟨_, call_len, fun F T Γ S σ H as vs d r hl hT e Q k => by
  unfold gLen at e
  split at e
  · split at e
    · rename_i hs
      obtain ⟨v, rfl, hv⟩ := as1 (F := F) hl hT
      have := r.asStr hv
      subst this
      cases e
      exact ⟨_, _, rfl, ⟨hs, rfl⟩, k _ _ (r.int _)⟩
    · cases e
  · cases e
  · rename_i a _ _
    obtain ⟨v, rfl, hv⟩ := as1 (F := F) hl hT
    cases e1 : viewQ S a with
    | none => rw [e1] at e; cases e
    | some l =>
      rw [e1] at e; cases e
      obtain ⟨ρ, r'⟩ := id r
      obtain ⟨p, vs, rfl, hq, R⟩ := r'.viewQ (r'.top hv) e1
      refine ⟨_, vs.length, rfl, ?_, ?_⟩
      · rcases hq with hq | hq
        · exact .inl ⟨vs, hq, rfl⟩
        · exact .inr ⟨vs, hq, rfl⟩
      · rw [← R.length]; exact k _ _ (r.int _)
  · cases e⟩
def gInt (_ : So) : List A → Option D
  | [.d (.int i)] => some (.int i)
  | [.d (.bl b)] => some (.int (if b then 1 else 0))
  | _ => none
theorem c_int : CallG ci X (.type "int") gInt := ⟨_, call_int1, fun F T Γ S σ H as vs d r hl hT e Q k => by
  unfold gInt at e
  split at e
  · obtain ⟨v, rfl, hv⟩ := as1 (F := F) hl hT
    cases e
    exact .inl ⟨_, by rw [r.asInt hv], k _ _ (r.int _)⟩
  · obtain ⟨v, rfl, hv⟩ := as1 (F := F) hl hT
    cases e
    exact .inr ⟨_, by rw [r.asBl hv], k _ _ (r.int _)⟩
  · cases e⟩
def gStr (_ : So) : List A → Option D
  | [.d (.int i)] => if i.natAbs.log2 < 1920 then some (.str (toString i)) else none
  | _ => none
theorem c_str : CallG ci X (.type "str") gStr := ⟨_, call_str_int, fun F T Γ S σ H as vs d r hl hT e Q k => by
  unfold gStr at e
  split at e
  · split at e
    · rename_i h
      obtain ⟨v, rfl, hv⟩ := as1 (F := F) hl hT
      cases e
      exact ⟨_, by rw [r.asInt hv], h, k _ _ (r.str _)⟩
    · cases e
  · cases e⟩
/-- max, min of two dInts -/
def g2 (f : Int → Int → Int) (_ : So) : List A → Option D
  | [.d (.int i), .d (.int j)] => some (.int (f i j))
  | _ => none
abbrev gMax2 := g2 fun i j => if j > i then j else i
theorem c_max2 (hc : X.calm = true) : CallG ci X (.builtin "max") gMax2 := ⟨_, call_max2 hc, fun F T Γ S σ H as vs d r hl hT e Q k => by
  unfold gMax2 g2 at e
  split at e
  · obtain ⟨v, u, rfl, hv, hu⟩ := as2 (F := F) hl hT
    cases e
    exact ⟨_, _, by rw [r.asInt hv, r.asInt hu], k _ _ (r.int _)⟩
  · cases e⟩
def gList (S : So) : List A → Option D
  | [a] => (viewQ S a).map .lst
  | _ => none
theorem c_list : CallG ci X (.type "list") gList := ⟨_, call_list_of, fun F T Γ S σ H as vs d r hl hT e Q k => by
  unfold gList at e
  split at e
  · rename_i a
    obtain ⟨v, rfl, hv⟩ := as1 (F := F) hl hT
    cases e1 : viewQ S a with
    | none => rw [e1] at e; cases e
    | some l =>
      rw [e1] at e; cases e
      obtain ⟨ρ, r⟩ := r
      obtain ⟨p, vs, rfl, hq, R⟩ := r.viewQ (r.top hv) e1
      exact ⟨p, vs, rfl, hq, fun l hl => k _ _ ⟨ρ, r.newL hl R⟩⟩
  · cases e⟩
def dBools : List D → Option (List Bool)
  | [] => some []
  | .bl b :: l => (dBools l).map (b :: ·)
  | _ => none
def dInts : List D → Option (List Int)
  | [] => some []
  | .int b :: l => (dInts l).map (b :: ·)
  | _ => none
def dStrs : List D → Option (List Str)
  | [] => some []
  | .str b :: l => (dStrs l).map (b :: ·)
  | _ => none
theorem ints_map : ∀ l : List Int, dInts (l.map D.int) = some l
  | [] => rfl
  | b :: l => by rw [List.map_cons, dInts, ints_map l]; rfl
theorem strs_map : ∀ l : List Str, dStrs (l.map D.str) = some l
  | [] => rfl
  | b :: l => by rw [List.map_cons, dStrs, strs_map l]; rfl
theorem bools_reps {K : PySem.W.Frag} {M : List Addr} {H : Hp} : ∀ {l : List D} {vs : List V} {bs : List Bool}, dBools l = some bs → Reps K ci M H l vs → vs = bs.map V.bl
  | [], vs, bs, h, r => by cases h; rw [Reps] at r; exact r
  | d :: l, vs, bs, h, r => by
    cases d <;> first | (simp [dBools] at h; done) | skip
    rename_i b
    rw [dBools] at h
    cases e : dBools l with
    | none => rw [e] at h; cases h
    | some cs =>
      rw [e] at h; cases h
      rw [Reps] at r
      obtain ⟨v, rr, rfl, r1, r2⟩ := r
      rw [Rep] at r1
      rw [List.map_cons, r1, bools_reps e r2]
theorem ints_reps {K : PySem.W.Frag} {M : List Addr} {H : Hp} : ∀ {l : List D} {vs : List V} {bs : List Int}, dInts l = some bs → Reps K ci M H l vs → vs = bs.map V.int
  | [], vs, bs, h, r => by cases h; rw [Reps] at r; exact r
  | d :: l, vs, bs, h, r => by
    cases d <;> first | (simp [dInts] at h; done) | skip
    rename_i b
    rw [dInts] at h
    cases e : dInts l with
    | none => rw [e] at h; cases h
    | some cs =>
      rw [e] at h; cases h
      rw [Reps] at r
      obtain ⟨v, rr, rfl, r1, r2⟩ := r
      rw [Rep] at r1
      rw [List.map_cons, r1, ints_reps e r2]
theorem strs_reps {K : PySem.W.Frag} {M : List Addr} {H : Hp} : ∀ {l : List D} {vs : List V} {bs : List Str}, dStrs l = some bs → Reps K ci M H l vs → vs = bs.map V.str
  | [], vs, bs, h, r => by cases h; rw [Reps] at r; exact r
  | d :: l, vs, bs, h, r => by
    cases d <;> first | (simp [dStrs] at h; done) | skip
    rename_i b
    rw [dStrs] at h
    cases e : dStrs l with
    | none => rw [e] at h; cases h
    | some cs =>
      rw [e] at h; cases h
      rw [Reps] at r
      obtain ⟨v, rr, rfl, r1, r2⟩ := r
      rw [Rep] at r1
      rw [List.map_cons, r1, strs_reps e r2]
def gBools (f : List Bool → Bool) (S : So) : List A → Option D
  | [a] => (viewL S a).bind fun l => (dBools l).map fun bs => .bl (f bs)
  | _ => none
theorem gBools_ok {f : List Bool → Bool} {F : Fr X.K ci} {T : List (A × V)} {Γ : Ga} {S : So} {σ : L2.St} {H : Hp} {as : List A} {vs : List V} {d : D} (r : Rel F T Γ S σ H) (hl : as.length = vs.length) (hT : ∀ q ∈ as.zip vs, q ∈ T) (e : gBools f S as = some d) :
    ∃ a bs, vs = [V.ref a] ∧ SqL X.K H a (bs.map V.bl) ∧ d = .bl (f bs) := by
  unfold gBools at e
  split at e
  · rename_i a
    obtain ⟨v, rfl, hv⟩ := as1 (F := F) hl hT
    cases e1 : viewL S a with
    | none => rw [e1] at e; cases e
    | some l =>
      rw [e1, Option.bind_some] at e
      cases e2 : dBools l with
      | none => rw [e2] at e; cases e
      | some bs =>
        rw [e2] at e; cases e
        obtain ⟨ρ, r⟩ := r
        obtain ⟨p, vs, rfl, hq, R⟩ := r.viewL (r.top hv) e1
        have := bools_reps e2 R
        subst this
        exact ⟨p, bs, rfl, hq, rfl⟩
  · cases e
theorem c_all (hc : X.calm = true) : CallG ci X (.builtin "all") (gBools fun l => l.all id) := ⟨_, cr_all hc, fun F T Γ S σ H as vs d r hl hT e Q k => by
  obtain ⟨a, bs, rfl, hq, rfl⟩ := gBools_ok r hl hT e
  exact ⟨a, bs, rfl, hq, k _ _ (r.bl _)⟩⟩
theorem c_any (hc : X.calm = true) : CallG ci X (.builtin "any") (gBools fun l => l.any id) := ⟨_, cr_any hc, fun F T Γ S σ H as vs d r hl hT e Q k => by
  obtain ⟨a, bs, rfl, hq, rfl⟩ := gBools_ok r hl hT e
  exact ⟨a, bs, rfl, hq, k _ _ (r.bl _)⟩⟩
def gSum (S : So) : List A → Option D
  | [a] => (viewL S a).bind fun l => (dInts l).map fun bs => .int bs.sum
  | _ => none
theorem c_sum (hc : X.calm = true) : CallG ci X (.builtin "sum") gSum := ⟨_, cr_sum hc, fun F T Γ S σ H as vs d r hl hT e Q k => by
  unfold gSum at e
  split at e
  · rename_i a
    obtain ⟨v, rfl, hv⟩ := as1 (F := F) hl hT
    cases e1 : viewL S a with
    | none => rw [e1] at e; cases e
    | some l =>
      rw [e1, Option.bind_some] at e
      cases e2 : dInts l with
      | none => rw [e2] at e; cases e
      | some bs =>
        rw [e2] at e; cases e
        obtain ⟨ρ, r'⟩ := id r
        obtain ⟨p, vs, rfl, hq, R⟩ := r'.viewL (r'.top hv) e1
        have := ints_reps e2 R
        subst this
        exact ⟨p, bs, rfl, hq, k _ _ (r.int _)⟩
  · cases e⟩
end
end LP
namespace LP
open PySem PySem.Spec PyProof.Rows L2
def gWp (X : Cx) (tg : Expr) : TG := fun v σ H Q => ∀ (pins : List (Addr × Obj)) (s : Shared) (u : Value), Inv X pins σ H s → RelV v u → wpAny (model X.prog X.w) X.A (assign tg X.env u) (fun _ s' => ∃ σ' H', Inv X pins σ' H' s' ∧ Q σ' H') X.xe s
theorem pg_wp {X : Cx} {tg : Expr} : PG X tg (gWp X tg) := ⟨fun pins s σ H v u Q I r h => h pins s u I r⟩
theorem gWp_of {X : Cx} {tg : Expr} {t : TG} (h : PG X tg t) {v : V} {σ : L2.St} {H : Hp} {Q : L2.St → Hp → Prop} (q : t v σ H Q) : gWp X tg v σ H Q := fun pins s u I r => h.run pins s σ H v u Q I r q
theorem gWp_mono {X : Cx} {tg : Expr} {v : V} {σ : L2.St} {H : Hp} {Q Q' : L2.St → Hp → Prop} (h : gWp X tg v σ H Q) (k : ∀ σ' H', Q σ' H' → Q' σ' H') : gWp X tg v σ H Q' := fun pins s u I r => thn (h pins s u I r) fun _ _ ⟨σ', H', I', q⟩ => ⟨σ', H', I', k _ _ q⟩
abbrev TgF := Ga → D → Option Ga
def RG (ci : Ci) (X : Cx) (tg : Expr) (t : TgF) (vs : List Nat) : Prop := ∀ (F : Fr X.K ci) T Γ S σ H d x Γ', Rel F T Γ S σ H → (A.d d, x) ∈ T → t Γ d = some Γ' →
  gWp X tg x σ H (fun σ' H' => (∀ us : List Nat, (∀ i ∈ vs, i ∈ us) → L2.wipe σ' us = L2.wipe σ us) ∧ Rel F T Γ' S σ' H')
def tgN (i : Nat) : TgF := fun Γ d => some (Γ.set i (some (.d d)))
def setAll (Γ : Ga) : List Nat → List D → Ga
  | i :: is, d :: ds => setAll (Γ.set i (some (.d d))) is ds
  | _, _ => Γ
def tgT (is : List Nat) : TgF := fun Γ d => match d with
  | .tup l => if l.length = is.length then some (setAll Γ is l) else none
  | _ => none
section
variable {ci : Ci} {X : Cx}
theorem Rel.put {K : PySem.W.Frag} {F : Fr K ci} {T : List (A × V)} {Γ : Ga} {S : So} {σ : L2.St} {H : Hp} (r : Rel F T Γ S σ H) {a : A} {v : V} (i : Nat) (h : (a, v) ∈ T) : Rel F T (Γ.set i (some a)) S (σ.set i (some v)) H := by
  obtain ⟨ρ, r⟩ := r
  exact ⟨ρ, r.put i (r.top h)⟩
theorem rg_n (i : Nat) {x : Str} {pos : Pos} (hN : X.N.Nodup) (hi : X.N[i]? = some x) (hx : Loc X.env.scope x) (hf : X.fn x = true ∨ X.env.scope.names.lookup x = some .local := by exact fn_of (by kernel_rfl)) : RG ci X (.Name x pos) (tgN i) [i] := fun F T Γ S σ H d x Γ' r h q => by
  cases q
  exact gWp_of (pg_name hN hi hx hf) ⟨fun us hu => wipe_set (hu i List.mem_cons_self), r.put i h⟩
/-- several names -/
def RGs (ci : Ci) (X : Cx) (es : List Expr) (is : List Nat) : Prop := ∃ t, PGs X es t ∧ ∀ (F : Fr X.K ci) T Γ S σ H ds xs, Rel F T Γ S σ H → ds.length = xs.length → ds.length = is.length → (∀ q ∈ (ds.map A.d).zip xs, q ∈ T) →
  ∀ Q : L2.St → Hp → Prop, (∀ σ' H', (∀ us : List Nat, (∀ i ∈ is, i ∈ us) → L2.wipe σ' us = L2.wipe σ us) → Rel F T (setAll Γ is ds) S σ' H' → Q σ' H') → t xs σ H Q
theorem rgs_nil : RGs ci X [] [] := ⟨_, pgs_nil, fun F T Γ S σ H ds xs r h1 h2 _ Q k => by
  cases ds with
  | cons d l => cases h2
  | nil =>
    cases xs with
    | cons v l => cases h1
    | nil => exact ⟨rfl, k _ _ (fun _ _ => rfl) r⟩⟩
theorem rgs_n (i : Nat) {x : Str} {pos : Pos} {es : List Expr} {is : List Nat} (hN : X.N.Nodup) (hi : X.N[i]? = some x) (hx : Loc X.env.scope x) (h : RGs ci X es is) (hf : X.fn x = true ∨ X.env.scope.names.lookup x = some .local := by exact fn_of (by kernel_rfl))
    (he : (assignEach (.Name x pos :: es) X.env).map (·.2) = assign (.Name x pos) X.env :: (assignEach es X.env).map (·.2) := by rfl) : RGs ci X (.Name x pos :: es) (i :: is) := by
  obtain ⟨t, ht, hk⟩ := h
  refine ⟨_, pgs_cons (pg_name hN hi hx hf) ht he, fun F T Γ S σ H ds xs r h1 h2 hT Q k => ?_⟩
  cases ds with
  | nil => cases h2
  | cons d ds =>
    cases xs with
    | nil => cases h1
    | cons v xs =>
      refine ⟨v, xs, rfl, hk F T _ S _ H ds xs (r.put i (a := .d d) (v := v) (hT _ (by simp))) (by simpa using h1) (by simpa using h2) (fun q hq => hT q (by rw [List.map_cons, List.zip_cons_cons]; exact List.mem_cons_of_mem _ hq)) Q fun σ' H' w r' => k σ' H' (fun us hu => ?_) r'⟩
      rw [w us (fun j hj => hu j (List.mem_cons_of_mem _ hj)), wipe_set (hu i List.mem_cons_self)]
theorem rg_t {es : List Expr} {k : Nat} {pos : Pos} {is : List Nat} (hc : X.calm = true) (h : RGs ci X es is) (hn : (assignEach es X.env).length = is.length := by kernel_rfl) (hst : (assignEach es X.env).findIdx? (·.1) = none := by kernel_rfl) : RG ci X (.Tuple es k pos) (tgT is) is := fun F T Γ S σ H d x Γ' r hd q => by
  obtain ⟨t, ht, hk⟩ := h
  unfold tgT at q
  split at q
  · rename_i l
    split at q
    · rename_i hl
      cases q
      obtain ⟨ρ, r⟩ := r
      obtain ⟨p, vs, rfl, hq, R⟩ := RelR.viewT (r.top hd) rfl
      have hz : l.length = vs.length := R.length
      refine gWp_of (pg_tup hc ht hn hst) ⟨p, vs, rfl, hq, by rw [← hz, hl], ?_⟩
      have r2 : Rel F ((l.map A.d).zip vs ++ T) Γ S σ H := ⟨ρ, by
        have := r.tl
        refine { r with tl := fun q hq => ?_ }
        rcases List.mem_append.mp hq with hq | hq
        · obtain ⟨i, hi⟩ := List.mem_iff_getElem?.mp hq
          rw [List.getElem?_zip_eq_some, List.getElem?_map] at hi
          obtain ⟨hi1, hi2⟩ := hi
          obtain ⟨d', hd', rd⟩ := R.get hi2
          rw [hd'] at hi1
          cases q
          simp at hi1
          subst hi1
          exact rd
        · exact this q hq⟩
      exact hk F _ Γ S σ H l vs r2 hz hl (fun q hq => List.mem_append_left _ hq) _ fun σ' H' w r' => ⟨w, r'.drop fun q hq => List.mem_append_right _ hq⟩
    · cases q
  · cases q
def wpI (X : Cx) (tg iter : Expr) : TI := fun σ H R => ∀ (pins : List (Addr × Obj)) (s : Shared), Inv X pins σ H s → wpAny (model X.prog X.w) X.A (eval iter X.env) (fun v s1 => wpAny (model X.prog X.w) X.A (pyIter v) (PIE X pins σ tg R) X.xe s1) X.xe s
theorem pi_wp {tg iter : Expr} : PI X tg iter (wpI X tg iter) := ⟨fun pins s σ H R I h => h pins s I⟩
theorem wpI_of {tg iter : Expr} {t : TI} (h : PI X tg iter t) {σ : L2.St} {H : Hp} {R : It → Hp → Prop} (q : t σ H R) : wpI X tg iter σ H R := fun pins s I => h.run pins s σ H R I q
theorem wpI_mono {tg iter : Expr} {σ : L2.St} {H : Hp} {R R' : It → Hp → Prop} (h : wpI X tg iter σ H R) (k : ∀ J H', R J H' → R' J H') : wpI X tg iter σ H R' := fun pins s I => thn (h pins s I) fun _ _ h1 => thn h1 fun _ _ ⟨it, fp, tn, J, H', e, I', T, t0, f, q⟩ => ⟨it, fp, tn, J, H', e, I', T, t0, f, k _ _ q⟩
def ItSpec (K : PySem.W.Frag) (ci : Ci) (J : It) (U : List (A × V)) (it : So → Option (List D)) (ds : List D) : Prop :=
  ds.length ≤ sizeLine ∧ ∃ G Y, Walk J ds.length G Y ∧ ∀ (F : Fr K ci) T Γ S σ H, Rel F T Γ S σ H → (∀ q ∈ U, q ∈ T) → it S = some ds → G H ∧ ∀ i x H', i < ds.length → Y i H x H' → ∃ d, ds[i]? = some d ∧ Rel F ((.d d, x) :: T) Γ S σ H'
abbrev QI := Ga → So → Option (So → Option (List D))
def RI (ci : Ci) (X : Cx) (tg iter : Expr) (fi : QI) : Prop := ∀ (F : Fr X.K ci) T Γ S σ H it ds, Rel F T Γ S σ H → fi Γ S = some it → it S = some ds → wpI X tg iter σ H (fun J H' => ∃ U, ItSpec X.K ci J U it ds ∧ Rel F (U ++ T) Γ S σ H')
def iL (f : QF) : QI := fun Γ S => (f Γ S).map fun a S' => viewL S' a
theorem ri_list {tg e : Expr} {f : QF} (h : RP ci X e f) : RI ci X tg e (iL f) := fun F T Γ S σ H it ds r q1 q2 => by
  unfold iL at q1
  cases e1 : f Γ S with
  | none => rw [e1] at q1; cases q1
  | some a =>
    rw [e1] at q1; cases q1
    refine wpI_of (pi_list pe_wp) (wpX_monoI (h F T Γ S σ H _ r e1) fun v H' hz h' => ?_)
    obtain ⟨ρ, h'⟩ := id h'
    obtain ⟨p, vs, rfl, hq, R⟩ := h'.viewL (h'.top List.mem_cons_self) q2
    refine ⟨p, rfl, ⟨vs, hq⟩, [(a, .ref p)], ⟨by rw [R.length]; exact hz p vs (.inl hq), fun H => ∃ xs, SqL X.K H p xs ∧ xs.length = ds.length, fun i H x H' => H' = H ∧ ∀ xs, SqL X.K H p xs → xs[i]? = some x, ⟨?_, ?_, ?_⟩, ?_⟩, ⟨ρ, h'⟩⟩
    · rintro i H hi ⟨xs, hs, hl⟩
      exact ⟨xs, xs[i]'(by omega), hs, by simp⟩
    · rintro H ⟨xs, hs, hl⟩
      exact ⟨xs, hs, by omega⟩
    · rintro i H x H' hi _ ⟨h1, h2⟩
      exact ⟨h1, h2⟩
    · intro F T Γ S σ H r hU hS
      obtain ⟨ρ, r⟩ := r
      have hm : (a, V.ref p) ∈ T := hU _ List.mem_cons_self
      obtain ⟨p', vs', e, hq', R'⟩ := r.viewL (r.top hm) hS
      cases e
      refine ⟨⟨vs', hq', R'.length.symm⟩, ?_⟩
      rintro i x H' hi ⟨rfl, h2⟩
      obtain ⟨d, hd, rd⟩ := R'.get (h2 vs' hq')
      exact ⟨d, hd, ρ, r.push rd⟩
/-- lo, lo + 1, .. -/
def rangeD (lo : Int) (n : Nat) : List D := (List.range n).map fun (i : Nat) => .int (lo + (i : Int))
def iR1 (f : QF) : QI := fun Γ S => (f Γ S).bind fun a => match a with
  | .d (.int j) => if -(2 ^ 62) ≤ j ∧ j ≤ 16777216 then some fun _ => some (rangeD 0 j.toNat) else none
  | _ => none
theorem range_spec {K : PySem.W.Frag} {lo : Int} {n : Nat} {it : So → Option (List D)} (hn : n ≤ 16777216) : ItSpec K ci (Itr lo n) [] it (rangeD lo n) := by
  have hl : (rangeD lo n).length = n := by simp [rangeD]
  refine ⟨by rw [hl]; exact Nat.le_trans hn (by decide), fun _ => True, YFn fun i => .int (lo + i), by rw [hl]; exact walk_range, fun F T Γ S σ H r _ _ => ⟨trivial, ?_⟩⟩
  rintro i x H' hi ⟨rfl, rfl⟩
  rw [hl] at hi
  exact ⟨.int (lo + i), by simp [rangeD, hi], r.int _⟩
theorem ri_r1 {tg e : Expr} {f : QF} {p pos : Pos} (hg : Gl X "range") (hm : X.mg "range" = none) (h : RP ci X e f) (hs : starEach [e] X.env = [(false, eval e X.env)] := by kernel_rfl) : RI ci X tg (.Call (.Name "range" p) [e] [] pos) (iR1 f) := fun F T Γ S σ H it ds r q1 q2 => by
  unfold iR1 at q1
  cases e1 : f Γ S with
  | none => rw [e1] at q1; cases q1
  | some a =>
    rw [e1, Option.bind_some] at q1
    split at q1
    · rename_i j
      split at q1
      · rename_i hj
        cases q1; cases q2
        refine wpI_of (pi_range1 hg hm (pa_cons pe_wp pa_nil hs) hs) (wpX_mono (h F T Γ S σ H _ r e1) fun v H' h' => ?_)
        have := h'.asInt List.mem_cons_self
        subst this
        exact ⟨j, rfl, hj.1, by omega, [], range_spec (by omega), h'.tail⟩
      · cases q1
    · cases q1
def compL {α β : Type} (h : α → Option (Option β)) : List α → Option (List β)
  | [] => some []
  | x :: xs => (h x).bind fun o => (compL h xs).map fun r => match o with | some y => y :: r | none => r
theorem compL_snoc {α β : Type} {h : α → Option (Option β)} {y : α} : ∀ {xs : List α} {r : List β} {o : Option β}, compL h xs = some r → h y = some o → compL h (xs ++ [y]) = some (match o with | some z => r ++ [z] | none => r)
  | [], r, o, e, e2 => by cases e; simp only [List.nil_append, compL, e2]; cases o <;> rfl
  | x :: xs, r, o, e, e2 => by
    simp only [List.cons_append, compL] at e ⊢
    cases e1 : h x with
    | none => rw [e1] at e; cases e
    | some p =>
      rw [e1, Option.bind_some] at e
      cases e3 : compL h xs with
      | none => rw [e3] at e; cases e
      | some r' =>
        rw [e3] at e; cases e
        rw [Option.bind_some, compL_snoc e3 e2]
        cases p <;> cases o <;> rfl
theorem compL_at {α β : Type} {h : α → Option (Option β)} : ∀ {xs : List α} {r : List β} {i : Nat} {x : α}, compL h xs = some r → xs[i]? = some x → ∃ o, h x = some o
  | [], r, i, x, e, hx => by simp at hx
  | y :: xs, r, i, x, e, hx => by
    simp only [compL] at e
    cases e1 : h y with
    | none => rw [e1] at e; cases e
    | some p =>
      rw [e1, Option.bind_some] at e
      cases e3 : compL h xs with
      | none => rw [e3] at e; cases e
      | some r' =>
        cases i with
        | zero => simp at hx; subst hx; exact ⟨p, e1⟩
        | succ i => exact compL_at e3 (by simpa using hx)
theorem compL_len {α β : Type} {h : α → Option (Option β)} : ∀ {xs : List α} {r : List β}, compL h xs = some r → r.length ≤ xs.length
  | [], r, e => by cases e; simp
  | y :: xs, r, e => by
    simp only [compL] at e
    cases e1 : h y with
    | none => rw [e1] at e; cases e
    | some p =>
      rw [e1, Option.bind_some] at e
      cases e3 : compL h xs with
      | none => rw [e3] at e; cases e
      | some r' =>
        rw [e3] at e; cases e
        have := compL_len e3
        cases p <;> simp <;> omega
theorem compL_map {α β γ : Type} {h : β → Option (Option γ)} {f : α → β} : ∀ {xs : List α}, compL h (xs.map f) = compL (fun x => h (f x)) xs
  | [] => rfl
  | x :: xs => by simp only [List.map_cons, compL, compL_map]
theorem compL_some {α β : Type} {f : α → β} : ∀ {xs : List α}, compL (fun x => some (some (f x))) xs = some (xs.map f)
  | [] => rfl
  | x :: xs => by simp only [List.map_cons, compL, compL_some]; rfl
theorem compL_if {α β : Type} {p : α → Bool} {f : α → β} : ∀ {xs : List α}, compL (fun x => if p x = true then some (some (f x)) else some none) xs = some ((xs.filter p).map f)
  | [] => rfl
  | x :: xs => by
    simp only [compL, compL_if, List.filter_cons]
    by_cases h : p x = true
    · simp only [h, ↓reduceIte]; rfl
    · simp only [h]; rfl
theorem compL_congr {α β : Type} {h h' : α → Option (Option β)} : ∀ {xs : List α}, (∀ x ∈ xs, h x = h' x) → compL h xs = compL h' xs
  | [], _ => rfl
  | x :: xs, k => by
    simp only [compL]
    rw [k x List.mem_cons_self, compL_congr fun y hy => k y (List.mem_cons_of_mem _ hy)]
/-- within the block of a comprehension, whatever it is made of -/
abbrev BlkX (X : Cx) (scope : Scope) (P : Cx → Prop) : Prop := ∀ (s : Shared) (H : Hp) (C : Addr) (cl : List (Str × Addr)) (fp : List Addr), P (X.blk s H scope (compEnvC scope cl C X.env) fp)
/-- its tests -/
def RC (ci : Ci) (X : Cx) (ifs : List Expr) (b : QB) : Prop := (ifs = [] ∧ b = fun _ _ => some true) ∨ ∃ e, ifs = [e] ∧ RB ci X e b
theorem rc_nil : RC ci X [] (fun _ _ => some true) := .inl ⟨rfl, rfl⟩
theorem rc_one {e : Expr} {b : QB} (h : RB ci X e b) : RC ci X [e] b := .inr ⟨e, rfl, h⟩
def eltF (t : TgF) (vs : List Nat) (b : QB) (f : QF) (Γ : Ga) (S : So) (d : D) : Option (Option D) := (t (wipeG Γ vs) d).bind fun Γ' => (b Γ' S).bind fun c => if c = true then ((f Γ' S).bind A.toD).map some else some none
def fComp (fi : QI) (t : TgF) (vs : List Nat) (b : QB) (f : QF) : QF := fun Γ S => (fi Γ S).bind fun it => (it S).bind fun ds => (compL (eltF t vs b f Γ S) ds).map fun l => .d (.lst l)
def wpC (X : Cx) (ifs : List Expr) : TT := fun σ H Q => ∀ (pins : List (Addr × Obj)) (s : Shared), Inv X pins σ H s →
    wpAny (model X.prog X.w) X.A (forIn ifs true fun c r => if r = true then do let ok ← isTrue c X.env (eval c X.env); pure (ForInStep.yield ok) else pure (ForInStep.yield r)) (TP X pins σ Q) X.xe s
theorem wpC_of {Y : Cx} {ifs : List Expr} {t : TT} (h : PTs Y ifs t) {σ : L2.St} {H : Hp} {Q : Bool → Hp → Prop} (q : t σ H Q) : wpC Y ifs σ H Q := fun pins s I => h.run pins s σ H Q I q
theorem wpC_mono {Y : Cx} {ifs : List Expr} {σ : L2.St} {H : Hp} {Q Q' : Bool → Hp → Prop} (h : wpC Y ifs σ H Q) (k : ∀ b H', Q b H' → Q' b H') : wpC Y ifs σ H Q' := fun pins s I => thn (h pins s I) fun _ _ ⟨H', I', q⟩ => ⟨H', I', k _ H' q⟩
def gB (X : Cx) (scope : Scope) (tg : Expr) : TG := fun v σ H Q => BlkX X scope fun Y => gWp Y tg v σ H Q
def tB' (X : Cx) (scope : Scope) (ifs : List Expr) : TT := fun σ H Q => BlkX X scope fun Y => wpC Y ifs σ H Q
def eB (X : Cx) (scope : Scope) (e : Expr) : TE := fun σ H Q => BlkX X scope fun Y => wpX Y e σ H Q
/-- the reading of a comprehension -/
theorem comp_run {elt tg iter : Expr} {ifs : List Expr} {scope : Scope} {vs : List Nat} {fi : QI} {t : TgF} {ws : List Nat} {b : QB} {f : QF} (hi : RI ci X tg iter fi) (hg : BlkX X scope fun Y => RG ci Y tg t ws) (hw : ∀ i ∈ ws, i ∈ vs) (hb : BlkX X scope fun Y => RC ci Y ifs b) (hf : BlkX X scope fun Y => RP ci Y elt f)
    {F : Fr X.K ci} {T : List (A × V)} {Γ : Ga} {S : So} {σ : L2.St} {H : Hp} {a : A} (r : Rel F T Γ S σ H) (q : fComp fi t vs b f Γ S = some a) {Q : VK} (k : ∀ p H', Rel F ((a, .ref p) :: T) Γ S σ H' → Q (.ref p) H') :
    tLc (wpI X tg iter) (gB X scope tg) (tB' X scope ifs) (eB X scope elt) vs σ H Q := by
  unfold fComp at q
  cases e1 : fi Γ S with
  | none => rw [e1] at q; cases q
  | some it =>
    rw [e1, Option.bind_some] at q
    cases e2 : it S with
    | none => rw [e2] at q; cases q
    | some ds =>
      rw [e2, Option.bind_some] at q
      cases e3 : compL (eltF t vs b f Γ S) ds with
      | none => rw [e3] at q; cases q
      | some res =>
        rw [e3] at q; cases q
        refine wpI_mono (hi F T Γ S σ H it ds r e1 e2) fun J H1 ⟨U, ⟨hsz, G, Y, W, spec⟩, r1⟩ Dl hD => ?_
        obtain ⟨ρ1, r1⟩ := r1
        obtain ⟨V', hV, r1⟩ := r1.keep
        have hgs := r1.gs
        let T1 := V' ++ (U ++ T)
        let Pv : Nat → Hp → Prop := fun i H' => ∃ acc vs' Hb ρ, compL (eltF t vs b f Γ S) (ds.take i) = some acc ∧ Hb Dl = none ∧ H' = upd Hb Dl (.lst vs') ∧ acc.length = vs'.length ∧ RelR F ρ ((acc.map A.d).zip vs' ++ T1) Γ S σ Hb
        refine lc_it W Pv ⟨[], [], H1, ρ1, by simp [compL], hD, rfl, rfl, r1⟩ ?_ ?_ ?_
        · rintro i H' _ ⟨acc, vs', Hb, ρ, h1, h2, rfl, h3, h4⟩
          exact (spec F _ Γ S σ _ ⟨ρ, h4.alloc h2⟩ (fun q hq => by simp [T1, hq]) e2).1
        · rintro i x H2 H3 hlt ⟨acc, vs', Hb, ρ, h1, h2, rfl, h3, h4⟩ hy
          have rin := h4.hideIn (o := .lst vs') h2
          obtain ⟨d, hd, r3⟩ := (spec _ _ Γ S σ _ ⟨ρ, rin⟩ (fun q hq => by simp [T1, hq]) e2).2 i x H3 hlt hy
          obtain ⟨o, ho⟩ := compL_at e3 hd
          have hacc := compL_snoc h1 ho
          have htk : ds.take (i + 1) = ds.take i ++ [d] := by rw [List.take_succ, hd]; rfl
          rw [← htk] at hacc
          have hlen : vs'.length < sizeLine := by
            have a1 := compL_len h1
            have a2 : (ds.take i).length ≤ i := by rw [List.length_take]; omega
            omega
          unfold eltF at ho
          cases e4 : t (wipeG Γ vs) d with
          | none => rw [e4] at ho; cases ho
          | some Γ' =>
            rw [e4, Option.bind_some] at ho
            cases e5 : b Γ' S with
            | none => rw [e5] at ho; cases ho
            | some c =>
              rw [e5, Option.bind_some] at ho
              obtain ⟨ρ3, r3⟩ := r3
              intro s0 H0 C cl fp
              refine gWp_mono (hg s0 H0 C cl fp _ _ (wipeG Γ vs) S (wipe σ vs) H3 d x Γ' ⟨ρ3, r3.wipe vs⟩ List.mem_cons_self e4) fun σ2 H4 ⟨w1, r4⟩ => ?_
              refine ⟨by rw [w1 vs hw, wipe_idem vs vs fun _ h => h], ?_⟩
              have back : ∀ {ρ5 : List Addr} {T5 : List (A × V)} {H5 : Hp}, RelR (F.hide (upd Hb Dl (.lst vs')) ρ S Dl) ρ5 (T5 ++ ((acc.map A.d).zip vs' ++ T1)) Γ' S σ2 H5 → H5 Dl = some (.lst vs') ∧ RelR F ρ5 (T5 ++ ((acc.map A.d).zip vs' ++ T1)) Γ S σ (less H5 Dl) := fun {ρ5 T5 H5} r5 => by
                obtain ⟨q1, q2⟩ := h4.hideOut h2 r5
                refine ⟨q1, q2.slots hgs fun j a e => ?_⟩
                obtain ⟨v, v1, v2⟩ := hV j a e
                exact ⟨v, v1, q2.tl (a, v) (by simp [T1, v2])⟩
              intro s0 H0 C cl fp
              have tst : wpC (X.blk s0 H0 scope (compEnvC scope cl C X.env) fp) ifs σ2 H4 (fun c' H' => c' = c ∧ Rel (F.hide (upd Hb Dl (.lst vs')) ρ S Dl) ((.d d, x) :: ((acc.map A.d).zip vs' ++ T1)) Γ' S σ2 H') := by
                rcases hb s0 H0 C cl fp with ⟨rfl, rfl⟩ | ⟨e0, rfl, hbb⟩
                · cases e5
                  exact wpC_of pts_nil ⟨rfl, r4⟩
                · exact wpC_of (pts_one pt_wp) (hbb _ _ Γ' S σ2 H4 c r4 e5)
              refine wpC_mono tst fun c' H5 ⟨hc', r5⟩ => ?_
              subst hc'
              cases c' with
              | false =>
                rw [if_neg Bool.false_ne_true] at ho
                cases ho
                refine iteF ?_
                obtain ⟨ρ5, r5⟩ := r5
                obtain ⟨q1, q2⟩ := back (T5 := [_]) r5
                refine ⟨acc, vs', less H5 Dl, ρ5, hacc, less_same, ?_, h3, q2.drop fun q hq => List.mem_cons_of_mem _ hq⟩
                rw [← upd_less]
                funext z
                by_cases hz : z = Dl
                · subst hz; rw [upd_same, q1]
                · rw [upd_ne hz]
              | true =>
                rw [if_pos rfl] at ho
                cases e6 : f Γ' S with
                | none => rw [e6] at ho; cases ho
                | some a6 =>
                  cases a6 with
                  | loc k6 => rw [e6] at ho; cases ho
                  | d d6 =>
                    rw [e6] at ho
                    cases ho
                    refine iteT ?_
                    intro s0 H0 C cl fp
                    refine wpX_mono (hf s0 H0 C cl fp _ _ Γ' S σ2 H5 _ r5 e6) fun y H6 r6 => ?_
                    obtain ⟨ρ6, r6⟩ := r6
                    obtain ⟨q1, q2⟩ := back (T5 := [_, _]) r6
                    refine ⟨vs', q1, hlen, acc ++ [d6], vs' ++ [y], less H6 Dl, ρ6, hacc, less_same, upd_less, by simp [h3], ?_⟩
                    refine q2.drop fun q hq => ?_
                    have e7 : ((acc ++ [d6]).map A.d).zip (vs' ++ [y]) = (acc.map A.d).zip vs' ++ [(A.d d6, y)] := by
                      rw [List.map_append, List.zip_append (by simp [h3])]; rfl
                    rw [e7] at hq
                    simp only [List.mem_append, List.mem_cons, List.not_mem_nil, or_false, List.cons_append, List.nil_append] at hq ⊢
                    rcases hq with (hq | hq) | hq
                    · exact .inr (.inr (.inl hq))
                    · exact .inl hq
                    · exact .inr (.inr (.inr hq))
        · rintro H' ⟨acc, vs', Hb, ρ, h1, h2, rfl, h3, h4⟩
          rw [List.take_length, e3] at h1
          cases h1
          refine k Dl _ ⟨ρ, ?_⟩
          have R := reps_of h4 h3 fun q hq => List.mem_append_left _ hq
          exact (h4.newL h2 R).drop fun q hq => by
            rcases List.mem_cons.mp hq with rfl | hq
            · exact List.mem_cons_self
            · simp [T1, hq]
theorem rp_lc {elt tg iter : Expr} {ifs : List Expr} {scope : Scope} {own : List (Str × Nat)} {pos : Pos} {fi : QI} {t : TgF} {ws : List Nat} {b : QB} {f : QF} (hc : X.calm = true) (hN : X.N.Nodup) (hi : RI ci X tg iter fi) (ok : BlkOk X.N X.env.scope scope own)
    (hg : BlkX X scope fun Y => RG ci Y tg t ws) (hb : BlkX X scope fun Y => RC ci Y ifs b) (hf : BlkX X scope fun Y => RP ci Y elt f) (hw : ∀ i ∈ ws, i ∈ own.map (·.2) := by decide) (hs : ∀ x, foldedSetIterable iter X.env x = pure x := by intro _; rfl) :
    RP ci X (.ListComp elt [⟨tg, iter, ifs, 0⟩] scope pos) (fComp fi t (own.map (·.2)) b f) := fun F T Γ S σ H a r q =>
  wpX_of (pe_lc (te := eB X scope elt) (tt := tB' X scope ifs) (g := gB X scope tg) hc hN pi_wp ok (fun s H C cl fp => ⟨fun pins s' σ H' v u Q I r h => h s H C cl fp pins s' u I r⟩)
    (fun s H C cl fp => ⟨fun pins s' σ H' Q I h => h s H C cl fp pins s' I⟩) (fun s H C cl fp => ⟨fun pins s' σ H' Q I h => h s H C cl fp pins s' I⟩) hs) (comp_run hi hg hw hb hf r q fun p H' h => h)
end
end LP
namespace LP
open PySem PySem.Spec PyProof.Rows L2
abbrev EK := Er → So → Prop
abbrev AK := A → So → Prop
def ErrRep {K : PySem.W.Frag} (ci : Ci) (F : Fr K ci) (ρ : List Addr) (S : So) (er : Er) (cls : Value) (d : Option Addr) (H : Hp) : Prop :=
  cls = .ref (ci er.c).1 ∧ ∃ dx vs, d = some dx ∧ H dx = some (.xd ((er.fs.map (·.1)).zip vs)) ∧ dx ∉ mu F ρ S ∧ vs.length = er.fs.length ∧ Reps K ci (mu F ρ S) H (er.fs.map (·.2)) vs
def ExW {K : PySem.W.Frag} {ci : Ci} (F : Fr K ci) (ex : EK) : Value → Option Addr → Hp → Prop := fun cls d H => ∃ er S ρ, RelR F ρ [] [] S [] H ∧ ErrRep ci F ρ S er cls d H ∧ ex er S
def Xok (X : Cx) {ci : Ci} (F : Fr X.K ci) (ex : EK) : Prop := Takes X fun cls d _ H => ExW F ex cls d H
abbrev WE := Ga → So → EK → AK → Prop
abbrev WT := Ga → So → EK → (Bool → So → Prop) → Prop
abbrev WAs := Ga → So → EK → (List A → So → Prop) → Prop
structure Dn where
  nx : Ga → So → Prop
  rt : AK
  bk : Ga → So → Prop := fun _ _ => False
  ct : Ga → So → Prop := fun _ _ => False
  ex : EK
abbrev WS := Ga → So → Dn → Prop
def VEnd {K : PySem.W.Frag} {ci : Ci} (F : Fr K ci) (T : List (A × V)) (Γ : Ga) (σ : L2.St) (Q : AK) : VK := fun v H' => ∃ a S', Rel F ((a, v) :: T) Γ S' σ H' ∧ Q a S'
def TEnd {K : PySem.W.Frag} {ci : Ci} (F : Fr K ci) (T : List (A × V)) (Γ : Ga) (σ : L2.St) (Q : Bool → So → Prop) : Bool → Hp → Prop := fun b H' => ∃ S', Rel F T Γ S' σ H' ∧ Q b S'
def AEnd {K : PySem.W.Frag} {ci : Ci} (F : Fr K ci) (n : Nat) (T : List (A × V)) (Γ : Ga) (σ : L2.St) (Q : List A → So → Prop) : List V → Hp → Prop := fun vs H' => ∃ as S', as.length = vs.length ∧ as.length = n ∧ Rel F ((as.zip vs) ++ T) Γ S' σ H' ∧ Q as S'
def SEnd {K : PySem.W.Frag} {ci : Ci} (F : Fr K ci) (T : List (A × V)) (D : Dn) : Ends where
  nx := fun σ' H' => ∃ Γ' S', Rel F T Γ' S' σ' H' ∧ D.nx Γ' S'
  rt := fun v H' => ∃ a S', Rel F [(a, v)] [] S' [] H' ∧ D.rt a S'
  bk := fun σ' H' => ∃ Γ' S', Rel F T Γ' S' σ' H' ∧ D.bk Γ' S'
  ct := fun σ' H' => ∃ Γ' S', Rel F T Γ' S' σ' H' ∧ D.ct Γ' S'
def RE (ci : Ci) (X : Cx) (e : Expr) (w : WE) : Prop := ∀ (F : Fr X.K ci) ex, Xok X F ex → ∀ T Γ S σ H Q, Rel F T Γ S σ H → w Γ S ex Q → wpX X e σ H (VEnd F T Γ σ Q)
def RT (ci : Ci) (X : Cx) (e : Expr) (w : WT) : Prop := ∀ (F : Fr X.K ci) ex, Xok X F ex → ∀ T Γ S σ H Q, Rel F T Γ S σ H → w Γ S ex Q → wpT X e σ H (TEnd F T Γ σ Q)
def RA (ci : Ci) (X : Cx) (es : List Expr) (w : WAs) : Prop := ∀ (F : Fr X.K ci) ex, Xok X F ex → ∀ T Γ S σ H Q, Rel F T Γ S σ H → w Γ S ex Q → wpA X es σ H (AEnd F es.length T Γ σ Q)
def RS (ci : Ci) (X : Cx) (st : Stmt) (w : WS) : Prop := ∀ (F : Fr X.K ci) (D : Dn), Xok X F D.ex → ∀ T Γ S σ H, Rel F T Γ S σ H → w Γ S D → wpS X st (SEnd F T D) σ H
def RSs (ci : Ci) (X : Cx) (st : List Stmt) (w : WS) : Prop := ∀ (F : Fr X.K ci) (D : Dn), Xok X F D.ex → ∀ T Γ S σ H, Rel F T Γ S σ H → w Γ S D → wpSs X st (SEnd F T D) σ H
section
variable {K : PySem.W.Frag} {ci : Ci} {F : Fr K ci} {ρ : List Addr} {T : List (A × V)} {Γ : Ga} {S : So} {σ : L2.St} {H H' : Hp}
theorem RelR.bare (r : RelR F ρ T Γ S σ H) : RelR F ρ T [] S [] H := ⟨r.pre, r.len, r.nd, r.st, rfl, fun i a e => by simp at e, r.tl, r.ext, r.fr, r.fo⟩
theorem Rel.bare (r : Rel F T Γ S σ H) : Rel F T [] S [] H := let ⟨ρ, r⟩ := r; ⟨ρ, r.bare⟩
/-- behind a frame within: the old slots and temporaries stand -/
theorem RelR.after (r : RelR F ρ T Γ S σ H) {ρ' : List Addr} {T' : List (A × V)} {Γ' : Ga} {S' : So} {σ' : L2.St} (q : RelR (F.here H ρ S) ρ' T' Γ' S' σ' H') : RelR F ρ' (T' ++ T) Γ S' σ H' := by
  have hh : ∀ a o, H a = some o → a ∉ mu F ρ S → H' a = some o ∧ a ∉ mu F ρ' S' := fun a o e n => by
    refine ⟨q.ext a o e fun z => n (List.mem_append_left _ z), fun z => ?_⟩
    rcases List.mem_append.mp z with z | z
    · rcases q.fr a z with h | h
      · exact n (List.mem_append_left _ h)
      · have h' : H a = none := h
        rw [h'] at e; cases e
    · exact n (List.mem_append_right _ z)
  have g := r.there q
  refine ⟨g.pre, g.len, g.nd, g.st, r.gs, fun i a e => ?_, fun b hb => ?_, g.ext, g.fr, g.fo⟩
  · obtain ⟨v, e1, h⟩ := r.gl i a e
    exact ⟨v, e1, h.mono hh q.pre⟩
  · rcases List.mem_append.mp hb with hb | hb
    · exact g.tl b hb
    · exact (r.tl b hb).mono hh q.pre
/-- a callee that sees nothing that may change -/
def Fr.shut (F : Fr K ci) (H : Hp) (ρ : List Addr) (S : So) : Fr K ci := ⟨H, [], [], mu F ρ S⟩
theorem ARep.dd {ρ ρ' M : List Addr} {d : D} {v : V} (h : ARep K ci ρ M H (.d d) v) : ARep K ci ρ' M H (.d d) v := h
theorem RelR.shut (r : RelR F ρ T Γ S σ H) {U : List (A × V)} (hU : ∀ q ∈ U, q ∈ T) (hd : ∀ q ∈ U, ∃ d, q.1 = A.d d) : RelR (F.shut H ρ S) [] U [] [] [] H := by
  have em : mu (F.shut H ρ S) [] ([] : So) = mu F ρ S := by show mutA [] [] ++ mu F ρ S = mu F ρ S; rfl
  refine ⟨List.prefix_refl _, rfl, by simp [mutA], fun k p o e => (by simp at e), rfl, fun i a e => (by simp at e), fun q hq => ?_, fun a o e _ => e, fun p hp => (by simp [mutA] at hp), fun p hp => ⟨(by intro z; cases z), ?_⟩⟩
  · rw [em]
    have := r.tl q (hU q hq)
    obtain ⟨d, hd⟩ := hd q hq
    rw [hd] at this ⊢
    exact this.dd
  · intro z
    have z' : H p = none := z
    exact r.fresh z' hp
theorem RelR.unshut (r : RelR F ρ T Γ S σ H) {ρ' : List Addr} {d : D} {v : V} {Γ' : Ga} {S' : So} {σ' : L2.St} {T' : List (A × V)} (q : RelR (F.shut H ρ S) ρ' T' Γ' S' σ' H') (hq : (A.d d, v) ∈ T') : RelR F ρ ((.d d, v) :: T) Γ S σ H' := by
  have h0 : ∀ a o, H a = some o → H' a = some o := fun a o e => q.ext a o e (by intro z; cases z)
  have hh : ∀ a o, H a = some o → a ∉ mu F ρ S → H' a = some o ∧ a ∉ mu F ρ S := fun a o e n => ⟨h0 a o e, n⟩
  have g : RelR F ρ T Γ S σ H' := r.move (List.prefix_refl _) r.len r.nd hh (fun k p o e1 e2 => (r.st k p o e1 e2).mono hh (List.prefix_refl _) fun hl => by
    obtain ⟨u, hu, _⟩ := (r.st k p o e1 e2).there hl
    rw [h0 p u hu, hu]) (fun a o e n => h0 a o (r.ext a o e n)) r.fr
  refine g.push ?_
  have := q.tl _ hq
  exact Rep.mono (fun a o e n => ⟨e, fun z => n (List.mem_append_right _ z)⟩) d v this
/-- a callee's error -/
theorem RelR.unshutE (r : RelR F ρ T Γ S σ H) {ρ' : List Addr} {S' : So} {er : Er} {cls : Value} {dd : Option Addr} (q : RelR (F.shut H ρ S) ρ' [] [] S' [] H') (hq : ErrRep ci (F.shut H ρ S) ρ' S' er cls dd H') : RelR F ρ T Γ S σ H' ∧ ErrRep ci F ρ S er cls dd H' := by
  have h0 : ∀ a o, H a = some o → H' a = some o := fun a o e => q.ext a o e (by intro z; cases z)
  have hh : ∀ a o, H a = some o → a ∉ mu F ρ S → H' a = some o ∧ a ∉ mu F ρ S := fun a o e n => ⟨h0 a o e, n⟩
  refine ⟨r.move (List.prefix_refl _) r.len r.nd hh (fun k p o e1 e2 => (r.st k p o e1 e2).mono hh (List.prefix_refl _) fun hl => by
    obtain ⟨u, hu, _⟩ := (r.st k p o e1 e2).there hl
    rw [h0 p u hu, hu]) (fun a o e n => h0 a o (r.ext a o e n)) r.fr, ?_⟩
  obtain ⟨h1, dx, vs, h2, h3, h4, h5, h6⟩ := hq
  exact ⟨h1, dx, vs, h2, h3, fun z => h4 (List.mem_append_right _ z), h5, h6.mono fun a o e n => ⟨e, fun z => n (List.mem_append_right _ z)⟩⟩
end
def frz (S : So) : A → Option (D × So)
  | .d x => some (x, S)
  | .loc k => match S[k]? with
    | some (.lst as) => (dataOf as).map fun l => (.lst l, S.set k (.frz (.lst l)))
    | some (.dK ks as) => (dataOf as).map fun l => (.dic ks l, S.set k (.frz (.dic ks l)))
    | some (.frz d) => some (d, S)
    | _ => none
theorem Rel.frz {K : PySem.W.Frag} {ci : Ci} {F : Fr K ci} {T : List (A × V)} {Γ : Ga} {S S' : So} {σ : L2.St} {H : Hp} {a : A} {v : V} {d : D} (r : Rel F ((a, v) :: T) Γ S σ H) (e : frz S a = some (d, S')) : Rel F ((.d d, v) :: T) Γ S' σ H := by
  obtain ⟨ρ, r⟩ := r
  unfold LP.frz at e
  split at e
  · cases e; exact ⟨ρ, r⟩
  · rename_i k
    obtain ⟨p, hp, rfl⟩ := r.top (a := .loc k) (v := v) List.mem_cons_self
    split at e
    · rename_i as hs
      cases e1 : dataOf as with
      | none => rw [e1] at e; cases e
      | some l =>
        rw [e1] at e; cases e
        obtain ⟨vs, e2, q⟩ := r.st k p _ hp hs
        rw [dataOf_eq e1] at q
        have := r.freeze (d := .lst l) hp hs rfl fun M' hM hn => by
          rw [Rep]
          exact ⟨p, vs, rfl, ⟨e2, hn⟩, q.data.mono hM⟩
        exact ⟨ρ, (this.1.drop fun x hx => List.mem_cons_of_mem _ hx).push this.2⟩
    · rename_i ks as hs
      cases e1 : dataOf as with
      | none => rw [e1] at e; cases e
      | some l =>
        rw [e1] at e; cases e
        obtain ⟨vs, e2, hz, q⟩ := r.st k p _ hp hs
        rw [dataOf_eq e1] at q
        have := r.freeze (d := .dic ks l) hp hs rfl fun M' hM hn => by
          rw [Rep]
          exact ⟨p, vs, rfl, .inl e2, hn, hz, q.data.mono hM⟩
        exact ⟨ρ, (this.1.drop fun x hx => List.mem_cons_of_mem _ hx).push this.2⟩
    · rename_i d' hs
      cases e
      have := r.st k p _ hp hs
      exact ⟨ρ, (r.drop fun x hx => List.mem_cons_of_mem _ hx).push this⟩
    · cases e
def wP (f : QF) : WE := fun Γ S _ Q => ∃ a, f Γ S = some a ∧ Q a S
def wB (f : QB) : WT := fun Γ S _ Q => ∃ b, f Γ S = some b ∧ Q b S
def wPs (f : QFs) : WAs := fun Γ S _ Q => ∃ a, f Γ S = some a ∧ Q a S
def wOp (g : So → A → A → Option D) (wa wb : WE) : WE := fun Γ S ex Q => wa Γ S ex fun x S1 => wb Γ S1 ex fun y S2 => ∃ d, g S2 x y = some d ∧ Q (.d d) S2
def wNil : WAs := fun _ S _ Q => Q [] S
def wCons (w : WE) (ws : WAs) : WAs := fun Γ S ex Q => w Γ S ex fun a S1 => ws Γ S1 ex fun as S2 => Q (a :: as) S2
def wFrz (w : WE) : WE := fun Γ S ex Q => w Γ S ex fun a S1 => ∃ d S2, frz S1 a = some (d, S2) ∧ Q (.d d) S2
section
variable {ci : Ci} {X : Cx}
theorem re_p {e : Expr} {f : QF} (h : RP ci X e f) : RE ci X e (wP f) := fun F ex _ T Γ S σ H Q r ⟨a, e1, q⟩ => wpX_mono (h F T Γ S σ H a r e1) fun v H' h' => ⟨a, S, h', q⟩
theorem rt_b {e : Expr} {f : QB} (h : RB ci X e f) : RT ci X e (wB f) := fun F ex _ T Γ S σ H Q r ⟨b, e1, q⟩ => wpT_mono (h F T Γ S σ H b r e1) fun v H' ⟨h1, h'⟩ => ⟨S, h', by rw [h1]; exact q⟩
theorem ra_p {es : List Expr} {f : QFs} (h : RPs ci X es f) : RA ci X es (wPs f) := fun F ex _ T Γ S σ H Q r ⟨a, e1, q⟩ => wpA_mono (h.2 F T Γ S σ H a r e1) fun v H' ⟨hz, h'⟩ => ⟨a, S, hz, h.1 _ _ _ e1, h', q⟩
theorem re_frz {e : Expr} {w : WE} (h : RE ci X e w) : RE ci X e (wFrz w) := fun F ex xo T Γ S σ H Q r q => wpX_mono (h F ex xo T Γ S σ H _ r q) fun v H' ⟨a, S1, r1, d, S2, e, q1⟩ => ⟨.d d, S2, r1.frz e, q1⟩
theorem re_op {op : Operator} {a b : Expr} {pos : Pos} {g : So → A → A → Option D} {wa wb : WE} (ho : OpG ci X (binaryOp op) g) (ha : RE ci X a wa) (hb : RE ci X b wb) : RE ci X (.BinOp a op b pos) (wOp g wa wb) := fun F ex xo T Γ S σ H Q r q => by
  obtain ⟨rr, hr, hk⟩ := ho
  refine wpX_of (pe_op hr pe_wp pe_wp) (wpX_mono (ha F ex xo T Γ S σ H _ r q) fun v H1 ⟨x, S1, r1, q1⟩ => wpX_mono (hb F ex xo _ Γ S1 σ H1 _ r1 q1) fun u H2 ⟨y, S2, r2, d, e, q2⟩ => ?_)
  exact hk F _ Γ S2 σ H2 v u x y d r2 (by simp) (by simp) e _ fun w H3 h3 => ⟨.d d, S2, h3.drop drop3, q2⟩
theorem ra_nil : RA ci X [] wNil := fun F ex _ T Γ S σ H Q r q => wpA_of pa_nil ⟨[], S, rfl, rfl, r, q⟩
theorem ra_cons {e : Expr} {es : List Expr} {w : WE} {ws : WAs} (h : RE ci X e w) (hs : RA ci X es ws) (hst : starEach (e :: es) X.env = (false, eval e X.env) :: starEach es X.env := by kernel_rfl) : RA ci X (e :: es) (wCons w ws) := fun F ex xo T Γ S σ H Q r q => by
  refine wpA_of (pa_cons pe_wp pa_wp hst) (wpX_mono (h F ex xo T Γ S σ H _ r q) fun v H1 ⟨a, S1, r1, q1⟩ => wpA_mono (hs F ex xo _ Γ S1 σ H1 _ r1 q1) fun vs H2 ⟨as, S2, hz, hn, r2, q2⟩ => ?_)
  refine ⟨a :: as, S2, by simp [hz], by simp [hn], r2.drop fun x hx => ?_, q2⟩
  rw [List.zip_cons_cons] at hx
  simp only [List.cons_append, List.mem_cons, List.mem_append] at hx ⊢
  rcases hx with hx | hx | hx <;> simp [hx]
/-- displays: data alone (a thing that may change is frozen first, by wFrz) -/
def wTup (ws : WAs) : WE := fun Γ S ex Q => ws Γ S ex fun as S1 => ∃ l, dataOf as = some l ∧ Q (.d (.tup l)) S1
def wLst (ws : WAs) : WE := fun Γ S ex Q => ws Γ S ex fun as S1 => ∃ l, dataOf as = some l ∧ Q (.d (.lst l)) S1
/-- a list that may change -/
def wNewL (ws : WAs) : WE := fun Γ S ex Q => ws Γ S ex fun as S1 => Q (.loc S1.length) (S1 ++ [.lst as])
theorem re_tup {es : List Expr} {ws : WAs} {x1 : Nat} {pos : Pos} (h : RA ci X es ws) (hl : Nat.ble es.length 1000 = true := by kernel_rfl) : RE ci X (.Tuple es x1 pos) (wTup ws) := fun F ex xo T Γ S σ H Q r q => by
  refine wpX_of (pe_tup pa_wp) (wpA_mono (h F ex xo T Γ S σ H _ r q) fun vs H1 ⟨as, S1, hz, hn, r1, l, e, q1⟩ => ?_)
  refine ⟨small_len (hz.symm.trans hn) hl, fun p hp => ?_⟩
  obtain ⟨ρ, r1⟩ := r1
  rw [dataOf_eq e] at r1 hz
  have R := reps_of r1 (by simpa using hz) fun q hq => List.mem_append_left _ hq
  exact ⟨_, S1, ⟨ρ, (r1.newT hp R).drop dropA⟩, q1⟩
theorem re_lst {es : List Expr} {ws : WAs} {pos : Pos} (h : RA ci X es ws) (hl : Nat.ble es.length 1000 = true := by kernel_rfl) : RE ci X (.List es pos) (wLst ws) := fun F ex xo T Γ S σ H Q r q => by
  refine wpX_of (pe_lst pa_wp) (wpA_mono (h F ex xo T Γ S σ H _ r q) fun vs H1 ⟨as, S1, hz, hn, r1, l, e, q1⟩ => ?_)
  refine ⟨small_len (hz.symm.trans hn) hl, fun p hp => ?_⟩
  obtain ⟨ρ, r1⟩ := r1
  rw [dataOf_eq e] at r1 hz
  have R := reps_of r1 (by simpa using hz) fun q hq => List.mem_append_left _ hq
  exact ⟨_, S1, ⟨ρ, (r1.newL hp R).drop dropA⟩, q1⟩
theorem areps_of {K : PySem.W.Frag} {F : Fr K ci} {ρ : List Addr} {T : List (A × V)} {Γ : Ga} {S : So} {σ : L2.St} {H : Hp} (r : RelR F ρ T Γ S σ H) : ∀ {l : List A} {vs : List V}, l.length = vs.length → (∀ q ∈ l.zip vs, q ∈ T) → AReps K ci ρ (mu F ρ S) H l vs
  | [], [], _, _ => rfl
  | [], _ :: _, h, _ => by cases h
  | _ :: _, [], h, _ => by cases h
  | d :: l, v :: vs, h, k => ⟨v, vs, rfl, r.tl _ (k (d, v) (by simp)), areps_of r (by simpa using h) fun q hq => k q (by rw [List.zip_cons_cons]; exact List.mem_cons_of_mem _ hq)⟩
theorem RelR.newLM {K : PySem.W.Frag} {F : Fr K ci} {ρ : List Addr} {T : List (A × V)} {Γ : Ga} {S : So} {σ : L2.St} {H : Hp} (r : RelR F ρ T Γ S σ H) {as : List A} {vs : List V} {p : Addr} (hp : H p = none) (R : AReps K ci ρ (mu F ρ S) H as vs) : Rel F ((.loc S.length, .ref p) :: T) Γ (S ++ [.lst as]) σ (upd H p (.lst vs)) := by
  have hm : ∀ a o, H a = some o → a ∉ mu F ρ S → (upd H p (.lst vs)) a = some o ∧ a ∉ mu F (ρ ++ [p]) (S ++ [.lst as]) := fun a o e n => by
    have ne : a ≠ p := ne_of_none e hp
    refine ⟨by rw [upd_ne ne]; exact e, fun z => ?_⟩
    rcases (mu_app (F := F) r.len rfl).mp z with z | z
    · exact n z
    · exact ne z
  refine ⟨ρ ++ [p], (r.allocM (mo := .lst as) hp rfl ⟨vs, upd_same, R.mono hm (List.prefix_append _ _)⟩).push ⟨p, ?_, rfl⟩⟩
  rw [← r.len]; simp
theorem re_newL {es : List Expr} {ws : WAs} {pos : Pos} (h : RA ci X es ws) (hl : Nat.ble es.length 1000 = true := by kernel_rfl) : RE ci X (.List es pos) (wNewL ws) := fun F ex xo T Γ S σ H Q r q => by
  refine wpX_of (pe_lst pa_wp) (wpA_mono (h F ex xo T Γ S σ H _ r q) fun vs H1 ⟨as, S1, hz, hn, r1, q1⟩ => ?_)
  refine ⟨small_len (hz.symm.trans hn) hl, fun p hp => ?_⟩
  obtain ⟨ρ, r1⟩ := r1
  have R := areps_of r1 hz fun q hq => List.mem_append_left _ hq
  exact ⟨_, _, (r1.newLM hp R).drop dropA, q1⟩
end
end LP
namespace LP
open PySem PySem.Spec PyProof.Rows L2
section
variable {ci : Ci} {X : Cx}
theorem wpS_mono {st : Stmt} {σ : L2.St} {H : Hp} {D D' : Ends} (h : wpS X st D σ H) (k1 : ∀ σ' H', D.nx σ' H' → D'.nx σ' H') (k2 : ∀ v H', D.rt v H' → D'.rt v H') (k3 : ∀ σ' H', D.bk σ' H' → D'.bk σ' H') (k4 : ∀ σ' H', D.ct σ' H' → D'.ct σ' H') : wpS X st D' σ H := fun pins s I => thn (h pins s I) fun f s' q => by
  cases f with
  | next => obtain ⟨σ', H', I', q⟩ := q; exact ⟨σ', H', I', k1 _ _ q⟩
  | brk => obtain ⟨σ', H', I', q⟩ := q; exact ⟨σ', H', I', k3 _ _ q⟩
  | cont => obtain ⟨σ', H', I', q⟩ := q; exact ⟨σ', H', I', k4 _ _ q⟩
  | ret u => obtain ⟨v, σ', H', I', r, q⟩ := q; exact ⟨v, σ', H', I', r, k2 _ _ q⟩
def tV (w : WE) : WT := fun Γ S ex Q => w Γ S ex fun a S1 => ∃ b, a = .d (.bl b) ∧ Q b S1
def tNot' (w : WT) : WT := fun Γ S ex Q => w Γ S ex fun b S1 => Q (!b) S1
theorem rt_v {e : Expr} {w : WE} (h : RE ci X e w) (he : ∀ whole, isTrue e X.env whole = (do let v ← whole; standAt e.pos; holding [v] (truthy v)) := by intro _; rfl) : RT ci X e (tV w) := fun F ex xo T Γ S σ H Q r q =>
  wpT_of (pt_val pe_wp he) (wpX_mono (h F ex xo T Γ S σ H _ r q) fun v H' ⟨a, S1, r1, b, e1, q1⟩ => by
    subst e1
    exact ⟨b, r1.asBl List.mem_cons_self, S1, r1.tail, q1⟩)
theorem rt_not {a : Expr} {w : WT} {pos : Pos} (h : RT ci X a w) : RT ci X (.UnaryOp .Not a pos) (tNot' w) := fun F ex xo T Γ S σ H Q r q => wpT_of (pt_not pt_wp) (h F ex xo T Γ S σ H _ r q)
/-- items, calls of built-ins -/
theorem ix_end {F : Fr X.K ci} {T : List (A × V)} {Γ : Ga} {S : So} {σ : L2.St} {H : Hp} {x y : A} {v u : V} {d : D} (r : Rel F ((y, u) :: (x, v) :: T) Γ S σ H) (e3 : gIx S x y = some d) {Q : VK} (k : ∀ w, Rel F ((.d d, w) :: T) Γ S σ H → Q w H) : rIx X.K v u H Q := by
  unfold gIx at e3
  split at e3
  · rename_i i
    have hu := r.asInt (v := u) List.mem_cons_self
    split at e3
    · rename_i s
      have hv := r.asStr (v := v) (i := s) (by simp)
      split at e3
      · rename_i hl
        cases e4 : atI s.cps.toList i with
        | none => rw [e4] at e3; cases e3
        | some c =>
          rw [e4] at e3; cases e3
          exact .inr (.inr ⟨s, i, c, hv, hu, hl, e4, k _ ((r.drop fun q hq => by simp [hq] : Rel F T Γ S σ H).str _)⟩)
      · cases e3
    · cases e4 : viewQ S x with
      | none => rw [e4] at e3; cases e3
      | some l =>
        rw [e4, Option.bind_some] at e3
        obtain ⟨ρ, r2⟩ := r
        obtain ⟨p, vs, rfl, hq, R⟩ := r2.viewQ (r2.top (a := x) (v := v) (by simp)) e4
        obtain ⟨w, hw, rw'⟩ := atI_reps R e3
        have fin : Rel F ((.d d, w) :: T) Γ S σ H := ⟨ρ, (r2.push (a := .d d) (v := w) rw').drop drop3⟩
        rcases hq with hq | hq
        · exact .inl ⟨p, vs, i, w, rfl, hu, hq, hw, k _ fin⟩
        · exact .inr (.inl ⟨p, vs, i, w, rfl, hu, hq, hw, k _ fin⟩)
  · cases e3
theorem re_ix {a b : Expr} {pos : Pos} {wa wb : WE} (ha : RE ci X a wa) (hb : RE ci X b wb) (hs : PlainIx b := by exact fun _ _ => rfl) : RE ci X (.Subscript a b pos) (wOp gIx wa wb) := fun F ex xo T Γ S σ H Q r q =>
  wpX_of (pe_ix ix_seq pe_wp pe_wp hs) (wpX_mono (ha F ex xo T Γ S σ H _ r q) fun v H1 ⟨x, S1, r1, q1⟩ => wpX_mono (hb F ex xo _ Γ S1 σ H1 _ r1 q1) fun u H2 ⟨y, S2, r2, d, e, q2⟩ => ix_end r2 e fun w h3 => ⟨_, S2, h3, q2⟩)
def wSeq (u w : WS) : WS := fun Γ S D => u Γ S { D with nx := fun Γ' S' => w Γ' S' D }
def wNext : WS := fun Γ S D => D.nx Γ S
def wAsg (i : Nat) (w : WE) : WS := fun Γ S D => w Γ S D.ex fun a S1 => D.nx (Γ.set i (some a)) S1
def wAsgT (t : TgF) (w : WE) : WS := fun Γ S D => w Γ S D.ex fun a S1 => ∃ d Γ', a = .d d ∧ t Γ d = some Γ' ∧ D.nx Γ' S1
def wPar (is : List Nat) (ws : WAs) : WS := fun Γ S D => ws Γ S D.ex fun as S1 => match is, as with
  | [i, j], [a, b] => D.nx ((Γ.set i (some a)).set j (some b)) S1
  | [i, j, k], [a, b, c] => D.nx (((Γ.set i (some a)).set j (some b)).set k (some c)) S1
  | _, _ => False
def wDrop (w : WE) : WS := fun Γ S D => w Γ S D.ex fun _ S1 => D.nx Γ S1
def wRet (w : WE) : WS := fun Γ S D => w Γ S D.ex D.rt
def wRetN : WS := fun Γ S D => D.rt (.d .non) S
def wIf (c : WT) (u w : WS) : WS := fun Γ S D => c Γ S D.ex fun b S1 => if b = true then u Γ S1 D else w Γ S1 D
theorem rss_nil : RSs ci X [] wNext := fun F D xo T Γ S σ H r q => wpSs_of pss_nil ⟨Γ, S, r, q⟩
theorem rss_one {st : Stmt} {w : WS} (h : RS ci X st w) : RSs ci X [st] w := fun F D xo T Γ S σ H r q => wpSs_of (pss_one ps_wp) (h F D xo T Γ S σ H r q)
theorem rss_cons {st : Stmt} {rest : List Stmt} {u w : WS} (h : RS ci X st u) (h2 : RSs ci X rest w) : RSs ci X (st :: rest) (wSeq u w) := fun F D xo T Γ S σ H r q => by
  refine wpSs_of (pss_cons ps_wp pss_wp) (wpS_mono (h F { D with nx := fun Γ' S' => w Γ' S' D } xo T Γ S σ H r q) ?_ (fun _ _ h => h) (fun _ _ h => h) (fun _ _ h => h))
  rintro σ' H' ⟨Γ', S', r', q'⟩
  exact h2 F D xo T Γ' S' σ' H' r' q'
theorem rs_asg (i : Nat) {x : Str} {e : Expr} {w : WE} {pos' pos : Pos} (hN : X.N.Nodup) (he : RE ci X e w) (hi : X.N[i]? = some x := by rfl) (hx : Loc X.env.scope x := by exact loc_of (by kernel_rfl)) (hs : swapsWith e (some (.Name x pos')) pos.line X.env = pure false := by kernel_rfl) (hf : X.fn x = true ∨ X.env.scope.names.lookup x = some .local := by exact fn_of (by kernel_rfl)) :
    RS ci X (.Assign [.Name x pos'] e pos) (wAsg i w) := fun F D xo T Γ S σ H r q =>
  wpS_of (ps_set hN hi hx pe_wp hs hf) (wpX_mono (he F D.ex xo T Γ S σ H _ r q) fun v H' ⟨a, S1, r1, q1⟩ => ⟨_, S1, (r1.put i List.mem_cons_self).tail, q1⟩)
theorem rs_par2 {i j : Nat} {x y : Str} {a b : Expr} {ws : WAs} {px py pt pos : Pos} {kt k2 pt2} (hc : X.calm = true) (hN : X.N.Nodup) (ha : RA ci X [a, b] ws) (hi : X.N[i]? = some x := by rfl) (hj : X.N[j]? = some y := by rfl) (hij : i ≠ j := by decide)
    (hx : X.env.scope.names.lookup x = some .local := by kernel_rfl) (hy : X.env.scope.names.lookup y = some .local := by kernel_rfl) (hw : swappedStores [.Tuple [.Name x px, .Name y py] kt pt] (.Tuple [a, b] k2 pt2) X.env = pure (some [x, y]) := by kernel_rfl)
    (hs : swapsWithSole [.Tuple [.Name x px, .Name y py] kt pt] (.Tuple [a, b] k2 pt2) pos.line X.env = pure false := by kernel_rfl) :
    RS ci X (.Assign [.Tuple [.Name x px, .Name y py] kt pt] (.Tuple [a, b] k2 pt2) pos) (wPar [i, j] ws) := fun F D xo T Γ S σ H r q =>
  wpS_of (ps_par hc hN hi hj hij hx hy pa_wp hw hs) (wpA_mono (ha F D.ex xo T Γ S σ H _ r q) fun vs H' ⟨as, S1, hz, hn, r1, q1⟩ => by
    match as, vs, hz, hn with
    | [a, b], [v, u], _, _ => exact ⟨v, u, rfl, _, S1, (((r1.put i (a := a) (v := v) (by simp)).put j (a := b) (v := u) (by simp))).drop fun q hq => by simp [hq], q1⟩)
theorem rs_expr {e : Expr} {w : WE} {pos : Pos} (he : RE ci X e w) (hs : swapsWith e none pos.line X.env = pure false := by kernel_rfl) : RS ci X (.Expr e pos) (wDrop w) := fun F D xo T Γ S σ H r q =>
  wpS_of (ps_expr pe_wp hs) (wpX_mono (he F D.ex xo T Γ S σ H _ r q) fun v H' ⟨a, S1, r1, q1⟩ => ⟨Γ, S1, r1.tail, q1⟩)
theorem rs_ret {e : Expr} {w : WE} {pos : Pos} (he : RE ci X e w) : RS ci X (.Return (some e) pos) (wRet w) := fun F D xo T Γ S σ H r q =>
  wpS_of (ps_ret pe_wp) (wpX_mono (he F D.ex xo T Γ S σ H _ r q) fun v H' ⟨a, S1, r1, q1⟩ => ⟨a, S1, (r1.bare).drop fun x hx => by
    simp at hx; subst hx; exact List.mem_cons_self, q1⟩)
theorem rs_if {c : Expr} {a b : List Stmt} {wc : WT} {u w : WS} {pos : Pos} (hc : RT ci X c wc) (ha : RSs ci X a u) (hb : RSs ci X b w) : RS ci X (.If c a b pos) (wIf wc u w) := fun F D xo T Γ S σ H r q =>
  wpS_of (ps_if pt_wp pss_wp pss_wp) (wpT_mono (hc F D.ex xo T Γ S σ H _ r q) fun d H' ⟨S1, r1, q1⟩ => by
    cases d with
    | true => exact iteT (ha F D xo T Γ S1 σ H' r1 (by simpa using q1))
    | false => exact iteF (hb F D xo T Γ S1 σ H' r1 (by simpa using q1)))
abbrev WI := Ga → So → EK → ((So → Option (List D)) → List D → So → Prop) → Prop
def RIE (ci : Ci) (X : Cx) (tg iter : Expr) (wi : WI) : Prop := ∀ (F : Fr X.K ci) ex, Xok X F ex → ∀ T Γ S σ H Q, Rel F T Γ S σ H → wi Γ S ex Q → wpI X tg iter σ H (fun J H' => ∃ U S' it ds, ItSpec X.K ci J U it ds ∧ it S' = some ds ∧ Rel F (U ++ T) Γ S' σ H' ∧ Q it ds S')
def wI (fi : QI) : WI := fun Γ S _ Q => ∃ it ds, fi Γ S = some it ∧ it S = some ds ∧ Q it ds S
theorem rie_p {tg iter : Expr} {fi : QI} (h : RI ci X tg iter fi) : RIE ci X tg iter (wI fi) := fun F ex _ T Γ S σ H Q r ⟨it, ds, e1, e2, q⟩ => wpI_mono (h F T Γ S σ H it ds r e1 e2) fun J H' ⟨U, s, r1⟩ => ⟨U, S, it, ds, s, e2, r1, q⟩
def wLoop (it : So → Option (List D)) (ds : List D) (t : TgF) (body : WS) : List D → Ga → So → Dn → Prop
  | [], Γ, S, D => D.nx Γ S
  | d :: r, Γ, S, D => ∃ Γ', t Γ d = some Γ' ∧ body Γ' S { D with nx := fun Γ2 S2 => it S2 = some ds ∧ wLoop it ds t body r Γ2 S2 D, ct := fun Γ2 S2 => it S2 = some ds ∧ wLoop it ds t body r Γ2 S2 D, bk := D.nx }
def wFor (wi : WI) (t : TgF) (body : WS) : WS := fun Γ S D => wi Γ S D.ex fun it ds S1 => wLoop it ds t body ds Γ S1 D
theorem rs_for {tg iter : Expr} {body : List Stmt} {wi : WI} {t : TgF} {ws : List Nat} {w : WS} {pos : Pos} (hp : PassesOwn (model X.prog X.w) X.A X.env X.xe) (hc : X.calm = true) (hi : RIE ci X tg iter wi) (hg : RG ci X tg t ws) (hb : RSs ci X body w)
    (hs : ∀ x, foldedSetIterable iter X.env x = pure x := by intro _; rfl) : RS ci X (.For tg iter body [] pos) (wFor wi t w) := fun F D xo T Γ S σ H r q => by
  refine wpS_of (ps_for (g := gWp X tg) hp hc pi_wp pg_wp pss_wp hs) (wpI_mono (hi F D.ex xo T Γ S σ H _ r q) fun J H1 ⟨U, S1, it, ds, ⟨hsz, G, Y, W, spec⟩, e1, r1, q1⟩ => ?_)
  refine for_it (σ := σ) (H := H1) W (fun i σ' H' => ∃ Γ' S', Rel F (U ++ T) Γ' S' σ' H' ∧ it S' = some ds ∧ wLoop it ds t w (ds.drop i) Γ' S' D) ⟨Γ, S1, r1, e1, q1⟩ ?_ ?_ ?_
  · rintro i σ' H' _ ⟨Γ', S', r', e', _⟩
    exact (spec F _ Γ' S' σ' H' r' (fun q hq => by simp [hq]) e').1
  · rintro i x σ' H' H2 hlt ⟨Γ', S', r', e', q'⟩ hy
    obtain ⟨d, hd, r2⟩ := (spec F _ Γ' S' σ' H' r' (fun q hq => by simp [hq]) e').2 i x H2 hlt hy
    have hdr : ds.drop i = d :: ds.drop (i + 1) := by
      rw [List.drop_eq_getElem_cons hlt]
      congr 1
      exact (List.getElem?_eq_some_iff.mp hd).2
    rw [hdr] at q'
    obtain ⟨Γ2, e2, q2⟩ := q'
    refine gWp_mono (hg F _ Γ' S' σ' H2 d x Γ2 r2 List.mem_cons_self e2) fun σ3 H3 ⟨_, r3⟩ => ?_
    have := hb F { D with nx := fun Γ2 S2 => it S2 = some ds ∧ wLoop it ds t w (ds.drop (i + 1)) Γ2 S2 D, ct := fun Γ2 S2 => it S2 = some ds ∧ wLoop it ds t w (ds.drop (i + 1)) Γ2 S2 D, bk := D.nx } xo (U ++ T) Γ2 S' σ3 H3 r3.tail q2
    refine fun pins s I => thn (this pins s I) fun f s' z => ?_
    cases f with
    | next => obtain ⟨σ4, H4, I4, Γ4, S4, r4, e4, q4⟩ := z; exact ⟨σ4, H4, I4, Γ4, S4, r4, e4, q4⟩
    | cont => obtain ⟨σ4, H4, I4, Γ4, S4, r4, e4, q4⟩ := z; exact ⟨σ4, H4, I4, Γ4, S4, r4, e4, q4⟩
    | brk =>
      obtain ⟨σ4, H4, I4, Γ4, S4, r4, q4⟩ := z
      exact ⟨σ4, H4, I4, Γ4, S4, r4.drop fun q hq => List.mem_append_right _ hq, q4⟩
    | ret u => exact z
  · rintro σ' H' ⟨Γ', S', r', _, q'⟩
    rw [List.drop_length] at q'
    exact ⟨Γ', S', r'.drop fun q hq => List.mem_append_right _ hq, q'⟩
end
end LP
namespace LP
open PySem PySem.Spec PyProof.Rows L2
/-- of data alone: a value or an error; none: nothing is said -/
abbrev PC := List D → Option (Except Er D)
/-- of things that may change: as a wish -/
abbrev FC := List A → So → EK → AK → Prop
def spP (K : PySem.W.Frag) (ci : Ci) (G : PC) : Sp := fun vs H Q E => ∃ (ds : List D) (ex : List Addr) (o : Except Er D), ds.length = vs.length ∧ RelR (⟨H, [], [], ex⟩ : Fr K ci) [] ((ds.map A.d).zip vs) [] [] [] H ∧ G ds = some o ∧ match o with
  | .ok d => ∀ v H', (∃ S', Rel (⟨H, [], [], ex⟩ : Fr K ci) [(.d d, v)] [] S' [] H') → Q v H'
  | .error er => ∀ cls dd H', (∃ S ρ, RelR (⟨H, [], [], ex⟩ : Fr K ci) ρ [] [] S [] H' ∧ ErrRep ci (⟨H, [], [], ex⟩ : Fr K ci) ρ S er cls dd H') → E cls dd H'
def spOf (K : PySem.W.Frag) (ci : Ci) (fc : FC) : Sp := fun vs H Q E => ∃ (as : List A) (S : So) (ρ ex : List Addr) (Q' : AK) (ex' : EK), as.length = vs.length ∧ RelR (⟨H, ρ, mutA ρ S, ex⟩ : Fr K ci) ρ (as.zip vs) [] S [] H ∧ fc as S ex' Q' ∧
  (∀ v H', (∃ a S', Rel (⟨H, ρ, mutA ρ S, ex⟩ : Fr K ci) [(a, v)] [] S' [] H' ∧ Q' a S') → Q v H') ∧ (∀ cls dd H', ExW (⟨H, ρ, mutA ρ S, ex⟩ : Fr K ci) ex' cls dd H' → E cls dd H')
def stG (N : List Str) (as : List A) : Ga := as.map some ++ List.replicate (N.length - as.length) none
theorem rel_start {K : PySem.W.Frag} {ci : Ci} {F : Fr K ci} {ρ : List Addr} {S : So} {H : Hp} {N : List Str} {as : List A} {vs : List V} (r : RelR F ρ (as.zip vs) [] S [] H) (hl : as.length = vs.length) : RelR F ρ [] (stG N as) S (L2.start N vs) H := by
  have q := r.slots (Γ' := stG N as) (σ' := L2.start N vs) (by simp [stG, L2.start, hl]) fun i a e => by
    unfold stG at e
    by_cases hi : i < as.length
    · rw [List.getElem?_append_left (by simpa using hi), List.getElem?_map] at e
      cases e1 : as[i]? with
      | none => rw [e1] at e; cases e
      | some b =>
        rw [e1] at e; cases e
        have hv : i < vs.length := by omega
        refine ⟨vs[i], ?_, r.tl (a, vs[i]) ?_⟩
        · unfold L2.start
          rw [List.getElem?_append_left (by simpa using hv), List.getElem?_map]
          simp [hv]
        · exact List.mem_of_getElem? (i := i) (by rw [List.getElem?_zip_eq_some]; exact ⟨e1, by simp [hv]⟩)
    · rw [List.getElem?_append_right (by simpa using hi), List.getElem?_replicate] at e
      split at e <;> cases e
  exact q.drop fun x hx => by cases hx
section
variable {P : Program} {w0 : World} {K : PySem.W.Frag} {mg : Str → Option Value} {base : Heap} {ci : Ci} {x qual : Str} {params : Arguments} {body : List Stmt} {scope : Scope} {dvs : List V} {kws : List (Str × V)} {f : Addr} {fd : FuncData} {N ps : List Str} {k : Nat}
abbrev cxD (P : Program) (w0 : World) (K : PySem.W.Frag) (mg : Str → Option Value) (base : Heap) (N : List Str) (qual : Str) (scope : Scope) (f : Addr) (cdv : Value) (A : Around) (outer : List Env) (s : Shared) (H : Hp) (E : XK) : Cx := cxOf (L2.CX P w0) P w0 K mg base N qual scope f cdv A outer s H E
/-- the body, whatever calls it -/
abbrev Body (P : Program) (w0 : World) (K : PySem.W.Frag) (mg : Str → Option Value) (base : Heap) (ci : Ci) (N : List Str) (qual : Str) (scope : Scope) (f : Addr) (k : Nat) (body : List Stmt) (w : WS) : Prop :=
  ∀ (cdv : Value) (A : Around) (outer : List Env) (s : Shared) (H : Hp) (E : XK), Room k (cxD P w0 K mg base N qual scope f cdv A outer s H E).A → RSs ci (cxD P w0 K mg base N qual scope f cdv A outer s H E) body w
/-- a def of data -/
theorem fnP (F : FunD K x qual params body scope dvs kws f fd) (sc : FnScope N ps scope) {G : PC} {w : WS} (hlen : ∀ ds o, G ds = some o → ds.length = ps.length) (hb : Body P w0 K mg base ci N qual scope f k body w)
    (hv : ∀ ds o, G ds = some o → w (stG N (ds.map A.d)) [] { nx := fun _ _ => o = .ok .non, rt := fun a _ => ∃ d, a = .d d ∧ o = .ok d, ex := fun er _ => o = .error er }) : FnOk P w0 K mg base (L2.CX P w0) (k + 1) f fd ps (spP K ci G) := by
  refine F.ok sc (fun vs H Q E h => ?_) (fun cdv A outer s H vs Q E hr h => ?_)
  · obtain ⟨ds, ex, o, h1, _, h3, _⟩ := h
    rw [← h1, hlen ds o h3]
  · obtain ⟨ds, ex, o, h1, h2, h3, h4⟩ := h
    have tk : Takes (cxD P w0 K mg base N qual scope f cdv A outer s H E) (fun cls d _ H => E cls d H) := takes_of rfl rfl rfl rfl
    refine ⟨_, pss_wp, ?_⟩
    have r0 := rel_start (N := N) h2 (by rw [List.length_map]; exact h1)
    cases o with
    | ok d =>
      have xo : Xok (cxD P w0 K mg base N qual scope f cdv A outer s H E) (⟨H, [], [], ex⟩ : Fr K ci) (fun er _ => (Except.ok d : Except Er D) = .error er) := tk.imp fun c dd σ H' ⟨er, S, ρ, _, _, z⟩ => by cases z
      have := hb cdv A outer s H E hr _ _ xo [] _ [] _ H ⟨[], r0⟩ (hv ds _ h3)
      refine fun pins s' I => thn (this pins s' I) fun fl s2 z => ?_
      cases fl with
      | next =>
        obtain ⟨σ', H', I', Γ', S', r', e⟩ := z
        cases e
        exact ⟨σ', H', I', h4 _ _ ⟨S', r'.non.bare⟩⟩
      | ret u =>
        obtain ⟨v, σ', H', I', rv, a, S', r', d', e1, e2⟩ := z
        cases e2
        subst e1
        exact ⟨v, σ', H', I', rv, h4 _ _ ⟨S', r'⟩⟩
      | brk => obtain ⟨_, _, _, _, _, _, z⟩ := z; exact z.elim
      | cont => obtain ⟨_, _, _, _, _, _, z⟩ := z; exact z.elim
    | error er =>
      have xo : Xok (cxD P w0 K mg base N qual scope f cdv A outer s H E) (⟨H, [], [], ex⟩ : Fr K ci) (fun er' _ => (Except.error er : Except Er D) = .error er') := tk.imp fun c dd σ H' ⟨er', S, ρ, r', e', z⟩ => by
        cases z
        exact h4 _ _ _ ⟨S, ρ, r', e'⟩
      have := hb cdv A outer s H E hr _ _ xo [] _ [] _ H ⟨[], r0⟩ (hv ds _ h3)
      refine fun pins s' I => thn (this pins s' I) fun fl s2 z => ?_
      cases fl with
      | next => obtain ⟨_, _, _, _, _, _, z⟩ := z; cases z
      | ret u => obtain ⟨_, _, _, _, _, _, _, _, _, _, z⟩ := z; cases z
      | brk => obtain ⟨_, _, _, _, _, _, z⟩ := z; exact z.elim
      | cont => obtain ⟨_, _, _, _, _, _, z⟩ := z; exact z.elim
/-- a def of things that may change -/
theorem fnM (F : FunD K x qual params body scope dvs kws f fd) (sc : FnScope N ps scope) {fc : FC} {w : WS} (hlen : ∀ as S ex Q, fc as S ex Q → as.length = ps.length) (hb : Body P w0 K mg base ci N qual scope f k body w)
    (hv : ∀ as S ex Q, fc as S ex Q → w (stG N as) S { nx := fun _ S' => Q (.d .non) S', rt := Q, ex := ex }) : FnOk P w0 K mg base (L2.CX P w0) (k + 1) f fd ps (spOf K ci fc) := by
  refine F.ok sc (fun vs H Q E h => ?_) (fun cdv A outer s H vs Q E hr h => ?_)
  · obtain ⟨as, S, ρ, ex, Q', ex', h1, _, h3, _⟩ := h
    rw [← h1, hlen _ _ _ _ h3]
  · obtain ⟨as, S, ρ, ex, Q', ex', h1, h2, h3, h4, h5⟩ := h
    have tk : Takes (cxD P w0 K mg base N qual scope f cdv A outer s H E) (fun cls d _ H => E cls d H) := takes_of rfl rfl rfl rfl
    refine ⟨_, pss_wp, ?_⟩
    have r0 := rel_start (N := N) h2 h1
    have xo : Xok (cxD P w0 K mg base N qual scope f cdv A outer s H E) (⟨H, ρ, mutA ρ S, ex⟩ : Fr K ci) ex' := tk.imp fun c dd σ H' z => h5 _ _ _ z
    have := hb cdv A outer s H E hr _ { nx := fun _ S' => Q' (.d .non) S', rt := Q', ex := ex' } xo [] _ S _ H ⟨ρ, r0⟩ (hv as S ex' Q' h3)
    refine fun pins s' I => thn (this pins s' I) fun fl s2 z => ?_
    cases fl with
    | next =>
      obtain ⟨σ', H', I', Γ', S', r', e⟩ := z
      exact ⟨σ', H', I', h4 _ _ ⟨_, S', r'.non.bare, e⟩⟩
    | ret u =>
      obtain ⟨v, σ', H', I', rv, a, S', r', e⟩ := z
      exact ⟨v, σ', H', I', rv, h4 _ _ ⟨a, S', r', e⟩⟩
    | brk => obtain ⟨_, _, _, _, _, _, z⟩ := z; exact z.elim
    | cont => obtain ⟨_, _, _, _, _, _, z⟩ := z; exact z.elim
end
section
variable {K : PySem.W.Frag} {ci : Ci}
theorem rep_flat {M : List Addr} {H : Hp} : ∀ {d : D}, d.flat = true → Rep K ci M H d d.v
  | .non, _ => by rw [Rep]; rfl
  | .bl _, _ => by rw [Rep]; rfl
  | .int _, _ => by rw [Rep]; rfl
  | .str _, _ => by rw [Rep]; rfl
  | .tup _, h => by cases h
  | .lst _, h => by cases h
  | .ins _ _, h => by cases h
  | .dic _ _, h => by cases h
  | .fn _, h => by cases h
  | .exc _ _ _, h => by cases h
theorem RelR.flats {F : Fr K ci} {ρ : List Addr} {T : List (A × V)} {Γ : Ga} {S : So} {σ : L2.St} {H : Hp} (r : RelR F ρ T Γ S σ H) : ∀ {l : List D}, l.all D.flat = true → RelR F ρ ((l.map A.d).zip (l.map D.v) ++ T) Γ S σ H
  | [], _ => r
  | d :: l, h => by
    rw [List.all_cons, Bool.and_eq_true] at h
    exact (RelR.flats r h.2).push (rep_flat h.1)
theorem zip_app {α β : Type} {a c : List α} {b d : List β} (h : a.length = b.length) : (a ++ c).zip (b ++ d) = a.zip b ++ c.zip d := List.zip_append h
theorem spP_of {F : Fr K ci} {T : List (A × V)} {Γ : Ga} {S : So} {σ : L2.St} {H : Hp} {l dfl : List D} {vs : List V} {G : PC} {o : Except Er D} {Q : VK} {E : XK} (r : Rel F T Γ S σ H) (hl : l.length = vs.length) (hT : ∀ q ∈ (l.map A.d).zip vs, q ∈ T) (hf : dfl.all D.flat = true) (e : G (l ++ dfl) = some o)
    (k1 : ∀ d, o = .ok d → ∀ v H', Rel F ((.d d, v) :: T) Γ S σ H' → Q v H') (k2 : ∀ er, o = .error er → ∀ cls dd H', (∃ ρ, RelR F ρ T Γ S σ H' ∧ ErrRep ci F ρ S er cls dd H') → E cls dd H') : spP K ci G (vs ++ dfl.map D.v) H Q E := by
  obtain ⟨ρ, r⟩ := r
  refine ⟨l ++ dfl, mu F ρ S, o, by simp [hl], ?_, e, ?_⟩
  · have := (r.flats hf).shut (U := ((l ++ dfl).map A.d).zip (vs ++ dfl.map D.v)) (fun q hq => ?_) (fun q hq => ?_)
    · exact this
    · rw [List.map_append, zip_app (by simp [hl])] at hq
      rcases List.mem_append.mp hq with hq | hq
      · exact List.mem_append_right _ (hT q hq)
      · exact List.mem_append_left _ hq
    · have := (List.of_mem_zip hq).1
      obtain ⟨d, _, h⟩ := List.mem_map.mp this
      exact ⟨d, h.symm⟩
  · cases o with
    | ok d =>
      rintro v H' ⟨S', ρ', q⟩
      exact k1 d rfl v H' ⟨ρ, r.unshut q List.mem_cons_self⟩
    | error er =>
      rintro cls dd H' ⟨S', ρ', q, h⟩
      exact k2 er rfl cls dd H' ⟨ρ, r.unshutE q h⟩
theorem spOf_of {F : Fr K ci} {T : List (A × V)} {Γ : Ga} {S : So} {σ : L2.St} {H : Hp} {as : List A} {dfl : List D} {vs : List V} {fc : FC} {Q : VK} {E : XK} {ex : EK} {Q' : AK} (r : Rel F T Γ S σ H) (hl : as.length = vs.length) (hT : ∀ q ∈ as.zip vs, q ∈ T) (hf : dfl.all D.flat = true) (e : fc (as ++ dfl.map A.d) S ex Q')
    (k1 : ∀ a S' v H', Rel F ((a, v) :: T) Γ S' σ H' → Q' a S' → Q v H') (k2 : ∀ cls dd H', ExW F ex cls dd H' → E cls dd H') : spOf K ci fc (vs ++ dfl.map D.v) H Q E := by
  obtain ⟨ρ, r⟩ := r
  refine ⟨as ++ dfl.map A.d, S, ρ, F.ex, Q', ex, by simp [hl], ?_, e, ?_, ?_⟩
  · refine ((r.flats hf).here.bare).drop fun q hq => ?_
    rw [zip_app hl] at hq
    rcases List.mem_append.mp hq with hq | hq
    · exact List.mem_append_right _ (hT q hq)
    · exact List.mem_append_left _ hq
  · rintro v H' ⟨a, S', ⟨ρ', q⟩, h⟩
    exact k1 a S' v H' ⟨ρ', r.after q⟩ h
  · rintro cls dd H' ⟨er, S', ρ', q, h1, h2⟩
    exact k2 cls dd H' ⟨er, S', ρ', (r.there q), h1, h2⟩
end
structure CallP (P : Program) (w : World) (K : PySem.W.Frag) (mg : Str → Option Value) (base : Heap) (ci : Ci) (k : Nat) (x : Str) (dfl : List D) (sp : Sp) : Prop where
  ex : ∃ (f : Addr) (fd : FuncData) (ps : List Str) (ds : List Value), FnOk P w K mg base (L2.CX P w) k f fd ps sp ∧ mg x = some (.ref f) ∧ PySem.W.keepIn K (.ref f) = true ∧ Binds K fd ps ds ∧ Vals (dfl.map D.v) ds ∧ dfl.all D.flat = true
def fFn (dfl : List D) (G : PC) (fs : QFs) : QF := fun Γ S => (fs Γ S).bind fun as => (dataOf as).bind fun l => match G (l ++ dfl) with | some (.ok d) => some (.d d) | _ => none
def wFn (dfl : List D) (G : PC) (ws : WAs) : WE := fun Γ S ex Q => ws Γ S ex fun as S1 => ∃ l o, dataOf as = some l ∧ G (l ++ dfl) = some o ∧ match o with | .ok d => Q (.d d) S1 | .error er => ex er S1
def wFnM (dfl : List D) (fc : FC) (ws : WAs) : WE := fun Γ S ex Q => ws Γ S ex fun as S1 => fc (as ++ dfl.map A.d) S1 ex Q
theorem fn_some {dfl : List D} {G : PC} {fs : QFs} {Γ : Ga} {S : So} {a : A} (h : fFn dfl G fs Γ S = some a) : ∃ l d, fs Γ S = some (l.map A.d) ∧ G (l ++ dfl) = some (.ok d) ∧ a = .d d := by
  unfold fFn at h
  cases e1 : fs Γ S with
  | none => rw [e1] at h; cases h
  | some as =>
    rw [e1, Option.bind_some] at h
    cases e2 : dataOf as with
    | none => rw [e2] at h; cases h
    | some l =>
      rw [e2, Option.bind_some] at h
      split at h
      · rename_i d e3
        cases h
        rw [dataOf_eq e2]
        exact ⟨l, d, rfl, e3, rfl⟩
      · cases h
section
variable {ci : Ci} {X : Cx}
theorem passX {F : Fr X.K ci} {ex : EK} (xo : Xok X F ex) : Passes (L2.CX X.prog X.w) X (fun cls d H => ExW F ex cls d H) := passes_call xo fun _ _ _ _ h => h
theorem rp_call {k : Nat} {x : Str} {p pos : Pos} {e : Expr} {es : List Expr} {dfl : List D} {G : PC} {fs : QFs} (C : CallP X.prog X.w X.K X.mg X.base ci k x dfl (spP X.K ci G)) (hr : Room k X.A) (hg : Gl X x) (ha : RPs ci X (e :: es) fs)
    (hdb : (x == ("__debug__" : Str)) = false := by decide +kernel) (he : starEach (e :: es) X.env = (false, eval e X.env) :: starEach es X.env := by rfl) (hpl : (backTo pos (starEach es X.env)).any (·.1) = false := by kernel_rfl) : RP ci X (.Call (.Name x p) (e :: es) [] pos) (fFn dfl G fs) := fun F T Γ S σ H a r q => by
  obtain ⟨l, d, e1, e2, rfl⟩ := fn_some q
  obtain ⟨f, fd, ps, ds, h1, h2, h3, h4, h5, h6⟩ := C.ex
  refine wpX_of (pe_call (E := E0) h1 hr hg h2 h3 h4 h5 passL pa_wp hdb he hpl) (wpA_mono (ha.2 F T Γ S σ H _ r e1) fun vs H' ⟨hz, r1⟩ => ?_)
  exact spP_of r1 (by simpa using hz) (fun q hq => List.mem_append_left _ hq) h6 e2 (fun d' ed v H2 r2 => by cases ed; exact r2.drop dropA) fun er z => by cases z
theorem re_call {k : Nat} {x : Str} {p pos : Pos} {e : Expr} {es : List Expr} {dfl : List D} {G : PC} {ws : WAs} (C : CallP X.prog X.w X.K X.mg X.base ci k x dfl (spP X.K ci G)) (hr : Room k X.A) (hg : Gl X x) (ha : RA ci X (e :: es) ws)
    (hdb : (x == ("__debug__" : Str)) = false := by decide +kernel) (he : starEach (e :: es) X.env = (false, eval e X.env) :: starEach es X.env := by rfl) (hpl : (backTo pos (starEach es X.env)).any (·.1) = false := by kernel_rfl) : RE ci X (.Call (.Name x p) (e :: es) [] pos) (wFn dfl G ws) := fun F ex xo T Γ S σ H Q r q => by
  obtain ⟨f, fd, ps, ds, h1, h2, h3, h4, h5, h6⟩ := C.ex
  refine wpX_of (pe_call (E := fun cls d H => ExW F ex cls d H) h1 hr hg h2 h3 h4 h5 (passX xo) pa_wp hdb he hpl) (wpA_mono (ha F ex xo T Γ S σ H _ r q) fun vs H' ⟨as, S1, hz, _, r1, l, o, e1, e2, q1⟩ => ?_)
  rw [dataOf_eq e1] at r1 hz
  refine spP_of r1 (by simpa using hz) (fun q hq => List.mem_append_left _ hq) h6 e2 (fun d' ed v H2 r2 => ?_) fun er ee cls dd H2 ⟨ρ, r2, hE⟩ => ?_
  · subst ed; exact ⟨_, S1, r2.drop dropA, q1⟩
  · subst ee; exact ⟨er, S1, ρ, (r2.bare).drop (fun x hx => by cases hx), hE, q1⟩
theorem re_callM {k : Nat} {x : Str} {p pos : Pos} {e : Expr} {es : List Expr} {dfl : List D} {fc : FC} {ws : WAs} (C : CallP X.prog X.w X.K X.mg X.base ci k x dfl (spOf X.K ci fc)) (hr : Room k X.A) (hg : Gl X x) (ha : RA ci X (e :: es) ws)
    (hdb : (x == ("__debug__" : Str)) = false := by decide +kernel) (he : starEach (e :: es) X.env = (false, eval e X.env) :: starEach es X.env := by rfl) (hpl : (backTo pos (starEach es X.env)).any (·.1) = false := by kernel_rfl) : RE ci X (.Call (.Name x p) (e :: es) [] pos) (wFnM dfl fc ws) := fun F ex xo T Γ S σ H Q r q => by
  obtain ⟨f, fd, ps, ds, h1, h2, h3, h4, h5, h6⟩ := C.ex
  refine wpX_of (pe_call (E := fun cls d H => ExW F ex cls d H) h1 hr hg h2 h3 h4 h5 (passX xo) pa_wp hdb he hpl) (wpA_mono (ha F ex xo T Γ S σ H _ r q) fun vs H' ⟨as, S1, hz, _, r1, q1⟩ => ?_)
  exact spOf_of r1 hz (fun q hq => List.mem_append_left _ hq) h6 q1 (fun a S' v H2 r2 h => ⟨a, S', r2.drop dropA, h⟩) fun cls dd H2 h => h
end
end LP
namespace LP
open PySem PySem.Spec PyProof.Rows L2
theorem zip_lookup {α : Type} : ∀ {ns : List Str} {vs : List α} {j : Nat} {f : Str}, ns.Nodup → ns[j]? = some f → j < vs.length → (ns.zip vs).lookup f = vs[j]?
  | [], vs, j, f, _, e, _ => by simp at e
  | n :: ns, [], j, f, _, e, h => by simp at h
  | n :: ns, v :: vs, 0, f, _, e, h => by simp at e; subst e; simp [List.lookup]
  | n :: ns, v :: vs, j + 1, f, nd, e, h => by
    have e' : ns[j]? = some f := by simpa using e
    have hne : (f == n) = false := by
      rw [beq_eq_false_iff_ne]
      intro z; subst z
      exact (List.nodup_cons.mp nd).1 (List.mem_of_getElem? e')
    rw [List.zip_cons_cons, List.lookup_cons, hne]
    simpa using zip_lookup (List.nodup_cons.mp nd).2 e' (by simpa using h)
theorem zip_lookup_none {α : Type} : ∀ {ns : List Str} {vs : List α} {f : Str}, f ∉ ns → (ns.zip vs).lookup f = none
  | [], vs, f, _ => by simp
  | n :: ns, [], f, _ => by simp
  | n :: ns, v :: vs, f, h => by
    have hne : (f == n) = false := by
      rw [beq_eq_false_iff_ne]
      intro z; subst z; exact h List.mem_cons_self
    rw [List.zip_cons_cons, List.lookup_cons, hne]
    exact zip_lookup_none fun z => h (List.mem_cons_of_mem _ z)
def putAt {α : Type} (l : List α) (j : Nat) (a : α) : List α := if j < l.length then l.set j a else l ++ [a]
theorem zip_putF : ∀ {ns : List Str} {vs : List V} {j : Nat} {f : Str} {y : V}, ns.Nodup → ns[j]? = some f → j ≤ vs.length → putF f y (ns.zip vs) = ns.zip (putAt vs j y)
  | [], vs, j, f, y, _, e, _ => by simp at e
  | n :: ns, [], j, f, y, _, e, h => by
    have : j = 0 := by simpa using h
    subst this
    simp at e; subst e
    simp [putF, putAt]
  | n :: ns, v :: vs, 0, f, y, _, e, h => by
    simp at e; subst e
    simp [putF, putAt]
  | n :: ns, v :: vs, j + 1, f, y, nd, e, h => by
    have e' : ns[j]? = some f := by simpa using e
    have hne : ¬ n = f := by
      intro z; subst z
      exact (List.nodup_cons.mp nd).1 (List.mem_of_getElem? e')
    have ih := zip_putF (vs := vs) (y := y) (List.nodup_cons.mp nd).2 e' (by simpa using h)
    rw [List.zip_cons_cons, putF, if_neg hne, ih]
    unfold putAt
    by_cases hj : j < vs.length
    · rw [if_pos hj, if_pos (by simpa using hj), List.set_cons_succ, List.zip_cons_cons]
    · rw [if_neg hj, if_neg (by simpa using hj), List.cons_append, List.zip_cons_cons]
/-- attribute f, the j-th, of class c -/
structure AttrOk (K : PySem.W.Frag) (ci : Ci) (c : Nat) (f : Str) (j : Nat) : Prop where
  cl : Cls K (ci c).1
  no : NoAttr K (ci c).1 f
  nd : (ci c).2.Nodup
  at_ : (ci c).2[j]? = some f
  few : (ci c).2.length < 1000
def fldV (okc : List Nat) (j : Nat) (S : So) : A → Option A
  | .d (.ins c fs) => if okc.contains c = true then (fs[j]?).map A.d else none
  | .loc k => match S[k]? with
    | some (.ins c fs) => if okc.contains c = true then fs[j]? else none
    | some (.frz (.ins c fs)) => if okc.contains c = true then (fs[j]?).map A.d else none
    | _ => none
  | _ => none
def fFld (okc : List Nat) (j : Nat) (f : QF) : QF := fun Γ S => (f Γ S).bind (fldV okc j S)
section
variable {ci : Ci} {X : Cx}
theorem fld_data {K : PySem.W.Frag} {M : List Addr} {H : Hp} {c : Nat} {fs : List D} {v : V} {j : Nat} {f : Str} {d : D} (A : AttrOk K ci c f j) (h : Rep K ci M H (.ins c fs) v) (e : fs[j]? = some d) : ∃ a C dx gs w, v = .ref a ∧ H a = some (.ins C dx gs) ∧ Cls K C ∧ NoAttr K C f ∧ gs.lookup f = some w ∧ Rep K ci M H d w := by
  rw [Rep] at h
  obtain ⟨p, dx, vs, e1, q, n, z, R⟩ := h
  obtain ⟨w, hw, rw'⟩ := R.getD e
  exact ⟨p, _, dx, _, w, e1, q, A.cl, A.no, by rw [zip_lookup A.nd A.at_ (List.getElem?_eq_some_iff.mp hw).1, hw], rw'⟩
theorem fld_end {F : Fr X.K ci} {T : List (A × V)} {Γ : Ga} {S : So} {σ : L2.St} {H : Hp} {okc : List Nat} {j : Nat} {f : Str} {a b : A} {v : V} (hA : ∀ c ∈ okc, AttrOk X.K ci c f j) (r : Rel F ((a, v) :: T) Γ S σ H)
    (e : fldV okc j S a = some b) : ∃ p C dx gs w, v = .ref p ∧ H p = some (.ins C dx gs) ∧ Cls X.K C ∧ NoAttr X.K C f ∧ gs.lookup f = some w ∧ Rel F ((b, w) :: T) Γ S σ H := by
  obtain ⟨ρ, r⟩ := r
  unfold fldV at e
  split at e
  · rename_i c fs
    split at e
    · rename_i hc
      cases e1 : fs[j]? with
      | none => rw [e1] at e; cases e
      | some d =>
        rw [e1] at e; cases e
        obtain ⟨p, C, dx, gs, w, h1, h2, h3, h4, h5, h6⟩ := fld_data (hA c (by simpa using hc)) (r.top List.mem_cons_self) e1
        exact ⟨p, C, dx, gs, w, h1, h2, h3, h4, h5, ρ, (r.push (a := .d d) h6).drop drop2⟩
    · cases e
  · rename_i k
    obtain ⟨p, hp, rfl⟩ := r.top (a := .loc k) (v := v) List.mem_cons_self
    split at e
    · rename_i c fs hs
      split at e
      · rename_i hc
        have Ao := hA c (by simpa using hc)
        obtain ⟨dx, vs, e1, z, R⟩ := r.st k p _ hp hs
        obtain ⟨w, hw, hr⟩ := R.getA e
        exact ⟨p, _, dx, _, w, rfl, e1, Ao.cl, Ao.no, by rw [zip_lookup Ao.nd Ao.at_ (List.getElem?_eq_some_iff.mp hw).1, hw], ρ, (r.push hr).drop drop2⟩
      · cases e
    · rename_i c fs hs
      split at e
      · rename_i hc
        cases e1 : fs[j]? with
        | none => rw [e1] at e; cases e
        | some d =>
          rw [e1] at e; cases e
          obtain ⟨p', C, dx, gs, w, h1, h2, h3, h4, h5, h6⟩ := fld_data (hA c (by simpa using hc)) (r.st k p _ hp hs) e1
          cases h1
          exact ⟨p, C, dx, gs, w, rfl, h2, h3, h4, h5, ρ, (r.push (a := .d d) h6).drop drop2⟩
      · cases e
    · cases e
  · cases e
theorem rp_fld {okc : List Nat} {j : Nat} {f : Str} {e : Expr} {fo : QF} {pos : Pos} (hA : ∀ c ∈ okc, AttrOk X.K ci c f j) (he : RP ci X e fo) (hb : attributeBase e f X.env (eval e X.env) = eval e X.env := by kernel_rfl) : RP ci X (.Attribute e f pos) (fFld okc j fo) := fun F T Γ S σ H b r q => by
  unfold fFld at q
  cases e1 : fo Γ S with
  | none => rw [e1] at q; cases q
  | some a =>
    rw [e1, Option.bind_some] at q
    refine wpX_of (pe_fld pe_wp hb) (wpX_mono (he F T Γ S σ H a r e1) fun v H' r1 => ?_)
    obtain ⟨p, C, dx, gs, w, h1, h2, h3, h4, h5, h6⟩ := fld_end hA r1 q
    exact ⟨p, C, dx, gs, w, h1, h2, h3, h4, h5, h6⟩
/-- o.f = e, o a thing that may change -/
def wSetF (okc : List Nat) (j : Nat) (wo we : WE) : WS := fun Γ S D => we Γ S D.ex fun b S1 => wo Γ S1 D.ex fun a S2 => ∃ k c fs, a = .loc k ∧ S2[k]? = some (.ins c fs) ∧ okc.contains c = true ∧ j ≤ fs.length ∧ D.nx Γ (S2.set k (.ins c (putAt fs j b)))
theorem AReps.putAt {K : PySem.W.Frag} {ρ M : List Addr} {H : Hp} {a : A} {v : V} {ds : List A} {vs : List V} {j : Nat} (q : ARep K ci ρ M H a v) (R : AReps K ci ρ M H ds vs) : AReps K ci ρ M H (putAt ds j a) (putAt vs j v) := by
  unfold LP.putAt
  rw [R.length]
  split
  · exact R.set q j
  · exact R.append ⟨v, [], rfl, q, rfl⟩
theorem rs_setF {okc : List Nat} {j : Nat} {f : Str} {o e : Expr} {wo we : WE} {pos' pos : Pos} (hA : ∀ c ∈ okc, AttrOk X.K ci c f j) (ho : RE ci X o wo) (he : RE ci X e we) (hs : swapsWith e (some (.Attribute o f pos')) pos.line X.env = pure false := by kernel_rfl) : RS ci X (.Assign [.Attribute o f pos'] e pos) (wSetF okc j wo we) := fun F D xo T Γ S σ H r q => by
  refine wpS_of (ps_fld pe_wp pe_wp hs) (wpX_mono (he F D.ex xo T Γ S σ H _ r q) fun y H1 ⟨b, S1, r1, q1⟩ => wpX_mono (ho F D.ex xo _ Γ S1 σ H1 _ r1 q1) fun x H2 ⟨a, S2, r2, k, c, fs, h1, h2, h3, h4, q2⟩ => ?_)
  subst h1
  have A := hA c (by simpa using h3)
  obtain ⟨ρ, r2⟩ := r2
  obtain ⟨p, hp, rfl⟩ := r2.top (a := .loc k) (v := x) List.mem_cons_self
  obtain ⟨dx, vs, e1, z, R⟩ := r2.st k p _ hp h2
  have hl : fs.length = vs.length := R.length
  refine ⟨p, _, dx, _, rfl, e1, A.cl, A.no, ?_, Γ, _, ⟨ρ, ?_⟩, q2⟩
  · rw [List.length_zip]; have := A.few; omega
  · have hb : ARep X.K ci ρ (mu F ρ S2) H2 b y := r2.tl (b, y) (by simp)
    have hpm : p ∈ mu F ρ S2 := List.mem_append_left _ (mutA_mem hp h2 rfl)
    have hh : ∀ a o, H2 a = some o → a ∉ mu F ρ S2 → (upd H2 p (.ins (ci c).1 dx (putF f y ((ci c).2.zip vs)))) a = some o ∧ a ∉ mu F ρ S2 := fun a o e n => ⟨by rw [upd_ne (fun w => n (by rw [w]; exact hpm))]; exact e, n⟩
    refine (r2.write (o := .ins (ci c).1 dx (putF f y ((ci c).2.zip vs))) (mo' := .ins c (putAt fs j b)) hp h2 rfl rfl ⟨dx, putAt vs j y, ?_, ?_, ?_⟩).drop fun q hq => by simp [hq]
    · rw [upd_same, zip_putF A.nd A.at_ (by omega)]
    · have := (List.getElem?_eq_some_iff.mp A.at_).1
      unfold LP.putAt; split <;> simp <;> omega
    · exact (AReps.putAt hb R).mono hh (List.prefix_refl _)
structure MethP (P : Program) (w : World) (K : PySem.W.Frag) (mg : Str → Option Value) (base : Heap) (ci : Ci) (k : Nat) (c : Nat) (m : Str) (dfl : List D) (sp : Sp) : Prop where
  ex : ∃ (f : Addr) (fd : FuncData) (ps : List Str) (ds : List Value), FnOk P w K mg base (L2.CX P w) k f fd ps sp ∧ Cls K (ci c).1 ∧ Meth K (ci c).1 m f ∧ m ∉ (ci c).2 ∧ Binds K fd ps ds ∧ Vals (dfl.map D.v) ds ∧ dfl.all D.flat = true
def fMeth (mt : Nat → Option (List D × PC)) (fo : QF) (fs : QFs) : QF := fun Γ S => (fo Γ S).bind fun a => match a with
  | .d (.ins c flds) => (fs Γ S).bind fun as => (dataOf as).bind fun l => (mt c).bind fun (dfl, G) => match G (.ins c flds :: (l ++ dfl)) with
    | some (.ok d) => some (.d d)
    | _ => none
  | _ => none
theorem meth_some {mt : Nat → Option (List D × PC)} {fo : QF} {fs : QFs} {Γ : Ga} {S : So} {a : A} (h : fMeth mt fo fs Γ S = some a) : ∃ c flds l dfl G d, fo Γ S = some (.d (.ins c flds)) ∧ fs Γ S = some (l.map A.d) ∧ mt c = some (dfl, G) ∧ G (.ins c flds :: (l ++ dfl)) = some (.ok d) ∧ a = .d d := by
  unfold fMeth at h
  cases e1 : fo Γ S with
  | none => rw [e1] at h; cases h
  | some b =>
    rw [e1, Option.bind_some] at h
    split at h
    · rename_i c flds
      cases e2 : fs Γ S with
      | none => rw [e2] at h; cases h
      | some as =>
        rw [e2, Option.bind_some] at h
        cases e3 : dataOf as with
        | none => rw [e3] at h; cases h
        | some l =>
          rw [e3, Option.bind_some] at h
          cases e4 : mt c with
          | none => rw [e4] at h; cases h
          | some g =>
            obtain ⟨dfl, G⟩ := g
            rw [e4, Option.bind_some] at h
            dsimp only at h
            split at h
            · rename_i d e5
              cases h
              exact ⟨c, flds, l, dfl, G, d, rfl, by rw [dataOf_eq e3], e4, e5, rfl⟩
            · cases h
    · cases h
theorem ins_at {K : PySem.W.Frag} {M : List Addr} {H : Hp} {c : Nat} {fs : List D} {v : V} (h : Rep K ci M H (.ins c fs) v) : ∃ p dx vs, v = .ref p ∧ H p = some (.ins (ci c).1 dx ((ci c).2.zip vs)) := by
  rw [Rep] at h
  obtain ⟨p, dx, vs, e1, q, _⟩ := h
  exact ⟨p, dx, vs, e1, q⟩
theorem rp_meth0 {k : Nat} {m : Str} {o : Expr} {apos pos : Pos} {mt : Nat → Option (List D × PC)} {fo : QF} {pl : Sem Bool} (hM : ∀ c dfl G, mt c = some (dfl, G) → MethP X.prog X.w X.K X.mg X.base ci k c m dfl (spP X.K ci G)) (hr : Room k X.A) (ho : RP ci X o fo)
    (ht : eval (.Call (.Attribute o m apos) [] [] pos) X.env = (do
      let ov ← eval o X.env
      standAt apos.atName
      let (f, first) ← holding [ov] (getMethod ov m pl)
      callWith pos f first (backTo pos (starEach [] X.env)) (backToKw pos (keywordEach [] X.env))) := by rfl) : RP ci X (.Call (.Attribute o m apos) [] [] pos) (fMeth mt fo fNil) := fun F T Γ S σ H a r q => by
  obtain ⟨c, flds, l, dfl, G, d, e1, e2, e3, e4, rfl⟩ := meth_some q
  have hl : l = [] := by cases l with | nil => rfl | cons x y => cases e2
  subst hl
  obtain ⟨f, fd, ps, ds, h1, h2, h3, h4, h5, h6, h7⟩ := (hM c dfl G e3).ex
  refine wpX_of (pe_meth0 (E := E0) pe_wp h2 h3 h1 hr h5 h6 passL ht) (wpX_mono (ho F T Γ S σ H _ r e1) fun v H1 r1 => ?_)
  obtain ⟨ρ1, q1⟩ := id r1
  obtain ⟨p, dx, vs, rfl, hp⟩ := ins_at (q1.top (a := .d (.ins c flds)) List.mem_cons_self)
  refine ⟨p, dx, _, rfl, hp, zip_lookup_none h4, ?_⟩
  exact spP_of (l := [.ins c flds]) (vs := [.ref p]) (o := .ok d) r1 rfl (fun q hq => by simp at hq; simp [hq]) h7 e4 (fun d' ed v H3 r3 => by cases ed; exact r3.drop drop2) fun er z => by cases z
/-- a property -/
structure PropP (P : Program) (w : World) (K : PySem.W.Frag) (mg : Str → Option Value) (base : Heap) (ci : Ci) (k : Nat) (c : Nat) (m : Str) (G : PC) : Prop where
  ex : ∃ (p g : Addr) (fd : FuncData) (ps : List Str), FnOk P w K mg base (L2.CX P w) k g fd ps (spP K ci G) ∧ Cls K (ci c).1 ∧ PropOf K (ci c).1 m p g ∧ Binds K fd ps []
def propV (mt : Nat → Option PC) : A → Option A
  | .d (.ins c flds) => (mt c).bind fun G => match G [.ins c flds] with
    | some (.ok d) => some (.d d)
    | _ => none
  | _ => none
def fProp (mt : Nat → Option PC) (fo : QF) : QF := fun Γ S => (fo Γ S).bind (propV mt)
theorem rp_prop {k : Nat} {m : Str} {o : Expr} {pos : Pos} {mt : Nat → Option PC} {fo : QF} (hM : ∀ c G, mt c = some G → PropP X.prog X.w X.K X.mg X.base ci k c m G) (hr : Room (k + 1) X.A) (ho : RP ci X o fo) (hb : attributeBase o m X.env (eval o X.env) = eval o X.env := by kernel_rfl) : RP ci X (.Attribute o m pos) (fProp mt fo) := fun F T Γ S σ H a r q => by
  unfold fProp at q
  cases e1 : fo Γ S with
  | none => rw [e1] at q; cases q
  | some b =>
    rw [e1, Option.bind_some] at q
    unfold propV at q
    split at q
    · rename_i c flds
      cases e2 : mt c with
      | none => rw [e2] at q; cases q
      | some G =>
        rw [e2, Option.bind_some] at q
        split at q
        · rename_i d e3
          cases q
          obtain ⟨p, g, fd, ps, h1, h2, h3, h4⟩ := (hM c G e2).ex
          refine wpX_of (pe_prop (E := E0) (ds := []) pe_wp h2 h3 h1 hr h4 .nil passL hb) (wpX_mono (ho F T Γ S σ H _ r e1) fun v H1 r1 => ?_)
          obtain ⟨ρ1, q1⟩ := id r1
          obtain ⟨p, dx, vs, rfl, hp⟩ := ins_at (q1.top (a := .d (.ins c flds)) List.mem_cons_self)
          refine ⟨p, dx, _, rfl, hp, ?_⟩
          exact spP_of (l := [.ins c flds]) (vs := [.ref p]) (dfl := []) (o := .ok d) r1 rfl (fun q hq => by simp at hq; simp [hq]) rfl e3 (fun d' ed v H3 r3 => by cases ed; exact r3.drop drop2) fun er z => by cases z
        · cases q
    · cases q
abbrev PI' := List D → Option (Except Er (List D))
def spI (K : PySem.W.Frag) (ci : Ci) (c : Nat) (G : PI') : Sp := fun vs H Q E => ∃ (p : Addr) (ds : List D) (vs' : List V) (ex : List Addr) (o : Except Er (List D)), vs = .ref p :: vs' ∧ ds.length = vs'.length ∧ RelR (⟨H, [p], [p], ex⟩ : Fr K ci) [p] ((ds.map A.d).zip vs') [] [.ins c []] [] H ∧ G ds = some o ∧ match o with
  | .ok fs => ∀ H', (∃ S', Rel (⟨H, [p], [p], ex⟩ : Fr K ci) [] [] S' [] H' ∧ S'[0]? = some (.ins c (fs.map A.d))) → Q .non H'
  | .error er => ∀ cls dd H', (∃ S ρ, RelR (⟨H, [p], [p], ex⟩ : Fr K ci) ρ [] [] S [] H' ∧ ErrRep ci (⟨H, [p], [p], ex⟩ : Fr K ci) ρ S er cls dd H') → E cls dd H'
end
structure MakeP (P : Program) (w : World) (K : PySem.W.Frag) (mg : Str → Option Value) (base : Heap) (ci : Ci) (k : Nat) (x : Str) (c : Nat) (dfl : List D) (G : PI') : Prop where
  ex : ∃ (f : Addr) (fd : FuncData) (ps : List Str) (ds : List Value), FnOk P w K mg base (L2.CX P w) k f fd ps (spI K ci c G) ∧ Mk K (ci c).1 f ∧ mg x = some (.ref (ci c).1) ∧ Binds K fd ps ds ∧ Vals (dfl.map D.v) ds ∧ dfl.all D.flat = true
  len : ∀ ds fs, G ds = some (.ok fs) → fs.length = (ci c).2.length
def fMake (c : Nat) (dfl : List D) (G : PI') (fs : QFs) : QF := fun Γ S => (fs Γ S).bind fun as => (dataOf as).bind fun l => match G (l ++ dfl) with | some (.ok d) => some (.d (.ins c d)) | _ => none
def wMake (c : Nat) (dfl : List D) (G : PI') (ws : WAs) : WE := fun Γ S ex Q => ws Γ S ex fun as S1 => ∃ l o, dataOf as = some l ∧ G (l ++ dfl) = some o ∧ match o with | .ok d => Q (.d (.ins c d)) S1 | .error er => ex er S1
section
variable {K : PySem.W.Frag} {ci : Ci}
theorem make_of {F : Fr K ci} {T : List (A × V)} {Γ : Ga} {S : So} {σ : L2.St} {H : Hp} {c : Nat} {l dfl : List D} {vs : List V} {G : PI'} {o : Except Er (List D)} {Q : VK} {E : XK} {x dx : Addr} (r : Rel F T Γ S σ H) (hl : l.length = vs.length) (hT : ∀ q ∈ (l.map A.d).zip vs, q ∈ T) (hf : dfl.all D.flat = true) (e : G (l ++ dfl) = some o)
    (hx : H x = none) (hdx : H dx = none) (hne : dx ≠ x) (hlen : ∀ fs, o = .ok fs → fs.length = (ci c).2.length)
    (k1 : ∀ d, o = .ok d → ∀ H', Rel F ((.d (.ins c d), .ref x) :: T) Γ S σ H' → Q (.ref x) H') (k2 : ∀ er, o = .error er → ∀ cls dd H', (∃ ρ, RelR F ρ T Γ S σ H' ∧ ErrRep ci F ρ S er cls dd H') → E cls dd H') :
    spI K ci c G (.ref x :: (vs ++ dfl.map D.v)) (upd (upd H dx (.own x)) x (.ins (ci c).1 dx [])) (fun v H2 => v = .non ∧ Q (.ref x) H2) E := by
  obtain ⟨ρ, r⟩ := r
  have hx2 : (upd H dx (.own x)) x = none := by rw [upd_ne hne.symm]; exact hx
  have r1 : RelR F ρ T Γ S σ (upd H dx (.own x)) := r.alloc hdx
  have r2 : RelR F ρ T Γ S σ (upd (upd H dx (.own x)) x (.ins (ci c).1 dx [])) := r1.alloc hx2
  have hxm := r1.fresh hx2
  have em : ∀ (S0 : So) (mo : MO), mu (⟨upd (upd H dx (.own x)) x (.ins (ci c).1 dx []), [x], [x], mu F ρ S⟩ : Fr K ci) [x] [.ins c []] = x :: mu F ρ S := fun _ _ => rfl
  refine ⟨x, l ++ dfl, vs ++ dfl.map D.v, mu F ρ S, o, rfl, by simp [hl], ?_, e, ?_⟩
  · have rf := r2.flats hf
    have hh : ∀ a u, (upd (upd H dx (.own x)) x (.ins (ci c).1 dx [])) a = some u → a ∉ mu F ρ S → a ≠ x → (upd (upd H dx (.own x)) x (.ins (ci c).1 dx [])) a = some u ∧ a ∉ x :: mu F ρ S := fun a u e n ne => ⟨e, fun z => by
      rcases List.mem_cons.mp z with z | z
      · exact ne z
      · exact n z⟩
    refine ⟨List.prefix_refl _, rfl, by simp [mutA, MO.live], fun k p o' e1 e2 => ?_, rfl, fun i a e => by simp at e, fun q hq => ?_, fun a u e _ => e, fun p hp => .inl (by simpa [mutA, MO.live] using hp), fun p hp => ⟨fun z => ?_, fun z => ?_⟩⟩
    · cases k with
      | zero =>
        simp at e1 e2; subst e1 e2
        exact ⟨dx, [], by rw [upd_same]; simp, Nat.zero_le _, rfl⟩
      | succ k => simp at e1
    · -- the arguments do not lean on x: they were there before
      have rf1 := r1.flats hf
      have hq' : q ∈ (dfl.map A.d).zip (dfl.map D.v) ++ T := by
        rw [List.map_append, zip_app (by simp [hl])] at hq
        rcases List.mem_append.mp hq with hq | hq
        · exact List.mem_append_right _ (hT q hq)
        · exact List.mem_append_left _ hq
      have hd : ∃ d, q.1 = A.d d := by
        obtain ⟨d, _, h⟩ := List.mem_map.mp (List.of_mem_zip hq).1
        exact ⟨d, h.symm⟩
      obtain ⟨d, hd⟩ := hd
      have h0 := rf1.tl q hq'
      rw [hd] at h0 ⊢
      refine Rep.mono (fun a u e n => ?_) d q.2 h0
      have ne : a ≠ x := ne_of_none e hx2
      refine ⟨by rw [upd_ne ne]; exact e, fun z => ?_⟩
      rcases List.mem_cons.mp z with z | z
      · exact ne z
      · exact n z
    · simp at z; subst z; exact hxm hp
    · have z' : (upd (upd H dx (.own x)) x (.ins (ci c).1 dx [])) p = none := z
      exact r2.fresh z' hp
  · cases o with
    | ok fs =>
      rintro H' ⟨S', ⟨ρ', q⟩, e0⟩
      refine ⟨rfl, k1 fs rfl H' ?_⟩
      have h0 : ∀ a u, (upd (upd H dx (.own x)) x (.ins (ci c).1 dx [])) a = some u → a ≠ x → H' a = some u := fun a u e n => q.ext a u e (by simp [n])
      have h1 : ∀ a u, H a = some u → H' a = some u := fun a u e => by
        have n1 : a ≠ dx := ne_of_none e hdx
        have n2 : a ≠ x := ne_of_none e hx
        exact h0 a u (by rw [upd_ne n2, upd_ne n1]; exact e) n2
      have hh : ∀ a u, H a = some u → a ∉ mu F ρ S → H' a = some u ∧ a ∉ mu F ρ S := fun a u e n => ⟨h1 a u e, n⟩
      have g : RelR F ρ T Γ S σ H' := r.move (List.prefix_refl _) r.len r.nd hh (fun k p o e1 e2 => (r.st k p o e1 e2).mono hh (List.prefix_refl _) fun hl => by
        obtain ⟨u, hu, _⟩ := (r.st k p o e1 e2).there hl
        rw [h1 p u hu, hu]) (fun a o e n => h1 a o (r.ext a o e n)) r.fr
      refine ⟨ρ, g.push ?_⟩
      have hρ : ρ'[0]? = some x := by
        obtain ⟨t, ht⟩ := q.pre
        rw [← ht]; rfl
      obtain ⟨dx', vs', v1, v2, v3⟩ := q.st 0 x _ hρ e0
      rw [ARep, Rep]
      refine ⟨x, dx', vs', rfl, v1, r.fresh hx, ?_, v3.data.mono fun a u e n => ⟨e, fun z => n (List.mem_append_right _ z)⟩⟩
      rw [← v3.data.length, hlen fs rfl]
    | error er =>
      rintro cls dd H' ⟨S', ρ', q, h⟩
      refine k2 er rfl cls dd H' ⟨ρ, ?_, ?_⟩
      · have h0 : ∀ a u, (upd (upd H dx (.own x)) x (.ins (ci c).1 dx [])) a = some u → a ≠ x → H' a = some u := fun a u e n => q.ext a u e (by simp [n])
        have h1 : ∀ a u, H a = some u → H' a = some u := fun a u e => by
          have n1 : a ≠ dx := ne_of_none e hdx
          have n2 : a ≠ x := ne_of_none e hx
          exact h0 a u (by rw [upd_ne n2, upd_ne n1]; exact e) n2
        have hh : ∀ a u, H a = some u → a ∉ mu F ρ S → H' a = some u ∧ a ∉ mu F ρ S := fun a u e n => ⟨h1 a u e, n⟩
        exact r.move (List.prefix_refl _) r.len r.nd hh (fun k p o e1 e2 => (r.st k p o e1 e2).mono hh (List.prefix_refl _) fun hl => by
          obtain ⟨u, hu, _⟩ := (r.st k p o e1 e2).there hl
          rw [h1 p u hu, hu]) (fun a o e n => h1 a o (r.ext a o e n)) r.fr
      · obtain ⟨a1, d', vs', a2, a3, a4, a5, a6⟩ := h
        exact ⟨a1, d', vs', a2, a3, fun z => a4 (List.mem_append_right _ z), a5, a6.mono fun a u e n => ⟨e, fun z => n (List.mem_append_right _ z)⟩⟩
end
end LP
namespace LP
open PySem PySem.Spec PyProof.Rows L2
section
variable {ci : Ci} {X : Cx}
def fChain (g g' : So → A → A → Option D) (fa fb fc : QF) : QF := fun Γ S => (fa Γ S).bind fun x => (fb Γ S).bind fun y => (g S x y).bind fun d => match d with
  | .bl true => (fc Γ S).bind fun z => (g' S y z).map A.d
  | .bl false => some (.d (.bl false))
  | _ => none
theorem chain_some {g g' : So → A → A → Option D} {fa fb fc : QF} {Γ : Ga} {S : So} {r : A} (h : fChain g g' fa fb fc Γ S = some r) : ∃ x y b, fa Γ S = some x ∧ fb Γ S = some y ∧ g S x y = some (.bl b) ∧ ((b = false ∧ r = .d (.bl false)) ∨ (b = true ∧ ∃ z d, fc Γ S = some z ∧ g' S y z = some d ∧ r = .d d)) := by
  unfold fChain at h
  cases e1 : fa Γ S with
  | none => rw [e1] at h; cases h
  | some x =>
    cases e2 : fb Γ S with
    | none => rw [e1, e2] at h; cases h
    | some y =>
      rw [e1, e2, Option.bind_some, Option.bind_some] at h
      cases e3 : g S x y with
      | none => rw [e3] at h; cases h
      | some d =>
        rw [e3, Option.bind_some] at h
        split at h
        · cases e4 : fc Γ S with
          | none => rw [e4] at h; cases h
          | some z =>
            rw [e4, Option.bind_some] at h
            cases e5 : g' S y z with
            | none => rw [e5] at h; cases h
            | some d' => rw [e5] at h; cases h; exact ⟨x, y, true, rfl, rfl, e3, .inr ⟨rfl, z, d', rfl, e5, rfl⟩⟩
        · cases h; exact ⟨x, y, false, rfl, rfl, e3, .inl ⟨rfl, rfl⟩⟩
        · cases h
theorem rp_chain {op op' : CmpOp} {a b c : Expr} {pos : Pos} {g g' : So → A → A → Option D} {fa fb fc : QF} (ho : OpG ci X (compareOp op) g) (ho' : OpG ci X (compareOp op') g') (ha : RP ci X a fa) (hb : RP ci X b fb) (hc : RP ci X c fc)
    (hm : lastMarks [op, op'] [b, c] = false := by with_unfolding_all rfl) : RP ci X (.Compare a [op, op'] [b, c] pos) (fChain g g' fa fb fc) := fun F T Γ S σ H r hr q => by
  obtain ⟨x, y, bb, e1, e2, e3, e4⟩ := chain_some q
  obtain ⟨rr, hr1, hk⟩ := ho
  obtain ⟨rr', hr2, hk'⟩ := ho'
  refine wpX_of (pe_chain hr1 hr2 pe_wp pe_wp pe_wp hm) (wpX_mono (two ha hb hr e1 e2) fun v H1 h1 => wpX_mono h1 fun u H2 h2 => ?_)
  refine hk F _ Γ S σ H2 v u x y _ h2 (by simp) (by simp) e3 _ fun w H3 h3 => ?_
  refine ⟨bb, h3.asBl List.mem_cons_self, ?_⟩
  rcases e4 with ⟨rfl, rfl⟩ | ⟨rfl, z, d, e5, e6, rfl⟩
  · exact iteF ((h3.drop fun q hq => by simp [hq] : Rel F T Γ S σ H3).bl false)
  · refine iteT (wpX_mono (hc F _ Γ S σ H3 z h3 e5) fun t H4 h4 => ?_)
    exact hk' F _ Γ S σ H4 u t y z d h4 (by simp) (by simp) e6 _ fun w' H5 h5 => h5.drop fun q hq => by
      rcases List.mem_cons.mp hq with rfl | hq
      · exact List.mem_cons_self
      · simp [hq]
def strRep (s : Str) (n : Int) : Str := ⟨(List.replicate n.toNat s.cps).foldl (· ++ ·) #[]⟩
def gRepS (_ : So) : A → A → Option D
  | .d (.str s), .d (.int n) => if 0 ≤ n ∧ n ≤ 1000 ∧ s.length ≤ 10000 then some (.str (strRep s n)) else none
  | _, _ => none
theorem strRep_length (s : Str) (n : Int) : (strRep s n).length = n.toNat * s.length := by
  have : ∀ k : Nat, ((List.replicate k s.cps).foldl (· ++ ·) #[]).size = k * s.cps.size := by
    intro k
    induction k with
    | zero => simp
    | succ k ih => rw [List.replicate_succ', List.foldl_append, List.foldl_cons, List.foldl_nil, Array.size_append, ih, Nat.succ_mul]
  exact this _
theorem strRep_one (s : Str) : strRep s 1 = s := by
  unfold strRep
  simp
theorem strRep_empty {s : Str} {n : Int} (h : s.length = 0) : strRep s n = s := by
  unfold strRep
  have hs : s.cps = #[] := by
    apply Array.eq_empty_of_size_eq_zero
    exact h
  have : ∀ k : Nat, (List.replicate k s.cps).foldl (· ++ ·) #[] = (#[] : Array Nat) := by
    intro k
    induction k with
    | zero => rfl
    | succ k ih => rw [List.replicate_succ', List.foldl_append, ih, hs]; rfl
  rw [this]
  cases s; simp at hs; rw [hs]
theorem o_repS : OpG ci X (binaryOp .Mult) gRepS := ⟨fun x y H Q => ∃ s n, x = .str s ∧ y = .int n ∧ 0 ≤ n ∧ n ≤ 1000 ∧ s.length ≤ 10000 ∧ Q (.str (strRep s n)) H, by
  intro pins s σ H x y v u Q I rx ry h
  obtain ⟨z, n, rfl, rfl, h0, h1, h2, q⟩ := h
  obtain ⟨t, rfl⟩ := rx
  obtain ⟨t', rfl⟩ := ry
  have fin : ∀ (tk : Tok) (s' : Shared), Inv X pins σ H s' → EP X pins σ Q (.str (strRep z n) tk) s' := fun tk s' I' => ⟨.str (strRep z n), H, I', ⟨_, rfl⟩, q⟩
  refine P.mul_str (by rw [decide_eq_false (by omega), decide_eq_false (by omega)]; rfl) (fun hn _ => ?_) (fun hn _ => ?_) ?_
  · have h3 : (z.length : Int) ≤ (2 ^ 63 - 1) / n := by
      rw [Int.le_ediv_iff_mul_le (by omega)]
      have : (z.length : Int) * n ≤ 10000 * 1000 := Int.mul_le_mul (by omega) h1 (by omega) (by omega)
      omega
    omega
  · have : z.length * n.toNat ≤ 10000 * 1000 := Nat.mul_le_mul h2 (by omega)
    unfold Builtin.Str.tooLong
    exact decide_eq_false (by unfold sizeLine; omega)
  · split
    · have e0 : strRep z n = Str.empty := by
        have : n.toNat = 0 := by omega
        unfold strRep; rw [this]; rfl
      exact ⟨by decide, by rw [← e0]; exact fin _ _ (I.tok _)⟩
    · split
      · rename_i h3
        have e0 : strRep z n = z := by
          rw [Bool.or_eq_true] at h3
          rcases h3 with h3 | h3
          · have : n = 1 := by simpa using h3
            rw [this, strRep_one]
          · exact strRep_empty (by simpa using h3)
        have := fin t s I
        rw [e0] at this
        exact this
      · refine ⟨?_, fin _ _ (I.tok _)⟩
        show (strRep z n).length ≤ sizeLine
        rw [strRep_length]
        have : n.toNat * z.length ≤ 1000 * 10000 := Nat.mul_le_mul (by omega) h2
        unfold sizeLine; omega, fun F T Γ S σ H x y a b d r hx hy e Q k => by
  unfold gRepS at e
  split at e
  · split at e
    · rename_i hc
      cases e
      exact ⟨_, _, r.asStr hx, r.asInt hy, hc.1, hc.2.1, hc.2.2, k _ _ (r.str _)⟩
    · cases e
  · cases e⟩
/-- xs + ys, lists -/
def gCat (S : So) (a b : A) : Option D := (viewLs S a).bind fun l => (viewLs S b).bind fun m => if l.length + m.length ≤ sizeLine then some (.lst (l ++ m)) else none
where viewLs (S : So) : A → Option (List D)
  | .d (.lst l) => some l
  | .loc k => match S[k]? with
    | some (.lst as) => dataOf as
    | some (.frz (.lst l)) => some l
    | _ => none
  | _ => none
theorem viewLs_ok {K : PySem.W.Frag} {F : Fr K ci} {ρ : List Addr} {T : List (A × V)} {Γ : Ga} {S : So} {σ : L2.St} {H : Hp} {a : A} {v : V} {l : List D} (r : RelR F ρ T Γ S σ H) (h : ARep K ci ρ (mu F ρ S) H a v) (e : gCat.viewLs S a = some l) : ∃ p vs, v = .ref p ∧ H p = some (.lst vs) ∧ Reps K ci (mu F ρ S) H l vs := by
  unfold gCat.viewLs at e
  split at e
  · cases e
    rw [ARep, Rep] at h
    obtain ⟨p, vs, e1, q, rs⟩ := h
    exact ⟨p, vs, e1, q.1, rs⟩
  · rename_i k
    obtain ⟨p, hp, rfl⟩ := h
    split at e
    · rename_i as hs
      obtain ⟨vs, e1, q⟩ := r.st k p _ hp hs
      rw [dataOf_eq e] at q
      exact ⟨p, vs, rfl, e1, q.data⟩
    · rename_i l' hs
      cases e
      have := r.st k p _ hp hs
      rw [MRep, Rep] at this
      obtain ⟨p', vs, e1, q, rs⟩ := this
      cases e1
      exact ⟨p, vs, rfl, q.1, rs⟩
    · cases e
  · cases e
theorem o_cat : OpG ci X (binaryOp .Add) gCat := ⟨_, op_cat, fun F T Γ S σ H x y a b d r hx hy e Q k => by
  unfold gCat at e
  cases e1 : gCat.viewLs S a with
  | none => rw [e1] at e; cases e
  | some l =>
    rw [e1, Option.bind_some] at e
    cases e2 : gCat.viewLs S b with
    | none => rw [e2] at e; cases e
    | some m =>
      rw [e2, Option.bind_some] at e
      split at e
      · rename_i hl
        cases e
        obtain ⟨ρ, r⟩ := r
        obtain ⟨p, vs, rfl, h1, R1⟩ := viewLs_ok r (r.top hx) e1
        obtain ⟨q, ws, rfl, h2, R2⟩ := viewLs_ok r (r.top hy) e2
        exact ⟨p, q, vs, ws, rfl, rfl, h1, h2, by rw [← R1.length, ← R2.length]; exact hl, fun z hz => k _ _ ⟨ρ, r.newL hz (R1.append R2)⟩⟩
      · cases e⟩
/-- xs * n, a list -/
def gRepL (S : So) (a b : A) : Option D := (gCat.viewLs S a).bind fun l => match b with
  | .d (.int n) => if 0 ≤ n ∧ n ≤ 1000 ∧ l.length ≤ 1000 then some (.lst (List.replicate n.toNat l).flatten) else none
  | _ => none
theorem reps_rep {K : PySem.W.Frag} {M : List Addr} {H : Hp} {l : List D} {vs : List V} (R : Reps K ci M H l vs) : ∀ n : Nat, Reps K ci M H (List.replicate n l).flatten (List.replicate n vs).flatten
  | 0 => .nil
  | n + 1 => by rw [List.replicate_succ, List.replicate_succ, List.flatten_cons, List.flatten_cons]; exact R.append (reps_rep R n)
theorem o_repL : OpG ci X (binaryOp .Mult) gRepL := ⟨_, op_rep, fun F T Γ S σ H x y a b d r hx hy e Q k => by
  unfold gRepL at e
  cases e1 : gCat.viewLs S a with
  | none => rw [e1] at e; cases e
  | some l =>
    rw [e1, Option.bind_some] at e
    split at e
    · rename_i n
      split at e
      · rename_i hc
        cases e
        have hy' := r.asInt hy
        obtain ⟨ρ, r⟩ := r
        obtain ⟨p, vs, rfl, h1, R1⟩ := viewLs_ok r (r.top hx) e1
        refine ⟨p, n, vs, rfl, hy', h1, by omega, by omega, ?_, fun z hz => k _ _ ⟨ρ, r.newL hz (reps_rep R1 _)⟩⟩
        have := R1.length
        have h3 : vs.length * n.toNat ≤ 1000 * 1000 := Nat.mul_le_mul (by omega) (by omega)
        exact Nat.le_trans h3 (by decide)
      · cases e
    · cases e⟩
def gM1 (ci : Ci) (X : Cx) (id : String) (g : So → Str → A → Option D) : Prop := ∃ r, MtR X id r ∧ ∀ (F : Fr X.K ci) T Γ S σ H s b y d, Rel F T Γ S σ H → (b, y) ∈ T → g S s b = some d → ∀ Q : VK, (∀ v H', Rel F ((.d d, v) :: T) Γ S σ H' → Q v H') → r (.str s) [y] H Q
def fM1 (g : So → Str → A → Option D) (fo fe : QF) : QF := fun Γ S => (fo Γ S).bind fun a => (fe Γ S).bind fun b => match a with
  | .d (.str s) => (g S s b).map A.d
  | _ => none
theorem rp_m1 {id : String} {name : Str} {apos pos : Pos} {o e : Expr} {g : So → Str → A → Option D} {fo fe : QF} (slot : Slot "str" name id) (ty : typeOf (.builtin id) = pure (.type "method_descriptor")) (hg : gM1 ci X id g) (ho : RP ci X o fo) (he : RP ci X e fe)
    (hs : starEach [e] X.env = [(false, eval e X.env)] := by kernel_rfl) (hbase : attributeBase o name X.env (eval o X.env) = eval o X.env := by kernel_rfl) (hline : (apos.endLine == pos.line) = true := by kernel_rfl) : RP ci X (.Call (.Attribute o name apos) [e] [] pos) (fM1 g fo fe) := fun F T Γ S σ H z r q => by
  obtain ⟨rr, hr, hk⟩ := hg
  unfold fM1 at q
  cases e1 : fo Γ S with
  | none => rw [e1] at q; cases q
  | some a =>
    cases e2 : fe Γ S with
    | none => rw [e1, e2] at q; cases q
    | some b =>
      rw [e1, e2, Option.bind_some, Option.bind_some] at q
      split at q
      · rename_i s
        cases e3 : g S s b with
        | none => rw [e3] at q; cases q
        | some d =>
          rw [e3] at q; cases q
          refine wpX_of (pe_m1 slot ty hr pe_wp pe_wp hs hbase hline) (wpX_mono (ho F T Γ S σ H _ r e1) fun v H1 h1 => ?_)
          have hv := h1.asStr List.mem_cons_self
          subst hv
          refine ⟨⟨s, rfl⟩, wpX_mono (he F _ Γ S σ H1 _ h1 e2) fun u H2 h2 => ?_⟩
          exact hk F _ Γ S σ H2 s b u d h2 List.mem_cons_self e3 _ fun w H3 h3 => h3.drop drop3
      · cases q
def wM1 (g : So → Str → A → Option D) (fo : QF) (we : WE) : WE := fun Γ S ex Q => ∃ s, fo Γ S = some (.d (.str s)) ∧ we Γ S ex fun b S2 => ∃ d, g S2 s b = some d ∧ Q (.d d) S2
def gJoin (S : So) (s : Str) (a : A) : Option D := (viewQ S a).bind fun l => (dStrs l).bind fun ys => if (ys.map (·.length)).sum + ys.length * s.length ≤ 16777216 then some (.str (Str.join s ys)) else none
theorem m_join : gM1 ci X "str.join" gJoin := ⟨_, mt_join, fun F T Γ S σ H s b y d r hb e Q k => by
  unfold gJoin at e
  cases e1 : viewQ S b with
  | none => rw [e1] at e; cases e
  | some l =>
    rw [e1, Option.bind_some] at e
    cases e2 : dStrs l with
    | none => rw [e2] at e; cases e
    | some ys =>
      rw [e2, Option.bind_some] at e
      split at e
      · rename_i hz
        cases e
        obtain ⟨ρ, r'⟩ := id r
        obtain ⟨p, vs, rfl, hq, R⟩ := r'.viewQ (r'.top hb) e1
        have := strs_reps' e2 R
        subst this
        exact ⟨s, p, ys, rfl, rfl, hq, hz, by rw [show Txt.join s ys = Str.join s ys from TL.join_eq s ys]; exact k _ _ (r.str _)⟩
      · cases e⟩
where strs_reps' {K : PySem.W.Frag} {M : List Addr} {H : Hp} {l : List D} {vs : List V} {bs : List Str} (h : dStrs l = some bs) (r : Reps K ci M H l vs) : vs = bs.map V.str := strs_reps h r
def fFmt (f : QF) : QF := fun Γ S => (f Γ S).bind fun a => match a with
  | .d (.str s) => if s.length ≤ sizeLine then some (.d (.str s)) else none
  | .d (.int i) => if i.natAbs.log2 < 1920 then some (.d (.str (toString i))) else none
  | _ => none
theorem rp_fmt {e : Expr} {f : QF} {pos : Pos} (h : RP ci X e f) : RP ci X (.FormattedValue e (-1) none pos) (fFmt f) := fun F T Γ S σ H z r q => by
  unfold fFmt at q
  cases e1 : f Γ S with
  | none => rw [e1] at q; cases q
  | some a =>
    rw [e1, Option.bind_some] at q
    refine wpX_of (pe_fmt pe_wp) (wpX_mono (h F T Γ S σ H _ r e1) fun v H1 h1 => ?_)
    split at q
    · split at q
      · rename_i hs
        cases q
        exact .inl ⟨_, h1.asStr List.mem_cons_self, hs, h1.tail.str _⟩
      · cases q
    · split at q
      · rename_i hs
        cases q
        exact .inr ⟨_, h1.asInt List.mem_cons_self, hs, h1.tail.str _⟩
      · cases q
    · cases q
/-- the parts, glued from the left -/
def RJ (ci : Ci) (X : Cx) (es : List Expr) (fs : List QF) : Prop := Paired (fun e f => RP ci X e f) es fs
def glue (Γ : Ga) (S : So) : Str → List QF → Option Str
  | acc, [] => some acc
  | acc, f :: fs => (f Γ S).bind fun a => match a with
    | .d (.str s) => if (acc ++ s).length ≤ sizeLine then glue Γ S (acc ++ s) fs else none
    | _ => none
def fJoin (fs : List QF) : QF := fun Γ S => (glue Γ S Str.empty fs).map fun s => .d (.str s)
theorem rj_nil : RJ ci X [] [] := .nil
theorem rj_cons {e : Expr} {f : QF} {es : List Expr} {fs : List QF} (h : RP ci X e f) (r : RJ ci X es fs) : RJ ci X (e :: es) (f :: fs) := .cons h r
theorem pj_wp : ∀ es : List Expr, PJ X es (es.map (wpX X))
  | [] => .nil
  | e :: es => .cons pe_wp (pj_wp es)
theorem glue_run {F : Fr X.K ci} {T : List (A × V)} {Γ : Ga} {S : So} {σ : L2.St} {out : Str} : ∀ {es : List Expr} {fs : List QF} {acc : Str} {H : Hp}, RJ ci X es fs → Rel F T Γ S σ H → glue Γ S acc fs = some out → tJs (es.map (wpX X)) acc σ H (fun o H' => o = out ∧ Rel F T Γ S σ H')
  | _, _, acc, H, .nil, r, q => by cases q; exact ⟨rfl, r⟩
  | _, _, acc, H, .cons (l₁ := es) (l₂ := fs) h hs, r, q => by
    rename_i e f
    unfold glue at q
    cases e1 : f Γ S with
    | none => rw [e1] at q; cases q
    | some a =>
      rw [e1, Option.bind_some] at q
      split at q
      · rename_i s
        split at q
        · rename_i hl
          refine wpX_mono (h F T Γ S σ H _ r e1) fun v H1 h1 => ⟨s, h1.asStr List.mem_cons_self, hl, glue_run hs h1.tail q⟩
        · cases q
      · cases q
theorem rp_joined {v1 v2 : Expr} {rest : List Expr} {fs : List QF} {pos : Pos} (h : RJ ci X (v1 :: v2 :: rest) fs) : RP ci X (.JoinedStr (v1 :: v2 :: rest) pos) (fJoin fs) := fun F T Γ S σ H z r q => by
  unfold fJoin at q
  cases e1 : glue Γ S Str.empty fs with
  | none => rw [e1] at q; cases q
  | some out =>
    rw [e1] at q; cases q
    refine wpX_of (pe_joined (pj_wp _)) ?_
    have := glue_run h r e1
    exact tJs_mono this fun o H' ⟨h1, h2⟩ => by subst h1; exact h2.str _
where tJs_mono : ∀ {es : List Expr} {acc : Str} {σ : L2.St} {H : Hp} {Q Q' : Str → Hp → Prop}, tJs (es.map (wpX X)) acc σ H Q → (∀ o H', Q o H' → Q' o H') → tJs (es.map (wpX X)) acc σ H Q'
  | [], _, _, _, _, _, h, k => k _ _ h
  | _ :: _, _, _, _, _, _, h, k => wpX_mono h fun v H1 ⟨y, a, b, c⟩ => ⟨y, a, b, tJs_mono c k⟩
def pairD (a b : D) : D := .tup [a, b]
theorem newPair {K : PySem.W.Frag} {F : Fr K ci} {ρ : List Addr} {T : List (A × V)} {Γ : Ga} {S : So} {σ : L2.St} {H : Hp} {p : Addr} {x y : V} {a b : D} (r : RelR F ρ T Γ S σ H) (hp : H p = none) (h1 : Rep K ci (mu F ρ S) H a x) (h2 : Rep K ci (mu F ρ S) H b y) : Rel F ((.d (pairD a b), .ref p) :: T) Γ S σ (upd H p (.tup [x, y])) := ⟨ρ, r.newT hp (.cons h1 (.cons h2 .nil))⟩
end
end LP
namespace LP
open PySem PySem.Spec PyProof.Rows L2
section
variable {ci : Ci} {X : Cx}
def MutL (ci : Ci) (X : Cx) (id : String) (g : So → List A → List A → Option (List A × A)) : Prop := ∃ r, MtR X id r ∧ ∀ (F : Fr X.K ci) ρ T Γ S σ H k l as vs l' res p, RelR F ρ T Γ S σ H → ρ[k]? = some p → S[k]? = some (.lst l) → as.length = vs.length → (∀ q ∈ as.zip vs, q ∈ T) → g S l as = some (l', res) →
  ∀ Q : VK, (∀ v H', Rel F ((res, v) :: T) Γ (S.set k (.lst l')) σ H' → Q v H') → r (.ref p) vs H Q
theorem RelR.lstW {K : PySem.W.Frag} {F : Fr K ci} {ρ : List Addr} {T : List (A × V)} {Γ : Ga} {S : So} {σ : L2.St} {H : Hp} {k : Nat} {p : Addr} {l l' : List A} {vs' : List V} (r : RelR F ρ T Γ S σ H) (hp : ρ[k]? = some p) (hs : S[k]? = some (.lst l)) (R : AReps K ci ρ (mu F ρ S) H l' vs') : RelR F ρ T Γ (S.set k (.lst l')) σ (upd H p (.lst vs')) := by
  have hpm : p ∈ mu F ρ S := List.mem_append_left _ (mutA_mem hp hs rfl)
  have hh : ∀ a o, H a = some o → a ∉ mu F ρ S → (upd H p (.lst vs')) a = some o ∧ a ∉ mu F ρ S := fun a o e n => ⟨by rw [upd_ne (fun w => n (by rw [w]; exact hpm))]; exact e, n⟩
  exact r.write hp hs rfl rfl ⟨vs', upd_same, R.mono hh (List.prefix_refl _)⟩
theorem RelR.lstAt {K : PySem.W.Frag} {F : Fr K ci} {ρ : List Addr} {T : List (A × V)} {Γ : Ga} {S : So} {σ : L2.St} {H : Hp} {k : Nat} {p : Addr} {l : List A} (r : RelR F ρ T Γ S σ H) (hp : ρ[k]? = some p) (hs : S[k]? = some (.lst l)) : ∃ vs, H p = some (.lst vs) ∧ AReps K ci ρ (mu F ρ S) H l vs := r.st k p _ hp hs
/-- a temporary is put on a changed store -/
theorem RelR.pushN {K : PySem.W.Frag} {F : Fr K ci} {ρ : List Addr} {T : List (A × V)} {Γ : Ga} {S : So} {σ : L2.St} {H : Hp} (r : RelR F ρ T Γ S σ H) : RelR F ρ ((.d .non, .non) :: T) Γ S σ H := r.push (by rw [ARep, Rep])
def gApp (_ : So) (l as : List A) : Option (List A × A) := match as with
  | [a] => if l.length < sizeLine then some (l ++ [a], .d .non) else none
  | _ => none
theorem l_append : MutL ci X "list.append" gApp := ⟨_, (mt_append : MtM X "list.append" rAppend), fun F ρ T Γ S σ H k l as vs l' res p r hp hs hl hT e Q kk => by
  unfold gApp at e
  split at e
  · rename_i a
    split at e
    · rename_i hz
      cases e
      obtain ⟨v, rfl, hv⟩ := as1 (F := F) hl hT
      obtain ⟨ws, e1, R⟩ := r.lstAt hp hs
      refine ⟨p, ws, v, rfl, rfl, e1, by rw [← R.length]; exact hz, kk _ _ ⟨ρ, ((r.lstW hp hs (R.append (es := [a]) (ws := [v]) ⟨v, [], rfl, r.tl _ hv, rfl⟩))).pushN⟩⟩
    · cases e
  · cases e⟩
def gPop (_ : So) (l as : List A) : Option (List A × A) := match as with
  | [] => (l[l.length - 1]?).map fun a => (l.dropLast, a)
  | _ => none
theorem AReps.takeN {K : PySem.W.Frag} {ρ M : List Addr} {H : Hp} : ∀ (n : Nat) {ds : List A} {vs : List V}, AReps K ci ρ M H ds vs → AReps K ci ρ M H (ds.take n) (vs.take n)
  | 0, ds, vs, r => rfl
  | n + 1, [], vs, r => by rw [AReps] at r; subst r; rfl
  | n + 1, d :: ds, vs, ⟨v, rr, e, r1, r2⟩ => by subst e; exact ⟨v, _, rfl, r1, AReps.takeN n r2⟩
theorem l_pop : MutL ci X "list.pop" gPop := ⟨_, (mt_pop : MtM X "list.pop" rPop), fun F ρ T Γ S σ H k l as vs l' res p r hp hs hl hT e Q kk => by
  unfold gPop at e
  split at e
  · cases e1 : l[l.length - 1]? with
    | none => rw [e1] at e; cases e
    | some a =>
      rw [e1] at e; cases e
      cases vs with
      | cons _ _ => cases hl
      | nil =>
        obtain ⟨ws, e2, R⟩ := r.lstAt hp hs
        obtain ⟨y, hy, hr⟩ := R.getA e1
        rw [R.length] at hy
        refine ⟨p, ws, y, rfl, rfl, e2, hy, kk _ _ ⟨ρ, ?_⟩⟩
        have := ((r.push hr).lstW hp hs (l' := l.dropLast) (vs' := ws.dropLast) (by rw [List.dropLast_eq_take, List.dropLast_eq_take, R.length]; exact R.takeN _))
        exact this
  · cases e⟩
def wLM (g : So → List A → List A → Option (List A × A)) (wo : WE) (ws : WAs) : WE := fun Γ S ex Q => wo Γ S ex fun a S1 => ∃ k l0, a = .loc k ∧ S1[k]? = some (.lst l0) ∧ ws Γ S1 ex fun as S2 => ∃ l l' res, S2[k]? = some (.lst l) ∧ g S2 l as = some (l', res) ∧ Q res (S2.set k (.lst l'))
theorem re_lm {id : String} {name : Str} {o e : Expr} {es : List Expr} {apos cpos : Pos} {g : So → List A → List A → Option (List A × A)} {wo : WE} {ws : WAs} (slot : Slot "list" name id) (hty : typeOf (.builtin id) = pure (.type "method_descriptor")) (hg : MutL ci X id g) (ho : RE ci X o wo) (ha : RA ci X (e :: es) ws)
    (hbase : attributeBase o name X.env (eval o X.env) = eval o X.env := by kernel_rfl)
    (hfew : ((backTo cpos (starEach (e :: es) X.env)).all (fun x => !x.1) && (backToKw cpos (keywordEach [] X.env)).all (fun x => x.1.isSome)
      && decide ((e :: es).length + ([] : List Keyword).length + (if ([] : List Keyword).isEmpty then 0 else 1) < 30)) = true := by rfl)
    (hline : (apos.endLine == cpos.line) = true := by kernel_rfl) (hs : starEach (e :: es) X.env = (false, eval e X.env) :: starEach es X.env := by kernel_rfl) (hplain : (backTo cpos (starEach es X.env)).any (·.1) = false := by kernel_rfl) :
    RE ci X (.Call (.Attribute o name apos) (e :: es) [] cpos) (wLM g wo ws) := fun F ex xo T Γ S σ H Q r q => by
  obtain ⟨rr, hr, hk⟩ := hg
  refine wpX_of (pe_bm PySem.F.plainAttrs_list slot hty hr pe_wp pa_wp hbase hfew hline hs hplain) (wpX_mono (ho F ex xo T Γ S σ H _ r q) fun v H1 ⟨a, S1, r1, k, l0, e1, e2, q1⟩ => ?_)
  subst e1
  have r1' := r1
  obtain ⟨ρ1, s1⟩ := r1'
  obtain ⟨p, hp, rfl⟩ := s1.top (a := .loc k) (v := v) List.mem_cons_self
  obtain ⟨vs0, h0, _⟩ := s1.lstAt hp e2
  refine ⟨.inl ⟨rfl, vs0, SqL.of h0⟩, wpA_mono (ha F ex xo _ Γ S1 σ H1 _ r1 q1) fun us H2 ⟨as, S2, hz, _, r2, l, l', res, e3, e4, q2⟩ => ?_⟩
  have r2' := r2
  obtain ⟨ρ2, s2⟩ := r2'
  obtain ⟨p2, hp2, e5⟩ := s2.top (a := .loc k) (v := .ref p) (by simp)
  cases e5
  exact hk F ρ2 _ Γ S2 σ H2 k l as us l' res p s2 hp2 e3 hz (fun q hq => List.mem_append_left _ hq) e4 _ fun w H3 h3 => ⟨res, _, h3.drop fun x hx => by
    rcases List.mem_cons.mp hx with rfl | hx
    · exact List.mem_cons_self
    · simp [hx], q2⟩
theorem re_lm0 {id : String} {name : Str} {o : Expr} {apos cpos : Pos} {g : So → List A → List A → Option (List A × A)} {wo : WE} (slot : Slot "list" name id) (hty : typeOf (.builtin id) = pure (.type "method_descriptor")) (hg : MutL ci X id g) (ho : RE ci X o wo)
    (hbase : attributeBase o name X.env (eval o X.env) = eval o X.env := by kernel_rfl) (hline : (apos.endLine == cpos.line) = true := by kernel_rfl) :
    RE ci X (.Call (.Attribute o name apos) [] [] cpos) (wLM g wo wNil) := fun F ex xo T Γ S σ H Q r q => by
  obtain ⟨rr, hr, hk⟩ := hg
  refine wpX_of (pe_bm0 PySem.F.plainAttrs_list slot hty hr pe_wp hbase hline) (wpX_mono (ho F ex xo T Γ S σ H _ r q) fun v H1 ⟨a, S1, r1, k, l0, e1, e2, l, l', res, e3, e4, q2⟩ => ?_)
  subst e1
  have r1' := r1
  obtain ⟨ρ1, s1⟩ := r1'
  obtain ⟨p, hp, rfl⟩ := s1.top (a := .loc k) (v := v) List.mem_cons_self
  obtain ⟨vs0, h0, _⟩ := s1.lstAt hp e2
  exact ⟨.inl ⟨rfl, vs0, SqL.of h0⟩, hk F ρ1 _ Γ S1 σ H1 k l [] [] l' res p s1 hp e3 rfl (fun q hq => by cases hq) e4 _ fun w H3 h3 => ⟨res, _, h3.drop drop2, q2⟩⟩
/-- xs[i] = e -/
def wSetIx (wo wi we : WE) : WS := fun Γ S D => we Γ S D.ex fun b S1 => wo Γ S1 D.ex fun a S2 => wi Γ S2 D.ex fun j S3 => ∃ k l n m, a = .loc k ∧ j = .d (.int n) ∧ S3[k]? = some (.lst l) ∧ ixN l.length n = some m ∧ D.nx Γ (S3.set k (.lst (l.set m b)))
theorem rs_setIx {o i e : Expr} {wo wi we : WE} {pos pos' : Pos} (ho : RE ci X o wo) (hi : RE ci X i wi) (he : RE ci X e we) (hs : swapsWithSole [.Subscript o i pos'] e pos.line X.env = pure false := by kernel_rfl) (hw : swappedStores [.Subscript o i pos'] e X.env = pure none := by kernel_rfl)
    (h1 : (assignEach [.Subscript o i pos'] X.env).map (·.2) = [assign (.Subscript o i pos') X.env] := by kernel_rfl)
    (ha : ∀ v, assign (.Subscript o i pos') X.env v = (do
      let ov ← holding [v] (eval o X.env)
      let iv ← holding [v, ov] (eval i X.env)
      standAt pos'
      holding [v, ov, iv] (setItem ov iv v)
      release [v, ov, iv] []) := by intro _; rfl) : RS ci X (.Assign [.Subscript o i pos'] e pos) (wSetIx wo wi we) := fun F D xo T Γ S σ H r q =>
  wpS_of (ps_asg pe_wp (pg_sub pe_wp pe_wp set_list ha) hs hw h1) (wpX_mono (he F D.ex xo T Γ S σ H _ r q) fun y H1 ⟨b, S1, r1, q1⟩ => wpX_mono (ho F D.ex xo _ Γ S1 σ H1 _ r1 q1) fun x H2 ⟨a, S2, r2, q2⟩ => wpX_mono (hi F D.ex xo _ Γ S2 σ H2 _ r2 q2) fun z H3 ⟨j, S3, r3, k, l, n, m, e1, e2, e3, e4, q3⟩ => by
    subst e1 e2
    have hz := r3.asInt (v := z) List.mem_cons_self
    obtain ⟨ρ, r3⟩ := r3
    obtain ⟨p, hp, rfl⟩ := r3.top (a := .loc k) (v := x) (by simp)
    obtain ⟨ws, h5, R⟩ := r3.lstAt hp e3
    have hb := r3.tl (b, y) (by simp)
    refine ⟨p, ws, n, m, rfl, hz, h5, by rw [← R.length]; exact e4, Γ, _, ⟨ρ, ?_⟩, q3⟩
    exact (r3.lstW hp e3 (R.set hb m)).drop fun q hq => by simp [hq])
inductive TN where
  | int | bool | str | list | tuple | none | dict
  deriving DecidableEq
def TN.nm : TN → String
  | .int => "int" | .bool => "bool" | .str => "str" | .list => "list" | .tuple => "tuple" | .none => "NoneType" | .dict => "dict"
def TN.sub : TN → TN → Bool
  | .bool, .int => true
  | a, b => decide (a = b)
theorem tn_kit (a b : TN) (h : b ≠ .none) : kitB a.nm b.nm = some (a.sub b) := by
  cases a <;> cases b <;> first | (exact absurd rfl h) | decide +kernel
def tyA (S : So) : A → Option TN
  | .d .non => some .none | .d (.bl _) => some .bool | .d (.int _) => some .int | .d (.str _) => some .str
  | .d (.tup _) => some .tuple | .d (.lst _) => some .list | .d (.dic _ _) => some .dict
  | .loc k => match S[k]? with
    | some (.lst _) => some .list
    | some (.dK _ _) => some .dict
    | some (.frz (.lst _)) => some .list
    | _ => none
  | _ => none
theorem rd_ty {K : PySem.W.Frag} {H : Hp} {p : Addr} {vs : List V} {M : List Addr} (h : (Rd H p (.tup vs) ∧ p ∉ M) ∨ Tw K p vs) : TyX K H (.ref p) (.type "tuple") := by
  rcases h with ⟨h | ⟨o, h⟩, _⟩ | ⟨o, its, n, h1, h2, _⟩
  · exact .base (.tup h)
  · exact .fTuple h
  · exact .kTuple h1 h2
theorem tyA_ok {K : PySem.W.Frag} {F : Fr K ci} {ρ : List Addr} {T : List (A × V)} {Γ : Ga} {S : So} {σ : L2.St} {H : Hp} {a : A} {v : V} {t : TN} (r : RelR F ρ T Γ S σ H) (h : ARep K ci ρ (mu F ρ S) H a v) (e : tyA S a = some t) : TyX K H v (.type t.nm) := by
  unfold tyA at e
  split at e
  · cases e; rw [ARep, Rep] at h; subst h; exact .base .non
  · cases e; rw [ARep, Rep] at h; subst h; exact .base (.bl _)
  · cases e; rw [ARep, Rep] at h; subst h; exact .base (.int _)
  · cases e; rw [ARep, Rep] at h; subst h; exact .base (.str _)
  · cases e; rw [ARep, Rep] at h; obtain ⟨p, vs, rfl, q, _⟩ := h; exact rd_ty q
  · cases e; rw [ARep, Rep] at h; obtain ⟨p, vs, rfl, q, _⟩ := h; exact .base (.lst q.1)
  · cases e; rw [ARep, Rep] at h; obtain ⟨p, vs, rfl, q, _⟩ := h
    rcases q with q | ⟨o, q⟩
    · exact .base (.dK q)
    · exact .fDict q
  · rename_i k
    obtain ⟨p, hp, rfl⟩ := h
    split at e
    · rename_i hs; cases e; obtain ⟨vs, q, _⟩ := r.st k p _ hp hs; exact .base (.lst q)
    · rename_i hs; cases e; obtain ⟨vs, q, _⟩ := r.st k p _ hp hs; exact .base (.dK q)
    · rename_i hs; cases e
      have := r.st k p _ hp hs
      rw [MRep, Rep] at this
      obtain ⟨p', vs, e1, q, _⟩ := this
      cases e1
      exact .base (.lst q.1)
    · cases e
  · cases e
def fIsi (ts : List TN) (f : QF) : QF := fun Γ S => (f Γ S).bind fun a => (tyA S a).map fun t => .d (.bl (ts.any t.sub))
/-- isinstance(x, int) -/
theorem rp_isi (t : TN) {n : Str} {e : Expr} {f : QF} {p p2 pos : Pos} (hg : Gl X "isinstance") (hm : X.mg "isinstance" = none) (hg2 : Gl X n) (hm2 : X.mg n = none) (hv2 : bootBuiltins n = some (.type t.nm)) (he : RP ci X e f) (ht : t ≠ .none := by decide) (hn2 : n ≠ "__name__" := by decide) (hdb2 : (n == ("__debug__" : Str)) = false := by decide +kernel)
    (hs : starEach [e, .Name n p2] X.env = (false, eval e X.env) :: starEach [.Name n p2] X.env := by kernel_rfl) : RP ci X (.Call (.Name "isinstance" p) [e, .Name n p2] [] pos) (fIsi [t] f) := fun F T Γ S σ H z r q => by
  unfold fIsi at q
  cases e1 : f Γ S with
  | none => rw [e1] at q; cases q
  | some a =>
    rw [e1, Option.bind_some] at q
    cases e2 : tyA S a with
    | none => rw [e2] at q; cases q
    | some u =>
      rw [e2] at q; cases q
      refine wpX_of (pe_callB call_isi hg hm (by decide +kernel) (pa_cons pe_wp (pa_cons (pe_bltn (v := .ty t.nm) hg2 hm2 hv2 rfl hn2 hdb2) pa_nil) hs) (by decide) (by decide) hs) (wpX_mono (he F T Γ S σ H _ r e1) fun v H1 r1 => ?_)
      obtain ⟨ρ, q1⟩ := id r1
      exact ⟨v, _, _, _, _, rfl, .ty _, tyA_ok q1 (q1.top (a := a) List.mem_cons_self) e2, kit_ty (tn_kit u t ht), by simpa using r1.tail.bl _⟩
/-- isinstance(x, (list, tuple)) -/
theorem rp_isi2 (t t' : TN) {n n' : Str} {e : Expr} {f : QF} {p p2 p3 p4 pos : Pos} {kt : Nat} (hg : Gl X "isinstance") (hm : X.mg "isinstance" = none) (hg2 : Gl X n) (hm2 : X.mg n = none) (hv2 : bootBuiltins n = some (.type t.nm)) (hg3 : Gl X n') (hm3 : X.mg n' = none) (hv3 : bootBuiltins n' = some (.type t'.nm)) (he : RP ci X e f) (ht : t ≠ .none := by decide) (hn2 : n ≠ "__name__" := by decide) (hdb2 : (n == ("__debug__" : Str)) = false := by decide +kernel)
    (ht' : t' ≠ .none := by decide) (hn3 : n' ≠ "__name__" := by decide) (hdb3 : (n' == ("__debug__" : Str)) = false := by decide +kernel)
    (hs : starEach [e, .Tuple [.Name n p2, .Name n' p3] kt p4] X.env = (false, eval e X.env) :: starEach [.Tuple [.Name n p2, .Name n' p3] kt p4] X.env := by kernel_rfl) : RP ci X (.Call (.Name "isinstance" p) [e, .Tuple [.Name n p2, .Name n' p3] kt p4] [] pos) (fIsi [t, t'] f) := fun F T Γ S σ H z r q => by
  unfold fIsi at q
  cases e1 : f Γ S with
  | none => rw [e1] at q; cases q
  | some a =>
    rw [e1, Option.bind_some] at q
    cases e2 : tyA S a with
    | none => rw [e2] at q; cases q
    | some u =>
      rw [e2] at q; cases q
      refine wpX_of (pe_callB call_isiT hg hm (by decide +kernel) (pa_cons pe_wp (pa_cons (pe_tup (pa_cons (pe_bltn (v := .ty t.nm) hg2 hm2 hv2 rfl hn2 hdb2) (pa_cons (pe_bltn (v := .ty t'.nm) hg3 hm3 hv3 rfl hn3 hdb3) pa_nil))) pa_nil) hs) (by decide) (by decide) hs) (wpX_mono (he F T Γ S σ H _ r e1) fun v H1 r1 => ⟨by show 2 ≤ sizeLine; decide, fun tp htp => ?_⟩)
      obtain ⟨ρ, q1⟩ := id (r1.alloc (o := .tup [.ty t.nm, .ty t'.nm]) htp)
      refine ⟨v, tp, _, _, _, _, rfl, upd_same, .cons (.ty _) (.cons (.ty _) .nil), tyA_ok q1 (q1.top (a := a) List.mem_cons_self) e2, kitAny_cons (kit_ty (tn_kit u t ht)) (fun hf => kitAny_cons (kit_ty (tn_kit u t' ht')) (fun hf2 => ?_) (fun hb => ?_)) (fun hb => ?_), (r1.alloc htp).tail.bl _⟩
      · show some false = _; simp [hf, hf2]
      · simp [hb]
      · simp [hb]
/-- int(text) -/
def gIntS (_ : So) : List A → Option D
  | [.d (.str s)] => if s.length ≤ 640 then (PySem.intText? s).map .int else none
  | _ => none
theorem c_intS : CallG ci X (.type "int") gIntS := ⟨_, call_int_str, fun F T Γ S σ H as vs d r hl hT e Q k => by
  unfold gIntS at e
  split at e
  · rename_i s
    split at e
    · rename_i h
      obtain ⟨v, rfl, hv⟩ := as1 (F := F) hl hT
      cases e1 : PySem.intText? s with
      | none => rw [e1] at e; cases e
      | some n =>
        rw [e1] at e; cases e
        exact ⟨s, n, by rw [r.asStr hv], e1, h, k _ _ (r.int _)⟩
    · cases e
  · cases e⟩
end
end LP
namespace LP
open PySem PySem.Spec PyProof.Rows L2
section
variable {ci : Ci} {X : Cx}
def noEx : EK := fun _ _ => False
theorem xok_no {Y : Cx} {F : Fr Y.K ci} : Xok Y F noEx := fun u s' ⟨a, B, sI, pins, σ, H, cls, d, e, I, nb, up, sky, na, os, ag, er, S, ρ, _, _, z⟩ => z.elim
def RCE (ci : Ci) (X : Cx) (ifs : List Expr) (b : WT) : Prop := (ifs = [] ∧ b = fun _ S _ Q => Q true S) ∨ ∃ e, ifs = [e] ∧ RT ci X e b
theorem rce_nil : RCE ci X [] (fun _ S _ Q => Q true S) := .inl ⟨rfl, rfl⟩
def wLcL (it : So → Option (List D)) (ds : List D) (t : TgF) (vs : List Nat) (b : WT) (w : WE) (Γ : Ga) (Q : AK) : List D → List D → So → Prop
  | acc, [], S => Q (.d (.lst acc)) S
  | acc, d :: r, S => ∃ Γ', t (wipeG Γ vs) d = some Γ' ∧ b Γ' S noEx fun c S1 => if c = true then w Γ' S1 noEx fun a S2 => ∃ x, a = .d x ∧ it S2 = some ds ∧ wLcL it ds t vs b w Γ Q (acc ++ [x]) r S2 else it S1 = some ds ∧ wLcL it ds t vs b w Γ Q acc r S1
def wLc (wi : WI) (t : TgF) (vs : List Nat) (b : WT) (w : WE) : WE := fun Γ S ex Q => wi Γ S ex fun it ds S1 => wLcL it ds t vs b w Γ Q [] ds S1
theorem comp_runE {elt tg iter : Expr} {ifs : List Expr} {scope : Scope} {vs : List Nat} {wi : WI} {t : TgF} {ws : List Nat} {b : WT} {w : WE} (hi : RIE ci X tg iter wi) (hg : BlkX X scope fun Y => RG ci Y tg t ws) (hw : ∀ i ∈ ws, i ∈ vs) (hb : BlkX X scope fun Y => RCE ci Y ifs b) (hf : BlkX X scope fun Y => RE ci Y elt w)
    {F : Fr X.K ci} {ex : EK} (xo : Xok X F ex) {T : List (A × V)} {Γ : Ga} {S : So} {σ : L2.St} {H : Hp} {Q : AK} (r : Rel F T Γ S σ H) (q : wLc wi t vs b w Γ S ex Q) {QV : VK} (k : ∀ p H' a S', Rel F ((a, .ref p) :: T) Γ S' σ H' → Q a S' → QV (.ref p) H') :
    tLc (wpI X tg iter) (gB X scope tg) (tB' X scope ifs) (eB X scope elt) vs σ H QV := by
  refine wpI_mono (hi F ex xo T Γ S σ H _ r q) fun J H1 ⟨U, S1, it, ds, ⟨hsz, G, Y, W, spec⟩, e2, r1, q1⟩ Dl hD => ?_
  obtain ⟨ρ1, r1⟩ := r1
  obtain ⟨V', hV, r1⟩ := r1.keep
  have hgs := r1.gs
  let T1 := V' ++ (U ++ T)
  let Pv : Nat → Hp → Prop := fun i H' => ∃ acc vs' Hb ρ S', acc.length ≤ i ∧ wLcL it ds t vs b w Γ Q acc (ds.drop i) S' ∧ it S' = some ds ∧ Hb Dl = none ∧ H' = upd Hb Dl (.lst vs') ∧ acc.length = vs'.length ∧ RelR F ρ ((acc.map A.d).zip vs' ++ T1) Γ S' σ Hb
  refine lc_it W Pv ⟨[], [], H1, ρ1, S1, Nat.le_refl _, q1, e2, hD, rfl, rfl, r1⟩ ?_ ?_ ?_
  · rintro i H' _ ⟨acc, vs', Hb, ρ, S', _, _, e3, h2, rfl, h3, h4⟩
    exact (spec F _ Γ S' σ _ ⟨ρ, h4.alloc h2⟩ (fun q hq => by simp [T1, hq]) e3).1
  · rintro i x H2 H3 hlt ⟨acc, vs', Hb, ρ, S', hai, hq, e3, h2, rfl, h3, h4⟩ hy
    have rin := h4.hideIn (o := .lst vs') h2
    obtain ⟨d, hd, r3⟩ := (spec _ _ Γ S' σ _ ⟨ρ, rin⟩ (fun q hq => by simp [T1, hq]) e3).2 i x H3 hlt hy
    have hdr : ds.drop i = d :: ds.drop (i + 1) := by
      rw [List.drop_eq_getElem_cons hlt]
      congr 1
      exact (List.getElem?_eq_some_iff.mp hd).2
    rw [hdr] at hq
    obtain ⟨Γ', e4, hq⟩ := hq
    have hlen : vs'.length < sizeLine := by omega
    obtain ⟨ρ3, r3⟩ := r3
    intro s0 H0 C cl fp
    refine gWp_mono (hg s0 H0 C cl fp _ _ (wipeG Γ vs) S' (L2.wipe σ vs) H3 d x Γ' ⟨ρ3, r3.wipe vs⟩ List.mem_cons_self e4) fun σ2 H4 ⟨w1, r4⟩ => ?_
    refine ⟨by rw [w1 vs hw, wipe_idem vs vs fun _ h => h], ?_⟩
    have back : ∀ {ρ5 : List Addr} {S5 : So} {T5 : List (A × V)} {H5 : Hp}, RelR (F.hide (upd Hb Dl (.lst vs')) ρ S' Dl) ρ5 (T5 ++ ((acc.map A.d).zip vs' ++ T1)) Γ' S5 σ2 H5 → H5 Dl = some (.lst vs') ∧ RelR F ρ5 (T5 ++ ((acc.map A.d).zip vs' ++ T1)) Γ S5 σ (less H5 Dl) := fun {ρ5 S5 T5 H5} r5 => by
      obtain ⟨q1, q2⟩ := h4.hideOut h2 r5
      refine ⟨q1, q2.slots hgs fun j a e => ?_⟩
      obtain ⟨v, v1, v2⟩ := hV j a e
      exact ⟨v, v1, q2.tl (a, v) (by simp [T1, v2])⟩
    intro s0 H0 C cl fp
    have tst : wpC (X.blk s0 H0 scope (compEnvC scope cl C X.env) fp) ifs σ2 H4 (fun c H' => ∃ S5, Rel (F.hide (upd Hb Dl (.lst vs')) ρ S' Dl) ((.d d, x) :: ((acc.map A.d).zip vs' ++ T1)) Γ' S5 σ2 H' ∧ (if c = true then w Γ' S5 noEx fun a S2 => ∃ x, a = .d x ∧ it S2 = some ds ∧ wLcL it ds t vs b w Γ Q (acc ++ [x]) (ds.drop (i + 1)) S2 else it S5 = some ds ∧ wLcL it ds t vs b w Γ Q acc (ds.drop (i + 1)) S5)) := by
      rcases hb s0 H0 C cl fp with ⟨rfl, rfl⟩ | ⟨e0, rfl, hbb⟩
      · exact wpC_of pts_nil ⟨S', r4, hq⟩
      · exact wpC_of (pts_one pt_wp) (wpT_mono (hbb _ noEx xok_no _ Γ' S' σ2 H4 _ r4 hq) fun c H5 ⟨S5, r5, q5⟩ => ⟨S5, r5, q5⟩)
    refine wpC_mono tst fun c' H5 ⟨S5, r5, q5⟩ => ?_
    cases c' with
    | false =>
      rw [if_neg Bool.false_ne_true] at q5
      refine iteF ?_
      obtain ⟨ρ5, r5⟩ := r5
      obtain ⟨q1, q2⟩ := back (T5 := [_]) r5
      refine ⟨acc, vs', less H5 Dl, ρ5, S5, by omega, q5.2, q5.1, less_same, ?_, h3, q2.drop fun q hq => List.mem_cons_of_mem _ hq⟩
      rw [← upd_less]
      funext z
      by_cases hz : z = Dl
      · subst hz; rw [upd_same, q1]
      · rw [upd_ne hz]
    | true =>
      rw [if_pos rfl] at q5
      refine iteT ?_
      intro s0 H0 C cl fp
      refine wpX_mono (hf s0 H0 C cl fp _ noEx xok_no _ Γ' S5 σ2 H5 _ r5 q5) fun y H6 ⟨a6, S6, r6, d6, e6, e7, q6⟩ => ?_
      subst e6
      obtain ⟨ρ6, r6⟩ := r6
      obtain ⟨q1, q2⟩ := back (T5 := [_, _]) r6
      refine ⟨vs', q1, hlen, acc ++ [d6], vs' ++ [y], less H6 Dl, ρ6, S6, by simp; omega, q6, e7, less_same, upd_less, by simp [h3], ?_⟩
      refine q2.drop fun q hq => ?_
      have e7 : ((acc ++ [d6]).map A.d).zip (vs' ++ [y]) = (acc.map A.d).zip vs' ++ [(A.d d6, y)] := by
        rw [List.map_append, List.zip_append (by simp [h3])]; rfl
      rw [e7] at hq
      simp only [List.mem_append, List.mem_cons, List.not_mem_nil, or_false, List.cons_append, List.nil_append] at hq ⊢
      rcases hq with (hq | hq) | hq
      · exact .inr (.inr (.inl hq))
      · exact .inl hq
      · exact .inr (.inr (.inr hq))
  · rintro H' ⟨acc, vs', Hb, ρ, S', _, hq, _, h2, rfl, h3, h4⟩
    rw [List.drop_length] at hq
    have R := reps_of h4 h3 fun q hq => List.mem_append_left _ hq
    refine k Dl _ (.d (.lst acc)) S' ⟨ρ, (h4.newL h2 R).drop fun q hq => ?_⟩ hq
    rcases List.mem_cons.mp hq with rfl | hq
    · exact List.mem_cons_self
    · simp [T1, hq]
theorem re_lc {elt tg iter : Expr} {ifs : List Expr} {scope : Scope} {own : List (Str × Nat)} {pos : Pos} {wi : WI} {t : TgF} {ws : List Nat} {b : WT} {w : WE} (hc : X.calm = true) (hN : X.N.Nodup) (hi : RIE ci X tg iter wi) (ok : BlkOk X.N X.env.scope scope own)
    (hg : BlkX X scope fun Y => RG ci Y tg t ws) (hb : BlkX X scope fun Y => RCE ci Y ifs b) (hf : BlkX X scope fun Y => RE ci Y elt w) (hw : ∀ i ∈ ws, i ∈ own.map (·.2) := by decide) (hs : ∀ x, foldedSetIterable iter X.env x = pure x := by intro _; rfl) :
    RE ci X (.ListComp elt [⟨tg, iter, ifs, 0⟩] scope pos) (wLc wi t (own.map (·.2)) b w) := fun F ex xo T Γ S σ H Q r q =>
  wpX_of (pe_lc (te := eB X scope elt) (tt := tB' X scope ifs) (g := gB X scope tg) hc hN pi_wp ok (fun s H C cl fp => ⟨fun pins s' σ H' v u Q I r h => h s H C cl fp pins s' u I r⟩)
    (fun s H C cl fp => ⟨fun pins s' σ H' Q I h => h s H C cl fp pins s' I⟩) (fun s H C cl fp => ⟨fun pins s' σ H' Q I h => h s H C cl fp pins s' I⟩) hs) (comp_runE hi hg hw hb hf xo r q fun p H' a S' h1 h2 => ⟨a, S', h1, h2⟩)
end
end LP
namespace LP
open PySem PySem.Spec PyProof.Rows L2
section
variable {ci : Ci} {X : Cx}
theorem OpG.or {fv : Value → Value → Sem Value} {g g' h : So → A → A → Option D} (o : OpG ci X fv g) (o' : OpG ci X fv g') (k : ∀ S a b d, h S a b = some d → g S a b = some d ∨ g' S a b = some d) : OpG ci X fv h := by
  obtain ⟨r, h1, h2⟩ := o
  obtain ⟨r', h1', h2'⟩ := o'
  refine ⟨_, h1.or h1', fun F T Γ S σ H x y a b d rr hx hy e Q kk => ?_⟩
  rcases k S a b d e with e | e
  · exact .inl (h2 F T Γ S σ H x y a b d rr hx hy e Q kk)
  · exact .inr (h2' F T Γ S σ H x y a b d rr hx hy e Q kk)
def gPlus (S : So) : A → A → Option D
  | .d (.int i), .d (.int j) => some (.int (i + j))
  | .d (.str s), .d (.str t) => if s.length + t.length ≤ sizeLine then some (.str (s ++ t)) else none
  | a, b => gCat S a b
theorem o_plus : OpG ci X (binaryOp .Add) gPlus := o_add.or o_cat fun S a b d e => by
  unfold gPlus at e
  split at e
  · exact .inl e
  · exact .inl e
  · exact .inr e
def gTimes (S : So) : A → A → Option D
  | .d (.int i), .d (.int j) => if decide ((-(2 ^ 64) < i ∧ i < 2 ^ 64) ∨ (-(2 ^ 64) < j ∧ j < 2 ^ 64)) = true then some (.int (i * j)) else none
  | .d (.str s), .d (.int n) => if 0 ≤ n ∧ n ≤ 1000 ∧ s.length ≤ 10000 then some (.str (strRep s n)) else none
  | a, b => gRepL S a b
theorem o_times : OpG ci X (binaryOp .Mult) gTimes := (o_mul.or o_repS (h := fun S a b => match a, b with
  | .d (.int i), .d (.int j) => gMul S (.d (.int i)) (.d (.int j))
  | .d (.str s), .d (.int n) => gRepS S (.d (.str s)) (.d (.int n))
  | _, _ => none) fun S a b d e => by
    split at e
    · exact .inl e
    · exact .inr e
    · cases e).or o_repL fun S a b d e => by
  unfold gTimes at e
  split at e
  · exact .inl e
  · exact .inl e
  · exact .inr e
/-- text or list or tuple -/
def slV (S : So) : A → Option Int → Option Int → Option D
  | .d (.str s), l, h => if s.length ≤ sizeLine then some (.str (cutS s l h)) else none
  | .d (.tup t), l, h => some (.tup (cutD t l h))
  | a, l, h => (viewL S a).map fun ds => .lst (cutD ds l h)
def fSl (f : QF) (lo hi : QO) : QF := fun Γ S => (f Γ S).bind fun a => (lo Γ S).bind fun l => (hi Γ S).bind fun h => (slV S a l h).map A.d
theorem sl_end {F : Fr X.K ci} {T : List (A × V)} {Γ : Ga} {S : So} {σ : L2.St} {H : Hp} {a : A} {v : V} {l u : Option Int} {d : D} (r : Rel F ((a, v) :: T) Γ S σ H) (e : slV S a l u = some d) {Q : VK} (k : ∀ w H', Rel F ((.d d, w) :: T) Γ S σ H' → Q w H') : rSlL X.K v l u H Q ∨ rSlS v l u H Q ∨ rSlA X.K v l u H Q := by
  unfold slV at e
  split at e
  · rename_i s
    split at e
    · rename_i hs
      cases e
      exact .inr (.inl ⟨s, r.asStr List.mem_cons_self, hs, k _ _ (r.tail.str _)⟩)
    · cases e
  · rename_i t
    cases e
    obtain ⟨ρ, r⟩ := r
    obtain ⟨p, vs, rfl, hq, R⟩ := RelR.viewT (r.top (a := .d (.tup t)) List.mem_cons_self) rfl
    have hl := R.length
    refine .inr (.inr ⟨p, vs, rfl, hq, fun hw => k _ _ ⟨ρ, ?_⟩, fun _ p' hp' => k _ _ ⟨ρ, (r.newT hp' (cut_reps R)).drop drop2⟩⟩)
    have e1 : cutD t l u = t := by
      unfold cutD
      rw [hl, hw.1, hw.2, ← hl]
      simp
    rw [e1]
    exact r
  · cases e5 : viewL S a with
    | none => rw [e5] at e; cases e
    | some ds =>
      rw [e5] at e; cases e
      obtain ⟨ρ, r⟩ := r
      obtain ⟨p, vs, rfl, hq, R⟩ := r.viewL (r.top (a := a) List.mem_cons_self) e5
      exact .inl ⟨p, vs, rfl, hq, fun p' hp => k _ _ ⟨ρ, (r.newL hp (cut_reps R)).drop drop2⟩⟩
theorem rp_sl {e : Expr} {lo hi : Option Expr} {f : QF} {fl fh : QO} {p2 pos : Pos} (he : RP ci X e f) (hl : RO ci X lo fl) (hh : RO ci X hi fh) : RP ci X (.Subscript e (.Slice lo hi none p2) pos) (fSl f fl fh) := fun F T Γ S σ H z r q => by
  obtain ⟨a, l, u, e1, e2, e3, e4⟩ := sl_some q
  cases e5 : slV S a l u with
  | none => rw [e5] at e4; cases e4
  | some d =>
    rw [e5] at e4; cases e4
    refine wpX_of (pe_slice (sl_list.or (sl_str.or sl_tupA)) pe_wp po_wp po_wp) (slice_run he hl hh r e1 e2 e3 (R := fun v l u H' => rSlL X.K v l u H' _ ∨ rSlS v l u H' _ ∨ rSlA X.K v l u H' _) fun v H' h' => ?_)
    exact sl_end h' e5 fun w H2 h2 => h2
/-- int of anything -/
theorem CallG.or {fv : Value} {g g' h : So → List A → Option D} (o : CallG ci X fv g) (o' : CallG ci X fv g') (k : ∀ S as d, h S as = some d → g S as = some d ∨ g' S as = some d) : CallG ci X fv h := by
  obtain ⟨r, h1, h2⟩ := o
  obtain ⟨r', h1', h2'⟩ := o'
  refine ⟨_, h1.or h1', fun F T Γ S σ H as vs d rr hl hx e Q kk => ?_⟩
  rcases k S as d e with e | e
  · exact .inl (h2 F T Γ S σ H as vs d rr hl hx e Q kk)
  · exact .inr (h2' F T Γ S σ H as vs d rr hl hx e Q kk)
def gIntA (S : So) : List A → Option D
  | [.d (.str s)] => if s.length ≤ 640 then (PySem.intText? s).map .int else none
  | as => gInt S as
theorem c_intA : CallG ci X (.type "int") gIntA := c_int.or c_intS fun S as d e => by
  unfold gIntA at e
  split at e
  · exact .inr e
  · exact .inl e
/-- in: a text, or a list | tuple of flat things -/
def gInU (neg : Bool) (S : So) (a b : A) : Option D := match b with
  | .d (.str _) => gInS neg S a b
  | b => gIn neg S a b
theorem o_inU : OpG ci X (compareOp .In) (gInU false) := o_in.or o_inS fun S a b d e => by
  unfold gInU at e
  split at e
  · exact .inr e
  · exact .inl e
end
end LP
namespace LP
open PySem PySem.Spec PyProof.Rows L2
section
variable {ci : Ci} {X : Cx}
theorem rb_chain {op op' : CmpOp} {a b c : Expr} {pos : Pos} {g g' : So → A → A → Option D} {fa fb fc : QF} (ho : OpG ci X (compareOp op) g) (ho' : OpG ci X (compareOp op') g') (ha : RP ci X a fa) (hb : RP ci X b fb) (hc : RP ci X c fc)
    (hm : lastMarks [op, op'] [b, c] = false := by with_unfolding_all rfl) : RB ci X (.Compare a [op, op'] [b, c] pos) (bV (fChain g g' fa fb fc)) := fun F T Γ S σ H rb r q => by
  obtain ⟨x, y, b0, e1, e2, e3, e4⟩ := chain_some (bv_some q)
  obtain ⟨rr, hr1, hk⟩ := ho
  obtain ⟨rr', hr2, hk'⟩ := ho'
  refine wpT_of (pt_chain hr1 hr2 pe_wp pe_wp pe_wp hm) (wpX_mono (two ha hb r e1 e2) fun v H1 h1 => wpX_mono h1 fun u H2 h2 => ?_)
  refine hk F _ Γ S σ H2 v u x y _ h2 (by simp) (by simp) e3 _ fun w H3 h3 => ?_
  refine ⟨b0, h3.asBl List.mem_cons_self, ?_⟩
  rcases e4 with ⟨rfl, e4⟩ | ⟨rfl, z, d, e5, e6, e4⟩
  · cases e4
    exact iteF ⟨false, rfl, rfl, h3.drop fun q hq => by simp [hq]⟩
  · cases e4
    refine iteT (wpX_mono (hc F _ Γ S σ H3 z h3 e5) fun t H4 h4 => ?_)
    exact hk' F _ Γ S σ H4 u t y z _ h4 (by simp) (by simp) e6 _ fun w' H5 h5 => ⟨rb, h5.asBl List.mem_cons_self, rfl, h5.drop fun q hq => by simp [hq]⟩
def wIR1 (w : WE) : WI := fun Γ S ex Q => w Γ S ex fun a S1 => ∃ j : Int, a = .d (.int j) ∧ -(2 ^ 62) ≤ j ∧ j ≤ 16777216 ∧ Q (fun _ => some (rangeD 0 j.toNat)) (rangeD 0 j.toNat) S1
theorem rie_r1 {tg e : Expr} {w : WE} {p pos : Pos} (hg : Gl X "range") (hm : X.mg "range" = none) (h : RE ci X e w) (hs : starEach [e] X.env = [(false, eval e X.env)] := by kernel_rfl) : RIE ci X tg (.Call (.Name "range" p) [e] [] pos) (wIR1 w) := fun F ex xo T Γ S σ H Q r q => by
  refine wpI_of (pi_range1 hg hm (pa_cons pe_wp pa_nil hs) hs) (wpX_mono (h F ex xo T Γ S σ H _ r q) fun v H' hh => ?_)
  obtain ⟨a, S1, h', j, ea, h1, h2, q3⟩ := hh
  subst ea
  have := h'.asInt List.mem_cons_self
  subst this
  exact ⟨j, rfl, h1, by omega, [], S1, _, _, range_spec (by omega), rfl, h'.tail, q3⟩
end
/-- some of a list's items, by their places -/
def sel {α : Type} (ix : List Nat) (l : List α) : List α := ix.filterMap fun i => l[i]?
section
variable {K : PySem.W.Frag} {x qual : Str} {params : Arguments} {body : List Stmt} {scope : Scope} {dvs : List V} {f : Addr} {fd : FuncData} {ps : List Str}
/-- the places of a call's values: n by place, then the defaults, then those by name -/
abbrev KB (K : PySem.W.Frag) (fd : FuncData) (ps : List Str) (n : Nat) (ks : List Str) (ix : List Nat) (dfl : List D) (its : List Value) : Prop := KBn K fd ps n ks (fun us ws => sel ix (us ++ its ++ ws)) (fun vs zs => sel ix (vs ++ dfl.map D.v ++ zs))
end
structure CallK (P : Program) (w : World) (K : PySem.W.Frag) (mg : Str → Option Value) (base : Heap) (ci : Ci) (k : Nat) (x : Str) (n : Nat) (ks : List Str) (ix : List Nat) (dfl : List D) (sp : Sp) : Prop where
  ex : ∃ (f : Addr) (fd : FuncData) (ps : List Str) (its : List Value), FnOk P w K mg base (L2.CX P w) k f fd ps sp ∧ mg x = some (.ref f) ∧ PySem.W.keepIn K (.ref f) = true ∧ KB K fd ps n ks ix dfl its ∧ dfl.all D.flat = true
structure MakeK (P : Program) (w : World) (K : PySem.W.Frag) (mg : Str → Option Value) (base : Heap) (ci : Ci) (k : Nat) (x : Str) (c n : Nat) (ks : List Str) (ix : List Nat) (dfl : List D) (G : PI') : Prop where
  ex : ∃ (f : Addr) (fd : FuncData) (ps : List Str) (its : List Value), FnOk P w K mg base (L2.CX P w) k f fd ps (spI K ci c G) ∧ Mk K (ci c).1 f ∧ mg x = some (.ref (ci c).1) ∧ KB K fd ps (n + 1) ks (0 :: ix.map (· + 1)) dfl its ∧ dfl.all D.flat = true
  len : ∀ ds fs, G ds = some (.ok fs) → fs.length = (ci c).2.length
section
variable {ci : Ci} {X : Cx}
theorem spP_all {K : PySem.W.Frag} {ci : Ci} {F : Fr K ci} {T : List (A × V)} {Γ : Ga} {S : So} {σ : L2.St} {H : Hp} {l : List D} {vs : List V} {G : PC} {o : Except Er D} {Q : VK} {E : XK} (r : Rel F T Γ S σ H) (hl : l.length = vs.length) (hT : ∀ q ∈ (l.map A.d).zip vs, q ∈ T) (e : G l = some o)
    (k1 : ∀ d, o = .ok d → ∀ v H', Rel F ((.d d, v) :: T) Γ S σ H' → Q v H') (k2 : ∀ er, o = .error er → ∀ cls dd H', (∃ ρ, RelR F ρ T Γ S σ H' ∧ ErrRep ci F ρ S er cls dd H') → E cls dd H') : spP K ci G vs H Q E := by
  have := spP_of (G := G) (dfl := []) r hl hT rfl (by rw [List.append_nil]; exact e) k1 k2
  simpa using this
theorem Rel.flats {K : PySem.W.Frag} {ci : Ci} {F : Fr K ci} {T : List (A × V)} {Γ : Ga} {S : So} {σ : L2.St} {H : Hp} (r : Rel F T Γ S σ H) {l : List D} (h : l.all D.flat = true) : Rel F ((l.map A.d).zip (l.map D.v) ++ T) Γ S σ H := let ⟨ρ, r⟩ := r; ⟨ρ, r.flats h⟩
end
end LP
namespace LP
open PySem PySem.Spec PyProof.Rows L2
section
variable {ci : Ci} {X : Cx}
theorem rp_lcv (own : List (Str × Nat)) {elt tg iter : Expr} {ifs : List Expr} {scope : Scope} {pos : Pos} {fi : QI} {t : TgF} {ws : List Nat} {b : QB} {f : QF} (hv : own.map (·.2) = ws) (hc : X.calm = true) (hN : X.N.Nodup) (hi : RI ci X tg iter fi) (ok : blkC X.N X.env.scope scope own = true)
    (hg : BlkX X scope fun Y => RG ci Y tg t ws) (hb : BlkX X scope fun Y => RC ci Y ifs b) (hf : BlkX X scope fun Y => RP ci Y elt f) (hs : ∀ x, foldedSetIterable iter X.env x = pure x := by intro _; rfl) :
    RP ci X (.ListComp elt [⟨tg, iter, ifs, 0⟩] scope pos) (fComp fi t ws b f) := by
  subst hv
  exact rp_lc hc hN hi (blkOk_by ok) hg hb hf (fun i h => h) hs
theorem re_lcv (own : List (Str × Nat)) {elt tg iter : Expr} {ifs : List Expr} {scope : Scope} {pos : Pos} {wi : WI} {t : TgF} {ws : List Nat} {b : WT} {w : WE} (hv : own.map (·.2) = ws) (hc : X.calm = true) (hN : X.N.Nodup) (hi : RIE ci X tg iter wi) (ok : blkC X.N X.env.scope scope own = true)
    (hg : BlkX X scope fun Y => RG ci Y tg t ws) (hb : BlkX X scope fun Y => RCE ci Y ifs b) (hf : BlkX X scope fun Y => RE ci Y elt w) (hs : ∀ x, foldedSetIterable iter X.env x = pure x := by intro _; rfl) :
    RE ci X (.ListComp elt [⟨tg, iter, ifs, 0⟩] scope pos) (wLc wi t ws b w) := by
  subst hv
  exact re_lc hc hN hi (blkOk_by ok) hg hb hf (fun i h => h) hs
end
end LP
namespace LP
open PySem PySem.Spec PyProof.Rows L2 SX
/-- equality: of flat things, or of any data -/
def gEqU (neg : Bool) (S : So) (a b : A) : Option D := match a, b with
  | .d x, .d y => if x.flat = true ∧ y.flat = true ∧ scal x.v y.v = true then some (.bl (if neg then !decide (x.v = y.v) else decide (x.v = y.v))) else gEq neg S (.d x) (.d y)
  | a, b => gEq neg S a b
section
variable {ci : Ci} {X : Cx}
theorem Rel.atFlat {K : PySem.W.Frag} {F : Fr K ci} {T : List (A × V)} {Γ : Ga} {S : So} {σ : L2.St} {H : Hp} {d : D} {v : V} (r : Rel F T Γ S σ H) (h : (A.d d, v) ∈ T) (hf : d.flat = true) : v = d.v := by
  obtain ⟨ρ, r⟩ := r
  exact Rep.flat hf (r.top h)
theorem o_eqU (hu : X.A.units + 64 < cLine) : OpG ci X (compareOp .Eq) (gEqU false) := by
  obtain ⟨r, h1, h2⟩ := o_eq (ci := ci) hu
  refine ⟨_, op_eq.or h1, fun F T Γ S σ H x y a b d rr hx hy e Q kk => ?_⟩
  unfold gEqU at e
  split at e
  · split at e
    · rename_i hc
      cases e
      rw [rr.atFlat hx hc.1, rr.atFlat hy hc.2.1]
      exact .inl ⟨hc.2.2, kk _ _ (rr.bl _)⟩
    · exact .inr (h2 F T Γ S σ H x y _ _ d rr hx hy e Q kk)
  · exact .inr (h2 F T Γ S σ H x y _ _ d rr hx hy e Q kk)
theorem o_neU (hu : X.A.units + 64 < cLine) : OpG ci X (compareOp .NotEq) (gEqU true) := by
  obtain ⟨r, h1, h2⟩ := o_ne (ci := ci) hu
  refine ⟨_, op_ne.or h1, fun F T Γ S σ H x y a b d rr hx hy e Q kk => ?_⟩
  unfold gEqU at e
  split at e
  · split at e
    · rename_i hc
      cases e
      rw [rr.atFlat hx hc.1, rr.atFlat hy hc.2.1]
      exact .inl ⟨hc.2.2, kk _ _ (rr.bl _)⟩
    · exact .inr (h2 F T Γ S σ H x y _ _ d rr hx hy e Q kk)
  · exact .inr (h2 F T Γ S σ H x y _ _ d rr hx hy e Q kk)
end
theorem gEq_ii (neg : Bool) (S : So) (i j : Int) : gEqU neg S (.d (.int i)) (.d (.int j)) = some (.bl (if neg then !decide (i = j) else decide (i = j))) := by
  simp [gEqU, D.flat, D.v, scal]
theorem gEq_ss (neg : Bool) (S : So) (i j : Str) : gEqU neg S (.d (.str i)) (.d (.str j)) = some (.bl (if neg then !decide (i = j) else decide (i = j))) := by
  simp [gEqU, D.flat, D.v, scal]
theorem gEq_bb (neg : Bool) (S : So) (i j : Bool) : gEqU neg S (.d (.bl i)) (.d (.bl j)) = some (.bl (if neg then !decide (i = j) else decide (i = j))) := by
  simp [gEqU, D.flat, D.v, scal]
theorem gEq_nn (neg : Bool) (S : So) : gEqU neg S (.d .non) (.d .non) = some (.bl (!neg)) := by
  cases neg <;> simp [gEqU, D.flat, D.v, scal]
theorem chain_le (fa fb fc : QF) (Γ : Ga) (S : So) : fChain gLe gLe fa fb fc Γ S = (fa Γ S).bind fun x => (fb Γ S).bind fun y => match x, y with
    | .d (.int a), .d (.int b) => if a ≤ b then (fc Γ S).bind fun z => match z with | .d (.int c) => some (.d (.bl (decide (b ≤ c)))) | _ => none else some (.d (.bl false))
    | _, _ => none := by
  unfold fChain
  congr 1; funext x; congr 1; funext y
  unfold gLe gI
  split
  · rename_i a b
    simp only [if_true, Option.bind_some]
    by_cases h : a ≤ b
    · simp only [h, decide_true, if_true]
      congr 1; funext z
      match z with
      | .d (.int c) => rfl
      | .d .non => rfl
      | .d (.bl _) => rfl
      | .d (.str _) => rfl
      | .d (.tup _) => rfl
      | .d (.lst _) => rfl
      | .d (.ins _ _) => rfl
      | .d (.dic _ _) => rfl
      | .d (.fn _) => rfl
      | .d (.exc _ _ _) => rfl
      | .loc _ => rfl
    · simp only [h, decide_false, if_false]
  · rename_i h1
    first
      | rfl
      | (split
         · exact (h1 _ _ rfl rfl).elim
         · rfl)
def setA (S : So) (a j b : A) : Option So := match a, j with
  | .loc k, .d (.int n) => match S[k]? with
    | some (.lst l) => (ixN l.length n).map fun m => S.set k (.lst (l.set m b))
    | _ => none
  | _, _ => none
theorem setIx_eq (wo wi we : WE) (Γ : Ga) (S : So) (E : Dn) : wSetIx wo wi we Γ S E = we Γ S E.ex fun b S1 => wo Γ S1 E.ex fun a S2 => wi Γ S2 E.ex fun j S3 => ∃ S4, setA S3 a j b = some S4 ∧ E.nx Γ S4 := by
  unfold wSetIx
  congr 1; funext b S1; congr 1; funext a S2; congr 1; funext j S3
  apply propext
  constructor
  · rintro ⟨k, l, n, m, rfl, rfl, e1, e2, q⟩
    exact ⟨_, by simp [setA, e1, e2], q⟩
  · rintro ⟨S4, e, q⟩
    unfold setA at e
    split at e
    · rename_i k n
      split at e
      · rename_i l el
        cases e2 : ixN l.length n with
        | none => rw [e2] at e; cases e
        | some m => rw [e2] at e; cases e; exact ⟨k, l, n, m, rfl, rfl, el, e2, q⟩
      · cases e
    · cases e
/-- loops -/
theorem loop_inv {it : So → Option (List D)} {ds : List D} {t : TgF} {body : WS} {E : Dn} (I : List D → Ga → So → Prop)
    (h : ∀ d r Γ S (nx : Ga → So → Prop), I (d :: r) Γ S → (∀ Γ2 S2, it S2 = some ds → I r Γ2 S2 → nx Γ2 S2) → ∃ Γ', t Γ d = some Γ' ∧ body Γ' S { E with nx := fun Γ2 S2 => nx Γ2 S2, ct := fun Γ2 S2 => nx Γ2 S2, bk := E.nx })
    (he : ∀ Γ S, I [] Γ S → E.nx Γ S) : ∀ (r : List D) (Γ : Ga) (S : So), I r Γ S → wLoop it ds t body r Γ S E
  | [], Γ, S, i => he Γ S i
  | d :: r, Γ, S, i => by
    unfold wLoop
    exact h d r Γ S (fun Γ2 S2 => it S2 = some ds ∧ wLoop it ds t body r Γ2 S2 E) i (fun Γ2 S2 e i2 => ⟨e, loop_inv I h he r Γ2 S2 i2⟩)
/-- comprehensions with effects -/
theorem lc_inv {it : So → Option (List D)} {ds : List D} {t : TgF} {vs : List Nat} {w : WE} {Γ : Ga} {Q : AK} (I : List D → List D → So → Prop)
    (h : ∀ acc d r S (k : D → So → Prop), I acc (d :: r) S → (∀ x S2, it S2 = some ds → I (acc ++ [x]) r S2 → k x S2) → ∃ Γ', t (wipeG Γ vs) d = some Γ' ∧ w Γ' S noEx fun a S2 => ∃ x, a = .d x ∧ k x S2)
    (he : ∀ acc S, I acc [] S → Q (.d (.lst acc)) S) : ∀ (r acc : List D) (S : So), I acc r S → wLcL it ds t vs (fun _ S _ Q => Q true S) w Γ Q acc r S
  | [], acc, S, i => by unfold wLcL; exact he acc S i
  | d :: r, acc, S, i => by
    unfold wLcL
    obtain ⟨Γ', e, q⟩ := h acc d r S (fun x S2 => it S2 = some ds ∧ wLcL it ds t vs (fun _ S _ Q => Q true S) w Γ Q (acc ++ [x]) r S2) i (fun x S2 e i2 => ⟨e, lc_inv I h he r (acc ++ [x]) S2 i2⟩)
    refine ⟨Γ', e, ?_⟩
    show (if true = true then _ else _)
    rw [if_pos rfl]
    exact q
/-- the law's own def: a script of whole numbers -/
theorem reps_ints {K : PySem.W.Frag} {ci : Ci} {M : List Addr} {H : Hp} : ∀ ns : List Int, Reps K ci M H (ns.map .int) (ns.map V.int)
  | [] => by rw [List.map_nil, Reps]; rfl
  | n :: ns => by
    rw [List.map_cons, Reps]
    exact ⟨.int n, ns.map V.int, rfl, (by rw [Rep]), reps_ints ns⟩
theorem FnOk.weak {P : Program} {w : World} {K : PySem.W.Frag} {mg : Str → Option Value} {base : Heap} {k : Nat} {f : Addr} {fd : FuncData} {ps : List Str} {sp sp' : Sp} (F : FnOk P w K mg base (L2.CX P w) k f fd ps sp) (h : ∀ vs H Q E, sp' vs H Q E → sp vs H Q E) : FnOk P w K mg base (L2.CX P w) k f fd ps sp' :=
  ⟨fun vs H Q E q => F.len vs H Q E (h vs H Q E q), fun A outer s H args us vs Q E hr e b v q => F.run A outer s H args us vs Q E hr e b v (h vs H Q E q)⟩
end LP
namespace LP
open PySem PySem.Spec PyProof.Rows L2
def clsA (S : So) : A → Option Nat
  | .d (.ins c _) => some c
  | .loc k => match S[k]? with
    | some (.ins c _) => some c
    | some (.frz (.ins c _)) => some c
    | _ => none
  | _ => none
def wMethM (mt : Nat → Option (List D × FC)) (fo : QF) (ws : WAs) : WE := fun Γ S ex Q => ∃ a c dfl fc, fo Γ S = some a ∧ clsA S a = some c ∧ mt c = some (dfl, fc) ∧ ws Γ S ex fun as S2 => fc (a :: (as ++ dfl.map A.d)) S2 ex Q
theorem cls_at {K : PySem.W.Frag} {ci : Ci} {F : Fr K ci} {T : List (A × V)} {Γ : Ga} {S : So} {σ : L2.St} {H : Hp} {a : A} {v : V} {c : Nat} (r : Rel F T Γ S σ H) (h : (a, v) ∈ T) (e : clsA S a = some c) : ∃ p dx vs, v = .ref p ∧ H p = some (.ins (ci c).1 dx ((ci c).2.zip vs)) := by
  obtain ⟨ρ, r⟩ := r
  have q := r.tl (a, v) h
  unfold clsA at e
  split at e
  · cases e
    exact ins_at q
  · rename_i k
    obtain ⟨p, hp, rfl⟩ := q
    split at e
    · rename_i c' fs hs
      cases e
      obtain ⟨dx, vs, e1, _, _⟩ := r.st k p _ hp hs
      exact ⟨p, dx, vs, rfl, e1⟩
    · rename_i c' fs hs
      cases e
      have z := r.st k p _ hp hs
      rw [MRep] at z
      exact ins_at z
    · cases e
  · cases e
section
variable {ci : Ci} {X : Cx}
theorem re_methM0 {k : Nat} {m : Str} {o : Expr} {apos pos : Pos} {mt : Nat → Option (List D × FC)} {fo : QF} {pl : Sem Bool} (hM : ∀ c dfl fc, mt c = some (dfl, fc) → MethP X.prog X.w X.K X.mg X.base ci k c m dfl (spOf X.K ci fc)) (hr : Room k X.A) (ho : RP ci X o fo)
    (ht : eval (.Call (.Attribute o m apos) [] [] pos) X.env = (do
      let ov ← eval o X.env
      standAt apos.atName
      let (f, first) ← holding [ov] (getMethod ov m pl)
      callWith pos f first (backTo pos (starEach [] X.env)) (backToKw pos (keywordEach [] X.env))) := by rfl) : RE ci X (.Call (.Attribute o m apos) [] [] pos) (wMethM mt fo wNil) := fun F ex xo T Γ S σ H Q r q => by
  obtain ⟨a, c, dfl, fc, e1, e2, e3, q1⟩ := q
  obtain ⟨f, fd, ps, ds, h1, h2, h3, h4, h5, h6, h7⟩ := (hM c dfl fc e3).ex
  refine wpX_of (pe_meth0 (E := fun cls d H => ExW F ex cls d H) pe_wp h2 h3 h1 hr h5 h6 (passX xo) ht) (wpX_mono (ho F T Γ S σ H _ r e1) fun v H1 r1 => ?_)
  obtain ⟨p, dx, vs, rfl, hp⟩ := cls_at r1 (a := a) List.mem_cons_self e2
  refine ⟨p, dx, _, rfl, hp, zip_lookup_none h4, ?_⟩
  exact spOf_of (as := [a]) (vs := [.ref p]) r1 rfl (fun q hq => by simp at hq; simp [hq]) h7 q1 (fun b S' v H3 r3 h => ⟨b, S', r3.drop drop2, h⟩) fun cls dd H3 h => h
end
end LP
namespace LP
open PySem PySem.Spec PyProof.Rows L2
section
variable {X : Cx} {CX : CXT} {k : Nat} {C f : Addr} {fd : FuncData} {ps : List Str} {sp : Sp} {E : XK}
theorem own_in1 {pins : List (Addr × Obj)} {σ : L2.St} {H : Hp} {s : Shared} {a : Addr} {Q : VK} (F : FnOk X.prog X.w X.K X.mg X.base CX k f fd ps sp) (hb : Binds X.K fd ps []) (hr : Room (k + 1) X.A) (hx : Passes CX X E) (I : Inv X pins σ H s) (h : sp [.ref a] H Q E) :
    wpAny (model X.prog X.w) X.A.in1 (call (.ref f) [.ref a]) (EP X pins σ Q) X.xe s := by
  have sb : L2.Sub X k X.A.in1 := L2.Sub.in1 ⟨hr, rfl⟩
  have e0 : Env0 X.prog X.w X.K X.mg X.base X.A.in1 X.stack s H := by
    have e := I.env0
    exact ⟨by rw [sb.fr]; exact e.frames, e.mod, e.bs, e.bsz, e.funs, e.frf, e.hok, e.bare⟩
  have hl := F.len _ _ _ _ h
  have r2 : Vals [V.ref a] [Value.ref a] := .cons rfl .nil
  refine wpAny_call (codeAny_mono (F.run X.A.in1 X.stack s H ⟨[.ref a], []⟩ [.ref a] [.ref a] Q E sb.room e0 (by
    have := hb s [.ref a] I.kIn (by simpa using hl)
    simpa using this) r2 h) fun z s2 hz => ?_)
  cases z with
  | error e => exact hx pins σ H s e s2 I hz
  | ok fl =>
    cases fl with
    | ret u => exact I.after hz
    | next => cases hz
    | brk => cases hz
    | cont => cases hz
theorem call_reprOwn (F : FnOk X.prog X.w X.K X.mg X.base CX k f fd ps sp) (hm : Meth X.K C "__repr__" f) (hb : Binds X.K fd ps []) (hr : Room (k + 1) X.A) (hx : Passes CX X E) :
    CallR X (.builtin "repr") (fun xs H Q => ∃ a dx fs, xs = [.ref a] ∧ H a = some (.ins C dx fs) ∧ sp [.ref a] H (fun v H' => ∃ t : Str, v = .str t ∧ Q (.str t) H') E) := by
  intro pins s σ H xs us Q I r h
  obtain ⟨a, dx, fs, rfl, ha, h⟩ := h
  cases r with
  | cons r1 r2 =>
    cases r2
    cases r1
    obtain ⟨mA, J, _⟩ := ins_get I.hok ha
    obtain ⟨od, J, _⟩ := J.look
    obtain ⟨m, hF⟩ := I.fr
    refine PySem.W.repr_K hr.in1.units0 hF I.ok.mod.kin J hm.at_ hm.fn (wpAny_mono (own_in1 F hb hr hx I h) (fun v s2 hv => ?_) fun _ _ y => y)
    obtain ⟨w, H2, I2, rv, n, rfl, q⟩ := hv
    obtain ⟨t, rfl⟩ := rv
    exact ⟨.str n, H2, I2, ⟨_, rfl⟩, q⟩
end
section
variable {ci : Ci} {X : Cx}
def gOwnS (c : Nat) (G : PC) (_ : So) : List A → Option D
  | [.d (.ins c' fs)] => if c' = c then match G [.ins c' fs] with
    | some (.ok (.str t)) => some (.str t)
    | _ => none else none
  | _ => none
theorem cg_repr {k c : Nat} {G : PC} (M : MethP X.prog X.w X.K X.mg X.base ci k c "__repr__" [] (spP X.K ci G)) (hr : Room (k + 1) X.A) : CallG ci X (.builtin "repr") (gOwnS c G) := by
  obtain ⟨f, fd, ps, ds, h1, h2, h3, h4, h5, h6, h7⟩ := M.ex
  cases h6
  refine ⟨_, call_reprOwn (E := E0) h1 h3 h5 hr passL, fun F T Γ S σ H as vs d r hl hT e Q kk => ?_⟩
  unfold gOwnS at e
  split at e
  · rename_i c' fs
    split at e
    · rename_i hc
      subst hc
      split at e
      · rename_i n eG
        cases e
        match vs, hl with
        | [v], _ =>
          obtain ⟨p, dx, us, rfl, hp⟩ := cls_at r (hT (.d (.ins c' fs), v) (by simp)) rfl
          refine ⟨p, dx, _, rfl, hp, ?_⟩
          refine spP_all (l := [.ins c' fs]) (vs := [.ref p]) (o := .ok (.str n)) r rfl (fun q hq => hT q (by simpa using hq)) eG (fun d' ed v H3 r3 => ?_) fun er z => by cases z
          cases ed
          have := r3.asStr (i := n) List.mem_cons_self
          exact ⟨n, this, kk _ _ (by rw [← this]; exact r3)⟩
      · cases e
    · cases e
  · cases e
end
end LP
namespace LP
open PySem PySem.Spec PyProof.Rows L2
section
variable {ci : Ci} {X : Cx}
def wListN (ws : WAs) : WE := fun Γ S ex Q => ws Γ S ex fun as S1 => ∃ a l, as = [a] ∧ viewQ S1 a = some l ∧ Q (.loc S1.length) (S1 ++ [.lst (l.map .d)])
theorem re_listN {p pos : Pos} {e : Expr} {ws : WAs} (hg : Gl X "list") (hm : X.mg "list" = none) (ha : RA ci X [e] ws)
    (he : starEach [e] X.env = (false, eval e X.env) :: starEach [] X.env := by rfl) (hpl : (backTo pos (starEach [] X.env)).any (fun z => z.1) = false := by rfl) : RE ci X (.Call (.Name "list" p) [e] [] pos) (wListN ws) := fun F ex xo T Γ S σ H Q r q => by
  refine wpX_of (pe_callTy call_list_of hg hm (by decide +kernel) pa_wp (by decide) (by decide) he hpl) (wpA_mono (ha F ex xo T Γ S σ H _ r q) fun vs H' ⟨as, S1, hz, hn, r1, a, l, ea, e1, q1⟩ => ?_)
  subst ea
  match vs, hz with
  | [v], _ =>
    obtain ⟨ρ, r2⟩ := r1
    obtain ⟨p, ys, rfl, hq, R⟩ := r2.viewQ (r2.top (a := a) (v := v) (by simp)) e1
    exact ⟨p, ys, rfl, hq, fun p2 hp => ⟨_, _, (r2.newLM hp (AReps.ofData R)).drop drop2, q1⟩⟩
end
end LP
namespace LP
open PySem PySem.Spec PyProof.Rows L2
structure MakeM (P : Program) (w : World) (K : PySem.W.Frag) (mg : Str → Option Value) (base : Heap) (ci : Ci) (k : Nat) (x : Str) (c : Nat) (dfl : List D) (fc : FC) : Prop where
  ex : ∃ (f : Addr) (fd : FuncData) (ps : List Str) (ds : List Value), FnOk P w K mg base (L2.CX P w) k f fd ps (spOf K ci fc) ∧ Mk K (ci c).1 f ∧ mg x = some (.ref (ci c).1) ∧ Binds K fd ps ds ∧ Vals (dfl.map D.v) ds ∧ dfl.all D.flat = true
end LP
set_option maxHeartbeats 2000000
namespace LP
open PySem PySem.Spec PyProof.Rows L2 He
inductive At where
  | fn (p : Str × Option Str)
  | prop (x m : Str)
  | stat (x m : Str)
/-- a property's getter -/
def gAd (K : PySem.W.Frag) (x m : Str) : Addr := match PySem.W.recIn K (ma K (ga K x) m) "property" with
  | some (.ref g :: _) => g
  | _ => 0
/-- a static method's def -/
def sAd (K : PySem.W.Frag) (x m : Str) : Addr := match PySem.W.recIn K (ma K (ga K x) m) "staticmethod" with
  | some (.ref g :: _) => g
  | _ => 0
def At.ad (K : PySem.W.Frag) : At → Addr
  | .fn p => fAd K p
  | .prop x m => gAd K x m
  | .stat x m => sAd K x m
structure DefE where
  at_ : At
  name : Str
  qual : Str
  params : Arguments
  body : List Stmt
  scope : Scope
  dfl : List Dv := []
  /-- it says super(): its closure is the class's cell -/
  sup : Bool := false
def fnE (K : PySem.W.Frag) (a : Addr) : FnW := match K.lookup a with
  | some ⟨_, _, .func fd, _⟩ => some (fd.name, fd.qualname, fd.params, fd.body, fd.scope, fd.globals, fd.closure.map fun q => (q.1, 0), fd.builtins)
  | _ => none
def DefE.val (d : DefE) : FnW := some (d.name, d.qual, d.params, .stmts d.body, d.scope, mainGlobals, (if d.sup = true then [("__class__", 0)] else []), builtinsNs)
def DefE.dvs (K : PySem.W.Frag) (d : DefE) : List V := d.dfl.map (Dv.v K)
def DefE.ok (K : PySem.W.Frag) (d : DefE) : Bool := PySem.W.keepIn K (.ref (d.at_.ad K)) && (match K.lookup (d.at_.ad K) with
  | some ⟨_, _, .func fd, _⟩ => PySem.W.codeIn K fd.code d.qual && dflB K fd.defaults (d.dvs K)
  | _ => false)
theorem DefE.funD {K : PySem.W.Frag} {d : DefE} (hs : d.sup = false) (e : fnE K (d.at_.ad K) = d.val) (c : d.ok K = true) : ∃ fd, FunD K d.name d.qual d.params d.body d.scope (d.dvs K) [] (d.at_.ad K) fd := by
  obtain ⟨kp, c2⟩ := ba c
  unfold fnE at e
  cases q : K.lookup (d.at_.ad K) with
  | none =>
    rw [q] at c2
    cases c2
  | some o =>
    obtain ⟨oc, od, dt, osl⟩ := o
    rw [q] at c2 e
    cases dt with
    | func fd =>
      obtain ⟨n1, n2, n3, n4, n5, n6, n7, n8, n9, n10, n11, n12, n13, n14, n15⟩ := fd
      have e2 : (some (n1, n2, n3, n4, n5, n6, n7.map (fun q => (q.1, 0)), n15) : FnW) = some (d.name, d.qual, d.params, .stmts d.body, d.scope, mainGlobals, [], builtinsNs) := by
        have e3 : (some (n1, n2, n3, n4, n5, n6, n7.map (fun q => (q.1, 0)), n15) : FnW) = d.val := e
        rw [e3]
        unfold DefE.val
        rw [hs]
        rfl
      simp only [Option.some.injEq, Prod.mk.injEq] at e2
      obtain ⟨h1, h2, h3, h4, h5, h6, h7, h8⟩ := e2
      have h7 := List.map_eq_nil_iff.mp h7
      subst h1 h2 h3 h4 h5 h6 h7 h8
      have c3 : (PySem.W.codeIn K n13 d.qual && dflB K n8 (d.dvs K)) = true := c2
      obtain ⟨k1, k2⟩ := ba c3
      exact ⟨_, ⟨oc, od, n8, n9, n10, n11, n12, n13, n14, osl, rfl, q, k1, dflB_ok k2, .inl rfl⟩, kp⟩
    | _ => cases c2
def propB (K : PySem.W.Frag) (x m : Str) : Bool := eqO (PySem.W.findIn K (.ref (ga K x)) m) (some (some (.ref (ma K (ga K x) m)))) && (decide (PySem.W.specialIn K (.ref (ma K (ga K x) m)) "__get__" = some (some (.builtin "property.__get__"))) && (decide (PySem.W.takesIn K (.ref (ma K (ga K x) m)) = some true) && (match PySem.W.recIn K (ma K (ga K x) m) "property" with
  | some (.ref _ :: _) => true
  | _ => false)))
theorem propB_ok {K : PySem.W.Frag} {x m : Str} (h : propB K x m = true) : PropOf K (ga K x) m (ma K (ga K x) m) (gAd K x m) := by
  obtain ⟨h1, h⟩ := ba h
  obtain ⟨h2, h⟩ := ba h
  obtain ⟨h3, h4⟩ := ba h
  refine ⟨eqO_ok h1, of_decide_eq_true h2, of_decide_eq_true h3, ?_⟩
  unfold gAd
  split at h4
  · rename_i g rest e
    rw [e]
    exact ⟨rest, rfl⟩
  · cases h4
inductive FaE where
  | fa (f : Fa)
  | prop (x m : Str)
  | ex (b : PySem.W.Frag → Bool)
def FaE.ok (K : PySem.W.Frag) : FaE → Bool
  | .fa f => f.ok K
  | .prop x m => propB K x m
  | .ex b => b K
def obsE (fa : List FaE) (fn : List DefE) (K : PySem.W.Frag) : AlD := ((fa.all fun f => f.ok K) && fn.all fun d => d.ok K, fn.map fun d => fnE K (d.at_.ad K))
def valE (fn : List DefE) : AlD := (true, fn.map DefE.val)
def SaysE (fa : List FaE) (fn : List DefE) (K : PySem.W.Frag) : Prop := obsE fa fn K = valE fn
section
variable {fa : List FaE} {fn : List DefE} {K : PySem.W.Frag}
theorem SaysE.fact (c : SaysE fa fn K) (i : Nat) {f : FaE} (h : fa[i]? = some f := by rfl) : f.ok K = true := by
  have c1 := (ba (show ((fa.all fun f => f.ok K) && fn.all fun d => d.ok K) = true from congrArg (fun z : AlD => z.1) c)).1
  exact List.all_eq_true.mp c1 f (List.mem_of_getElem? h)
theorem SaysE.def_ (c : SaysE fa fn K) (i : Nat) {d : DefE} (h : fn[i]? = some d := by rfl) (hs : d.sup = false := by rfl) : ∃ fd, FunD K d.name d.qual d.params d.body d.scope (d.dvs K) [] (d.at_.ad K) fd := by
  have c2 := (ba (show ((fa.all fun f => f.ok K) && fn.all fun d => d.ok K) = true from congrArg (fun z : AlD => z.1) c)).2
  have e : fn.map (fun d => fnE K (d.at_.ad K)) = fn.map DefE.val := congrArg (fun z : AlD => z.2) c
  have e2 : (fn.map fun d => fnE K (d.at_.ad K))[i]? = (fn.map DefE.val)[i]? := by rw [e]
  rw [List.getElem?_map, List.getElem?_map, h] at e2
  exact DefE.funD hs (Option.some.inj e2) (List.all_eq_true.mp c2 d (List.mem_of_getElem? h))
theorem SaysE.raw (c : SaysE fa fn K) (i : Nat) {d : DefE} (h : fn[i]? = some d := by rfl) : fnE K (d.at_.ad K) = d.val ∧ d.ok K = true := by
  have c2 := (ba (show ((fa.all fun f => f.ok K) && fn.all fun d => d.ok K) = true from congrArg (fun z : AlD => z.1) c)).2
  have e : fn.map (fun d => fnE K (d.at_.ad K)) = fn.map DefE.val := congrArg (fun z : AlD => z.2) c
  have e2 : (fn.map fun d => fnE K (d.at_.ad K))[i]? = (fn.map DefE.val)[i]? := by rw [e]
  rw [List.getElem?_map, List.getElem?_map, h] at e2
  exact ⟨Option.some.inj e2, List.all_eq_true.mp c2 d (List.mem_of_getElem? h)⟩
end
end LP
namespace LP
open PySem PySem.Spec PyProof.Rows L2
theorem app_S (a b : Str) : a ++ b = SX.S (a.cps.toList ++ b.cps.toList) := by
  rw [← SX.S_cat, SX.S_tl, SX.S_tl]
theorem app_len (a b : Str) : (a ++ b).length = a.length + b.length := by
  rw [app_S, SX.S_len, List.length_append, ← SX.S_len, ← SX.S_len, SX.S_tl, SX.S_tl]
theorem empty_app (a : Str) : Str.empty ++ a = a := by
  rw [← SX.S_tl a]
  show SX.S [] ++ SX.S _ = _
  rw [SX.S_cat, List.nil_append]
def glued : Str → List Str → Str
  | acc, [] => acc
  | acc, s :: r => glued (acc ++ s) r
def evs (Γ : Ga) (S : So) : List QF → Option (List Str)
  | [] => some []
  | f :: fs => (f Γ S).bind fun a => match a with
    | .d (.str s) => (evs Γ S fs).map (s :: ·)
    | _ => none
theorem glue_of {Γ : Ga} {S : So} : ∀ {fs : List QF} {ss : List Str} {acc : Str}, evs Γ S fs = some ss → acc.length + (ss.map (·.length)).sum ≤ sizeLine → glue Γ S acc fs = some (glued acc ss)
  | [], ss, acc, h, _ => by cases h; rfl
  | f :: fs, ss, acc, h, hl => by
    unfold evs at h
    cases e1 : f Γ S with
    | none => rw [e1] at h; cases h
    | some a =>
      rw [e1, Option.bind_some] at h
      split at h
      · rename_i s
        cases e2 : evs Γ S fs with
        | none => rw [e2] at h; cases h
        | some r =>
          rw [e2] at h; cases h
          simp only [List.map_cons, List.sum_cons] at hl
          unfold glue
          rw [e1, Option.bind_some]
          dsimp only
          rw [if_pos (by rw [app_len]; omega), glue_of e2 (by rw [app_len]; omega)]
          rfl
      · cases h
theorem fJoin_of {Γ : Ga} {S : So} {fs : List QF} {ss : List Str} (h : evs Γ S fs = some ss) (hl : (ss.map (·.length)).sum ≤ sizeLine) : fJoin fs Γ S = some (.d (.str (glued Str.empty ss))) := by
  unfold fJoin
  rw [glue_of h (by rw [show Str.empty.length = 0 by rfl]; omega)]
  rfl
end LP
set_option maxHeartbeats 2000000
namespace LP
open PySem PySem.Spec PyProof.Rows L2
section
variable {ci : Ci} {X : Cx}
abbrev gFdivW := gI (fun _ j => decide (0 < j ∧ j < 18446744073709551616)) fun i j => .int (i / j)
theorem o_fdivW : OpG ci X (binaryOp .FloorDiv) gFdivW := ⟨_, op_fdivW, fun F T Γ S σ H x y a b d r hx hy e Q k => by
  obtain ⟨i, j, rfl, rfl, hp, rfl⟩ := gi_some e
  have hp := of_decide_eq_true hp
  exact ⟨_, _, r.asInt hx, r.asInt hy, wide_div (b := 64) hp.1 (by omega) (by decide) (by decide), k _ _ (r.int _)⟩⟩
end
section
open PySem.Builtin
variable {prog : Program} {w : World} {A : Around} {E : Value → Shared → Prop} {s : Shared}
theorem sorted_any {l : Addr} {T : String} {o : Obj} {vs : List Value} {n d : Nat} {B : Int} {Q : Value → Shared → Prop} (hT : T = "list" ∨ T = "tuple") (ho : s.heap.get? l = some o) (hc : o.cls = .type T) (hdt : o.data = .seq vs.toArray n) (h64 : vs.length < 64) (hd : 1 ≤ d) (x : TS.TupsOk s.heap d B vs)
    (h : ∀ (h1 h' : Heap) (out : Array Value) (p : Addr) (m : Nat), (∀ b u, s.heap.get? b = some u → h1.get? b = some u) → (∀ b u, h1.get? b = some u → h'.get? b = some u) → h1.objs.size ≤ p → h'.get? p = some (seqObj "list" out m) → out.toList.Perm vs → out.toList.Pairwise (fun u v => TS.code B (TS.intsOf s.heap u) ≤ TS.code B (TS.intsOf s.heap v)) → Q (.ref p) { s with heap := h' }) :
    wpAny (model prog w) A (call (.builtin "sorted") [.ref l]) Q E s := by
  refine Calls.call_function_entry kind_sorted plain_sorted entry_sorted (args_sorted1 _) ?_
  unfold Builtin.«sorted»
  refine wpAny_bind (m := checkCount "sorted" 1 1 _) (wpAny_pure ?_)
  refine wpAny_bind (wpAny_collect_seq l hT ho hc hdt (fun h' hk => ?_) (by rw [List.size_toArray, sizeLine_eq]; omega))
  refine wpAny_bind (wpAny_newList ?_ (by rw [List.size_toArray.symm, sizeLine_eq]; simp; omega))
  have hoL : (h'.push (seqObj "list" vs.toArray 0)).get? h'.objs.size = some (seqObj "list" vs.toArray 0) := Heap.get?_push_size _ rfl
  have keep : ∀ b u, s.heap.get? b = some u → u.cls = .type "tuple" → (h'.push (seqObj "list" vs.toArray 0)).get? b = some u := fun b u q _ => Heap.get?_push_of_some _ (hk b u q)
  show wpAny _ _ _ _ _ { s with heap := h'.push (seqObj "list" vs.toArray 0) }
  refine wpAny_bind (wpAny_holding (wpAny_call_entry slot_list_sort ⟨_, hoL, rfl⟩ entry_list_sort (TS.sort_tups hoL h64 hd (x.keeps keep) (fun v => TS.code B (TS.intsOf s.heap v)) (fun v hv ns t => ?_) fun out a1 a2 => ⟨_, rfl, ?_⟩) (args_list_sort _)))
  · obtain ⟨ns0, t0, _⟩ := x v hv
    have e : ns = ns0 := t.ints.symm.trans (t0.keeps keep).ints
    rw [e]
    show TS.code B (TS.intsOf s.heap v) = TS.code B ns0
    rw [t0.ints]
  · obtain ⟨m, hm⟩ := sortedHeap_at (out := out) hoL
    refine wpAny_pure ⟨_, rfl, h h' _ out _ m hk (fun b u q => ?_) (Nat.le_refl _) hm a1 a2⟩
    have hlt := Heap.lt_size q
    rw [sortedHeap_old (Nat.ne_of_lt hlt) (by rw [Heap.size_push]; exact Nat.lt_succ_of_lt hlt)]
    exact Heap.get?_push_of_some _ q
end
section
variable {X : Cx}
/-- sorted(xs) of fewer than 64 tuples of d ints in [0, B), in a list or a tuple -/
def rSortQ (K : PySem.W.Frag) (d : Nat) (B : Int) : List V → Hp → VK → Prop := fun vs H Q => ∃ (a : Addr) (xs : List V), vs = [V.ref a] ∧ (SqL K H a xs ∨ SqT K H a xs) ∧ xs.length < 64 ∧ (∀ x ∈ xs, ∃ ns, TupI K H x ns ∧ ns.length = d ∧ TS.Bd B ns) ∧
  ∀ (ys : List V) (p : Addr), ys.Perm xs → ys.Pairwise (fun x y => ∀ n m, TupI K H x n → TupI K H y m → TS.code B n ≤ TS.code B m) → H p = none → Q (.ref p) (upd H p (.lst ys))
theorem cr_sortQ {d : Nat} {B : Int} (hd : 1 ≤ d) : CallR X (.builtin "sorted") (rSortQ X.K d B) := by
  intro pins s σ H vs us Q I r h
  obtain ⟨a, xs, rfl, hs, h64, hx, q⟩ := h
  rw [Vals.ref1 r]
  have hs' : ∃ (its : List Value) (o : Obj) (n : Nat) (T : String), Vals xs its ∧ s.heap.get? a = some o ∧ o.cls = .type T ∧ o.data = .seq its.toArray n ∧ (T = "list" ∨ T = "tuple") := by
    rcases hs with hs | hs
    · obtain ⟨its, rv, hl, hz⟩ := I.list hs
      obtain ⟨o, ho, hc, n, hdt⟩ := hl.isList
      exact ⟨its, o, n, "list", rv, ho, hc, hdt, .inl rfl⟩
    · obtain ⟨its, rv, ⟨o, ho, hc, n, hdt⟩, hz⟩ := I.tuple hs
      exact ⟨its, o, n, "tuple", rv, ho, hc, hdt, .inr rfl⟩
  obtain ⟨its, o, n, T, rv, ho, hc, hdt, hT⟩ := hs'
  obtain ⟨e1, e2⟩ := bkV_refs rv fun x m => by
    obtain ⟨ns, ⟨t, e, _⟩, _⟩ := hx x m
    exact ⟨t, e⟩
  refine sorted_any (d := d) (B := B) hT ho hc hdt (by rw [← rv.length]; exact h64) hd (fun v hv => ?_) fun h1 h' out p m k1 k2 hp hm p1 p2 => ?_
  · obtain ⟨t, rfl⟩ := e2 v hv
    have hm : V.ref t ∈ xs := by
      rw [e1]
      exact List.mem_map.mpr ⟨_, hv, rfl⟩
    obtain ⟨ns, ⟨t', e, ht⟩, hn, hb⟩ := hx _ hm
    cases e
    exact ⟨ns, tupI_raw I ht, hn, hb⟩
  · have h3 : ∀ u ∈ out.toList, ∃ a, u = Value.ref a := fun u hu => e2 u (p1.mem_iff.mp hu)
    have hpm : (out.toList.map bkV).Perm xs := by
      rw [e1]
      exact p1.map bkV
    have hlen : (out.toList.map bkV).length ≤ sizeLine := by
      rw [hpm.length_eq, sizeLine_eq]
      omega
    have I1 := I.kept (t' := s.toks) k1
    have J := I1.laid (t' := s.toks) (a := p) (o := .lst (out.toList.map bkV)) k2 hp ⟨hlen, out.toList, m, bkV_vals h3, by simpa [seqObj] using hm⟩
    refine ⟨.ref _, _, J, rfl, q _ _ hpm ?_ (I1.hok.fresh hp)⟩
    rw [List.pairwise_map]
    refine List.Pairwise.imp (fun {u v} huv n m hn hm => ?_) p2
    obtain ⟨t, et, ht⟩ := hn
    obtain ⟨t', et', ht'⟩ := hm
    have eu := bkV_ref et
    have ev := bkV_ref et'
    have i1 : TS.intsOf s.heap u = n := by
      rw [eu]
      exact (tupI_raw I ht).ints
    have i2 : TS.intsOf s.heap v = m := by
      rw [ev]
      exact (tupI_raw I ht').ints
    rw [← i1, ← i2]
    exact huv
end
end LP
set_option maxHeartbeats 2000000
namespace LP
open PySem PySem.Spec PyProof.Rows L2
abbrev PZ := Int × Int
def pzD (p : PZ) : D := .tup [.int p.1, .int p.2]
def unpair : D → Option PZ
  | .tup [.int a, .int b] => some (a, b)
  | _ => none
def pairsOf : List D → Option (List PZ)
  | [] => some []
  | d :: r => (unpair d).bind fun p => (pairsOf r).map (p :: ·)
theorem unpair_some {d : D} {p : PZ} (h : unpair d = some p) : d = pzD p := by
  unfold unpair at h
  split at h
  · cases h; rfl
  · cases h
theorem pairsOf_some : ∀ {l : List D} {ps : List PZ}, pairsOf l = some ps → l = ps.map pzD
  | [], ps, h => by cases h; rfl
  | d :: r, ps, h => by
    unfold pairsOf at h
    cases e1 : unpair d with
    | none => rw [e1] at h; cases h
    | some p =>
      cases e2 : pairsOf r with
      | none => rw [e1, e2] at h; cases h
      | some q =>
        rw [e1, e2] at h; cases h
        rw [List.map_cons, unpair_some e1, pairsOf_some e2]
theorem pairsOf_map : ∀ ps : List PZ, pairsOf (ps.map pzD) = some ps
  | [] => rfl
  | p :: ps => by rw [List.map_cons, pairsOf, pairsOf_map ps]; rfl
def leP (p q : PZ) : Bool := decide (p.1 < q.1) || (decide (p.1 = q.1) && decide (p.2 ≤ q.2))
theorem leP_iff {p q : PZ} : leP p q = true ↔ p.1 < q.1 ∨ (p.1 = q.1 ∧ p.2 ≤ q.2) := by
  simp [leP]
def insP (p : PZ) : List PZ → List PZ
  | [] => [p]
  | q :: r => if leP p q = true then p :: q :: r else q :: insP p r
def sortP : List PZ → List PZ
  | [] => []
  | p :: r => insP p (sortP r)
theorem insP_perm (p : PZ) : ∀ l, (insP p l).Perm (p :: l)
  | [] => List.Perm.refl _
  | q :: r => by
    unfold insP
    split
    · exact List.Perm.refl _
    · exact ((insP_perm p r).cons q).trans (List.Perm.swap p q r)
theorem sortP_perm : ∀ l, (sortP l).Perm l
  | [] => List.Perm.refl _
  | p :: r => (insP_perm p _).trans ((sortP_perm r).cons p)
theorem insP_srt (p : PZ) : ∀ {l : List PZ}, l.Pairwise (fun a b => leP a b = true) → (insP p l).Pairwise fun a b => leP a b = true
  | [], _ => List.pairwise_singleton _ _
  | q :: r, h => by
    obtain ⟨h1, h2⟩ := List.pairwise_cons.mp h
    unfold insP
    split
    · rename_i c
      refine List.pairwise_cons.mpr ⟨fun x hx => ?_, h⟩
      rcases List.mem_cons.mp hx with rfl | hx
      · exact c
      · have a := leP_iff.mp c
        have b := leP_iff.mp (h1 x hx)
        rw [leP_iff]
        omega
    · rename_i c
      refine List.pairwise_cons.mpr ⟨fun x hx => ?_, insP_srt p h2⟩
      rcases List.mem_cons.mp ((insP_perm p r).mem_iff.mp hx) with rfl | hx
      · have a : ¬ (x.1 < q.1 ∨ (x.1 = q.1 ∧ x.2 ≤ q.2)) := fun z => c (leP_iff.mpr z)
        rw [leP_iff]
        omega
      · exact h1 x hx
theorem sortP_srt : ∀ l, (sortP l).Pairwise fun a b => leP a b = true
  | [] => .nil
  | p :: r => insP_srt p (sortP_srt r)
theorem sortP_uniq {l m : List PZ} (h : m.Perm l) (hs : m.Pairwise fun a b => leP a b = true) : m = sortP l :=
  List.Perm.eq_of_pairwise (le := fun a b => leP a b = true) (fun a b _ _ h1 h2 => by
    have h1 := leP_iff.mp h1
    have h2 := leP_iff.mp h2
    obtain ⟨a1, a2⟩ := a
    obtain ⟨b1, b2⟩ := b
    simp only at h1 h2
    rw [Prod.mk.injEq]
    omega) hs (sortP_srt l) (h.trans (sortP_perm l).symm)
section
variable {K : PySem.W.Frag} {ci : Ci} {M : List Addr} {H : Hp}
theorem reps_perm {vs vs' : List V} (h : vs'.Perm vs) : ∀ {ds : List D}, Reps K ci M H ds vs → ∃ ds', ds'.Perm ds ∧ Reps K ci M H ds' vs' := by
  induction h with
  | nil => intro ds r; exact ⟨ds, .refl _, r⟩
  | cons x _ ih =>
    intro ds r
    cases ds with
    | nil => rw [Reps] at r; cases r
    | cons d ds =>
      rw [Reps] at r
      obtain ⟨v, rr, e, r1, r2⟩ := r
      cases e
      obtain ⟨ds', p, r3⟩ := ih r2
      exact ⟨d :: ds', p.cons d, .cons r1 r3⟩
  | swap x y l =>
    intro ds r
    cases ds with
    | nil => rw [Reps] at r; cases r
    | cons d ds =>
      rw [Reps] at r
      obtain ⟨v, rr, e, r1, r2⟩ := r
      cases e
      cases ds with
      | nil => rw [Reps] at r2; cases r2
      | cons d2 ds =>
        rw [Reps] at r2
        obtain ⟨v2, rr2, e, r3, r4⟩ := r2
        cases e
        exact ⟨d2 :: d :: ds, .swap d d2 ds, .cons r3 (.cons r1 r4)⟩
  | trans _ _ ih1 ih2 =>
    intro ds r
    obtain ⟨d1, p1, r1⟩ := ih2 r
    obtain ⟨d2, p2, r2⟩ := ih1 r1
    exact ⟨d2, p2.trans p1, r2⟩
theorem rep_pair {p : PZ} {v : V} (r : Rep K ci M H (pzD p) v) : TupI K H v [p.1, p.2] := by
  unfold pzD at r
  rw [Rep] at r
  obtain ⟨t, vs, rfl, h, rs⟩ := r
  rw [Reps] at rs
  obtain ⟨v1, r1, rfl, q1, rs⟩ := rs
  rw [Reps] at rs
  obtain ⟨v2, r2, rfl, q2, rs⟩ := rs
  rw [Reps] at rs
  subst rs
  rw [Rep] at q1 q2
  subst q1 q2
  refine ⟨t, rfl, sqt_iff.mpr ?_⟩
  exact h.imp (fun z => z.1) id
theorem reps_mem {d : D} : ∀ {ds : List D} {vs : List V}, Reps K ci M H ds vs → d ∈ ds → ∃ v ∈ vs, Rep K ci M H d v
  | [], vs, r, h => by cases h
  | x :: ds, vs, r, h => by
    rw [Reps] at r
    obtain ⟨v, rr, rfl, r1, r2⟩ := r
    rcases List.mem_cons.mp h with rfl | h
    · exact ⟨v, List.mem_cons_self, r1⟩
    · obtain ⟨u, hu, q⟩ := reps_mem r2 h
      exact ⟨u, List.mem_cons_of_mem _ hu, q⟩
theorem reps_back {v : V} : ∀ {ds : List D} {vs : List V}, Reps K ci M H ds vs → v ∈ vs → ∃ d ∈ ds, Rep K ci M H d v
  | [], vs, r, h => by rw [Reps] at r; subst r; cases h
  | x :: ds, vs, r, h => by
    rw [Reps] at r
    obtain ⟨u, rr, rfl, r1, r2⟩ := r
    rcases List.mem_cons.mp h with rfl | h
    · exact ⟨x, List.mem_cons_self, r1⟩
    · obtain ⟨d, hd, q⟩ := reps_back r2 h
      exact ⟨d, List.mem_cons_of_mem _ hd, q⟩
abbrev BIG : Int := 4611686018427387904
def inB (p : PZ) : Bool := decide (0 ≤ p.1 ∧ p.1 < BIG) && decide (0 ≤ p.2 ∧ p.2 < BIG)
theorem code_two (x y : Int) : TS.code BIG [x, y] = x * BIG + y := by
  have e1 : (BIG : Int) ^ 1 = BIG := by decide
  have e0 : (BIG : Int) ^ 0 = 1 := by decide
  show x * BIG ^ 1 + (y * BIG ^ 0 + 0) = x * BIG + y
  rw [e1, e0, Int.mul_one, Int.add_zero]
theorem pairs_srt : ∀ {ps : List PZ} {vs : List V}, Reps K ci M H (ps.map pzD) vs → (∀ p ∈ ps, inB p = true) → vs.Pairwise (fun x y => ∀ n m, TupI K H x n → TupI K H y m → TS.code BIG n ≤ TS.code BIG m) → ps.Pairwise fun a b => leP a b = true
  | [], _, _, _, _ => .nil
  | p :: ps, vs, r, hb, hp => by
    rw [List.map_cons, Reps] at r
    obtain ⟨v, rr, rfl, r1, r2⟩ := r
    obtain ⟨h1, h2⟩ := List.pairwise_cons.mp hp
    refine List.pairwise_cons.mpr ⟨fun q hq => ?_, pairs_srt r2 (fun q hq => hb q (List.mem_cons_of_mem _ hq)) h2⟩
    obtain ⟨u, hu, ru⟩ := reps_mem r2 (List.mem_map.mpr ⟨q, hq, rfl⟩)
    have c := h1 u hu _ _ (rep_pair r1) (rep_pair ru)
    rw [code_two, code_two] at c
    have b1 := hb p List.mem_cons_self
    have b2 := hb q (List.mem_cons_of_mem _ hq)
    simp only [inB, Bool.and_eq_true, decide_eq_true_eq] at b1 b2
    rw [leP_iff]
    simp only [BIG] at *
    omega
end
def gSortP (S : So) : List A → Option D
  | [a] => (viewQ S a).bind fun l => (pairsOf l).bind fun ps => if ps.length < 64 ∧ ps.all inB = true then some (.lst ((sortP ps).map pzD)) else none
  | _ => none
section
variable {ci : Ci} {X : Cx}
theorem c_sortP : CallG ci X (.builtin "sorted") gSortP := ⟨_, cr_sortQ (d := 2) (B := BIG) (by decide), fun F T Γ S σ H as vs d r hl hT e Q k => by
  unfold gSortP at e
  split at e
  · rename_i a
    obtain ⟨v, rfl, hv⟩ := as1 (F := F) hl hT
    cases e1 : viewQ S a with
    | none => rw [e1] at e; cases e
    | some l =>
      cases e2 : pairsOf l with
      | none => rw [e1, Option.bind_some, e2] at e; cases e
      | some ps =>
        rw [e1, Option.bind_some, e2, Option.bind_some] at e
        split at e
        · rename_i hc
          cases e
          obtain ⟨ρ, r⟩ := r
          obtain ⟨p, ys, rfl, hq, R⟩ := r.viewQ (r.top hv) e1
          rw [pairsOf_some e2] at R
          have hin : ∀ p ∈ ps, inB p = true := List.all_eq_true.mp hc.2
          refine ⟨p, ys, rfl, hq, by rw [← R.length, List.length_map]; exact hc.1, fun x hx => ?_, fun zs q hz ho hq0 => ?_⟩
          · obtain ⟨d, hd, rd⟩ := reps_back R hx
            obtain ⟨pp, hpp, rfl⟩ := List.mem_map.mp hd
            have hb := hin pp hpp
            simp only [inB, Bool.and_eq_true, decide_eq_true_eq] at hb
            refine ⟨_, rep_pair rd, rfl, fun m hm => ?_⟩
            simp only [List.mem_cons, List.not_mem_nil, or_false] at hm
            rcases hm with rfl | rfl
            · exact hb.1
            · exact hb.2
          · obtain ⟨ds, hd, R2⟩ := reps_perm hz R
            have e3 : ds = (ds.filterMap unpair).map pzD := by
              rw [List.map_filterMap]
              have : ∀ x ∈ ds, (unpair x).map pzD = some x := fun x hx => by
                obtain ⟨pp, _, rfl⟩ := List.mem_map.mp (hd.mem_iff.mp hx)
                rfl
              clear hd R2
              induction ds with
              | nil => rfl
              | cons x ds ih =>
                rw [List.filterMap_cons, this x List.mem_cons_self, ← ih fun y hy => this y (List.mem_cons_of_mem _ hy)]
            have e4 : (ds.filterMap unpair).Perm ps := by
              have := hd.filterMap unpair
              have e5 : (ps.map pzD).filterMap unpair = ps := by
                rw [List.filterMap_map]
                exact List.filterMap_some
              rw [e5] at this
              exact this
            rw [e3] at R2
            have e6 := pairs_srt R2 (fun q hq => hin q (e4.mem_iff.mp hq)) ho
            rw [sortP_uniq e4 e6] at R2
            exact k _ _ ⟨ρ, r.newL hq0 R2⟩
        · cases e
  · cases e⟩
end
end LP
set_option maxHeartbeats 2000000
namespace LP
open PySem PySem.Spec PyProof.Rows L2
section
variable {P : Program} {w0 : World} {K : PySem.W.Frag} {mg : Str → Option Value} {base : Heap} {ci : Ci} {x qual : Str} {params : Arguments} {body : List Stmt} {scope : Scope} {dvs : List V} {kws : List (Str × V)} {f : Addr} {fd : FuncData} {N ps : List Str} {k : Nat}
theorem bodyI {c : Nat} {G : PI'} {w : WS} (hb : Body P w0 K mg base ci N qual scope f k body w)
    (hv : ∀ ds o, G ds = some o → w (stG N (.loc 0 :: ds.map A.d)) [.ins c []] { nx := fun _ S' => ∃ fs, o = .ok fs ∧ S'[0]? = some (.ins c (fs.map A.d)), rt := fun a S' => a = .d .non ∧ ∃ fs, o = .ok fs ∧ S'[0]? = some (.ins c (fs.map A.d)), ex := fun er _ => o = .error er }) :
    ∀ (cdv : Value) (A0 : Around) (outer : List Env) (s : Shared) (H : Hp) (vs : List V) (Q : VK) (E : XK), Room k (A0.deeper (envOfC qual scope s.heap.objs.size f cdv)) → spI K ci c G vs H Q E →
      ∃ t, PSs (cxOf (L2.CX P w0) P w0 K mg base N qual scope f cdv A0 outer s H E) body t ∧ t { nx := fun _ H' => Q .non H', rt := Q } (L2.start N vs) H := by
  intro cdv A0 outer s H vs Q E hr h
  obtain ⟨p, ds, vs', ex, o, rfl, h1, h2, h3, h4⟩ := h
  have tk : Takes (cxD P w0 K mg base N qual scope f cdv A0 outer s H E) (fun cls d _ H => E cls d H) := takes_of rfl rfl rfl rfl
  refine ⟨_, pss_wp, ?_⟩
  have h2' : RelR (⟨H, [p], [p], ex⟩ : Fr K ci) [p] ((A.loc 0 :: ds.map A.d).zip (V.ref p :: vs')) [] [.ins c []] [] H := h2.push (a := .loc 0) (v := .ref p) ⟨p, rfl, rfl⟩
  have r0 := rel_start (N := N) h2' (by simp [h1])
  cases o with
  | ok fs =>
    have xo : Xok (cxD P w0 K mg base N qual scope f cdv A0 outer s H E) (⟨H, [p], [p], ex⟩ : Fr K ci) (fun er _ => (Except.ok fs : Except Er (List D)) = .error er) := tk.imp fun c dd σ H' ⟨er, S, ρ, _, _, z⟩ => by cases z
    have := hb cdv A0 outer s H E hr _ _ xo [] _ _ _ H ⟨[p], r0⟩ (hv ds _ h3)
    refine fun pins s' I => thn (this pins s' I) fun fl s2 z => ?_
    cases fl with
    | next =>
      obtain ⟨σ', H', I', Γ', S', r', fs', e, e2⟩ := z
      cases e
      exact ⟨σ', H', I', h4 _ ⟨S', r'.bare, e2⟩⟩
    | ret u =>
      obtain ⟨v, σ', H', I', rv, a, S', r', e0, fs', e1, e2⟩ := z
      cases e1
      subst e0
      have hv : v = .non := r'.asNon List.mem_cons_self
      subst hv
      exact ⟨_, σ', H', I', rv, h4 _ ⟨S', r'.tail, e2⟩⟩
    | brk => obtain ⟨_, _, _, _, _, _, z⟩ := z; exact z.elim
    | cont => obtain ⟨_, _, _, _, _, _, z⟩ := z; exact z.elim
  | error er =>
    have xo : Xok (cxD P w0 K mg base N qual scope f cdv A0 outer s H E) (⟨H, [p], [p], ex⟩ : Fr K ci) (fun er' _ => (Except.error er : Except Er (List D)) = .error er') := tk.imp fun c dd σ H' ⟨er', S, ρ, r', e', z⟩ => by
      cases z
      exact h4 _ _ _ ⟨S, ρ, r', e'⟩
    have := hb cdv A0 outer s H E hr _ _ xo [] _ _ _ H ⟨[p], r0⟩ (hv ds _ h3)
    refine fun pins s' I => thn (this pins s' I) fun fl s2 z => ?_
    cases fl with
    | next => obtain ⟨_, _, _, _, _, _, _, z, _⟩ := z; cases z
    | ret u => obtain ⟨_, _, _, _, _, _, _, _, _, _, z, _⟩ := z; cases z
    | brk => obtain ⟨_, _, _, _, _, _, z⟩ := z; exact z.elim
    | cont => obtain ⟨_, _, _, _, _, _, z⟩ := z; exact z.elim
def packI (G : PI') : PI' := fun ds => if ds.length ≤ 1000 then G [.tup ds] else none
theorem star_I {c : Nat} {G : PI'} {vs : List V} {H : Hp} {Q : VK} {E : XK} (h : spI K ci c (packI G) vs H Q E) :
    ∃ ws rest, vs = ws ++ rest ∧ ws.length = 1 ∧ rest.length ≤ sizeLine ∧ ∀ p, H p = Option.none → spI K ci c G (ws ++ [V.ref p]) (upd H p (.tup rest)) Q E := by
  obtain ⟨p, ds, vs', ex, o, rfl, h1, h2, h3, h4⟩ := h
  unfold packI at h3
  split at h3
  · rename_i hl
    refine ⟨[.ref p], vs', rfl, rfl, by rw [← h1, sizeLine_eq]; omega, fun q hq => ?_⟩
    have r2 := h2.newT hq (reps_of h2 h1 fun z hz => hz)
    have r3 := (r2.drop (T' := [(.d (.tup ds), .ref q)]) fun z hz => by simp at hz; simp [hz])
    have r4 := r3.here
    refine ⟨p, [.tup ds], [.ref q], ex, o, rfl, rfl, r4, h3, ?_⟩
    cases o with
    | ok fs =>
      rintro H' ⟨S', ⟨ρ', q'⟩, e⟩
      exact h4 H' ⟨S', ⟨ρ', (r3.after q').drop fun z hz => by cases hz⟩, e⟩
    | error er =>
      rintro cls dd H' ⟨S', ρ', q', e⟩
      exact h4 cls dd H' ⟨S', ρ', r3.there q', e⟩
  · cases h3
end
end LP
set_option maxHeartbeats 2000000
namespace LP
open PySem PySem.Spec PyProof.Rows L2 StX
section
variable {P : Program} {w0 : World} {K : PySem.W.Frag} {mg : Str → Option Value} {base : Heap} {ci : Ci} {x qual : Str} {params : Arguments} {body : List Stmt} {scope : Scope} {f : Addr} {fd : FuncData} {N ps : List Str} {k : Nat}
theorem fnSI {c : Nat} {pv : Str} {G : PI'} {w : WS} (F : FunD K x qual params body scope [] [] f fd) (sc : FnScope N ((["self"] : List Str) ++ [pv]) scope) (hb : Body P w0 K mg base ci N qual scope f k body w)
    (bnd : ∀ (kV doc pm : Value) (an : Option Addr) (cdv ct : Value) (us rest : List Value), us.length = (["self"] : List Str).length → bindArgs (PySem.W.fnOf x qual params body scope .none kV doc pm an cdv ct) ⟨us ++ rest, []⟩ = (newTuple rest >>= fun t => pure ((["self"] : List Str).zip us ++ [(pv, t)])))
    (hv : ∀ ds o, G ds = some o → w (stG N (.loc 0 :: ds.map A.d)) [.ins c []] { nx := fun _ S' => ∃ fs, o = .ok fs ∧ S'[0]? = some (.ins c (fs.map A.d)), rt := fun a S' => a = .d .non ∧ ∃ fs, o = .ok fs ∧ S'[0]? = some (.ins c (fs.map A.d)), ex := fun er _ => o = .error er }) : FnR P w0 K mg base (L2.CX P w0) (k + 1) f (spI K ci c (packI G)) := by
  obtain ⟨oc, od, dV, kV, doc, pm, an, cdv, ct, osl, rfl, lk, hcd, hD, hK⟩ := F.ex
  rcases hD with ⟨_, rfl⟩ | ⟨e, _⟩
  · refine (fn_star (sp := spI K ci c G) lk hcd sc cxUp (bnd kV doc pm an cdv ct) (bodyI hb hv cdv)).imp fun vs H Q E h => star_I h
  · exact absurd rfl e
end
structure MakeS (P : Program) (w : World) (K : PySem.W.Frag) (mg : Str → Option Value) (base : Heap) (ci : Ci) (k : Nat) (x : Str) (c : Nat) (G : PI') : Prop where
  ex : ∃ (f : Addr), FnR P w K mg base (L2.CX P w) k f (spI K ci c G) ∧ Mk K (ci c).1 f ∧ mg x = some (.ref (ci c).1)
  len : ∀ ds fs, G ds = some (.ok fs) → fs.length = (ci c).2.length
section
variable {X : Cx} {CX : CXT} {k : Nat} {f C : Addr} {sp : Sp} {E : XK} {x : Str} {e : Expr} {te : TE} {p pos sp_ : Pos}
theorem pe_makeR0 (M : Mk X.K C f) (F : FnR X.prog X.w X.K X.mg X.base CX k f sp) (hr : Room (k + 1) X.A) (hg : Gl X x) (hm : X.mg x = some (.ref C)) (hx : Passes CX X E) (hdb : (x == ("__debug__" : Str)) = false := by decide +kernel) : PE X (.Call (.Name x p) [] [] pos) (tMakeR C sp E tNil) := by
  refine ⟨fun pins s σ H Q I h => ?_⟩
  refine wpAny_Call_Name_kw (ld_glob I hg hm ?_ hdb)
  exact PySem.W.callWith_K0 I.kIn M.kp (run_makeR (us := []) M F hr hx I .nil h)
end
section
variable {ci : Ci} {X : Cx}
theorem rp_makeS {k c : Nat} {x : Str} {p pos : Pos} {e : Expr} {es : List Expr} {G : PI'} {fs : QFs} (C : MakeS X.prog X.w X.K X.mg X.base ci k x c G) (hr : Room (k + 1) X.A) (hg : Gl X x) (ha : RPs ci X (e :: es) fs)
    (hdb : (x == ("__debug__" : Str)) = false := by decide +kernel) (he : starEach (e :: es) X.env = (false, eval e X.env) :: starEach es X.env := by rfl) (hpl : (backTo pos (starEach es X.env)).any (·.1) = false := by kernel_rfl) : RP ci X (.Call (.Name x p) (e :: es) [] pos) (fMake c [] G fs) := fun F T Γ S σ H a r q => by
  have : ∃ l d, fs Γ S = some (l.map A.d) ∧ G (l ++ []) = some (.ok d) ∧ a = .d (.ins c d) := by
    unfold fMake at q
    cases e1 : fs Γ S with
    | none => rw [e1] at q; cases q
    | some as =>
      rw [e1, Option.bind_some] at q
      cases e2 : dataOf as with
      | none => rw [e2] at q; cases q
      | some l =>
        rw [e2, Option.bind_some] at q
        split at q
        · rename_i d e3
          cases q
          exact ⟨l, d, by rw [dataOf_eq e2], e3, rfl⟩
        · cases q
  obtain ⟨l, d, e1, e2, rfl⟩ := this
  obtain ⟨f, h1, h2, h3⟩ := C.ex
  refine wpX_of (pe_makeR (E := E0) h2 h1 hr hg h3 passL pa_wp hdb he hpl) (wpA_mono (ha.2 F T Γ S σ H _ r e1) fun vs H' ⟨hz, r1⟩ x dx hx hdx hne => ?_)
  have := make_of (Q := fun v H' => Rel F ((.d (.ins c d), v) :: T) Γ S σ H') (E := E0) r1 (by simpa using hz) (fun q hq => List.mem_append_left _ hq) (dfl := []) rfl e2 hx hdx hne (fun fs ef => by cases ef; exact C.len _ _ e2) (fun d' ed H2 r2 => by cases ed; exact r2.drop dropA) fun er z => by cases z
  rw [List.map_nil, List.append_nil] at this
  exact this
theorem rp_makeS0 {k c : Nat} {x : Str} {p pos : Pos} {G : PI'} (C : MakeS X.prog X.w X.K X.mg X.base ci k x c G) (hr : Room (k + 1) X.A) (hg : Gl X x)
    (hdb : (x == ("__debug__" : Str)) = false := by decide +kernel) : RP ci X (.Call (.Name x p) [] [] pos) (fMake c [] G fNil) := fun F T Γ S σ H a r q => by
  have : ∃ d, G [] = some (.ok d) ∧ a = .d (.ins c d) := by
    unfold fMake fNil at q
    rw [Option.bind_some, dataOf, Option.bind_some] at q
    split at q
    · rename_i d e3
      cases q
      exact ⟨d, e3, rfl⟩
    · cases q
  obtain ⟨d, e2, rfl⟩ := this
  obtain ⟨f, h1, h2, h3⟩ := C.ex
  refine wpX_of (pe_makeR0 (E := E0) h2 h1 hr hg h3 passL hdb) fun x dx hx hdx hne => ?_
  have := make_of (l := []) (vs := []) (Q := fun v H' => Rel F ((.d (.ins c d), v) :: T) Γ S σ H') (E := E0) r rfl (fun q hq => by cases hq) (dfl := []) rfl e2 hx hdx hne (fun fs ef => by cases ef; exact C.len _ _ e2) (fun d' ed H2 r2 => by cases ed; exact r2) fun er z => by cases z
  exact this
def fMakeV (c : Nat) (G : PI') (f : QF) : QF := fun Γ S => (f Γ S).bind fun a => (viewQ S a).bind fun l => match G l with | some (.ok d) => some (.d (.ins c d)) | _ => none
end
end LP
set_option maxHeartbeats 2000000
namespace PySem.W
open PySem PySem.Calls PyProof.Rows Builtin
end PySem.W
set_option maxHeartbeats 2000000
namespace LP
open PySem PySem.Spec PyProof.Rows L2
section
variable {X : Cx} {CX : CXT} {k : Nat} {C f : Addr} {fd : FuncData} {ps : List Str} {sp : Sp} {E : XK}
def insAt (H : Hp) (a C : Addr) : Prop := ∃ dx fs, H a = some (.ins C dx fs)
theorem op_inOwn (F : FnOk X.prog X.w X.K X.mg X.base CX k f fd ps sp) (hm : Meth X.K C "__contains__" f) (hb : Binds X.K fd ps []) (hr : Room k X.A) (hx : Passes CX X E) :
    OpR X (compareOp .In) (fun x y H Q => ∃ a, y = .ref a ∧ insAt H a C ∧ sp [.ref a, x] H (fun v H' => ∃ b : Bool, v = .bl b ∧ Q (.bl b) H') E) := by
  intro pins s σ H x y v u Q I rx ry h
  obtain ⟨a, rfl, ⟨dx, fs, ha⟩, h⟩ := h
  cases (show u = Value.ref a from ry)
  obtain ⟨mA, J, _⟩ := ins_get I.hok ha
  obtain ⟨od, J, _⟩ := J.look
  obtain ⟨m, hF⟩ := I.fr
  refine PySem.W.in_K hF I.ok.mod.kin J hm.at_ hm.fn (wpAny_mono (run_fn (us := [.ref a, v]) (vs := [.ref a, x]) F hr hb .nil hx I (.cons rfl (.cons rx .nil)) h) (fun z s2 hz => ?_) fun _ _ y => y)
  obtain ⟨w, H2, I2, rv, n, rfl, q⟩ := hz
  cases (show z = Value.bool n from rv)
  exact wpAny_truthy_bool ⟨.bl n, H2, I2, rfl, q⟩
end
end LP
set_option maxHeartbeats 2000000
namespace PySem.W
open PySem PySem.Calls PyProof.Rows Builtin
section
variable {prog : Program} {w : World} {A : Around} {E : Value → Shared → Prop} {s : Shared} {K : Frag} {x C L f : Addr} {h₀ : Heap} {m : Str → Option Value} {ox : Obj} {od : Option Obj}
theorem lp_bool {Q : Value → Shared → Prop} (F : Fr h₀ L s.heap m) (X₀ : K.In h₀) (I : InstAt s.heap x ox C od) (hs : findIn K (.ref C) "__bool__" = some (some (.ref f))) (hf : isFn K (.ref f) = true)
    (h : wpAny (model prog w) A.in1.in1 (call (.ref f) [.ref x]) (fun r s₁ => ∃ b, r = Value.bool b ∧ Q (.bool b) s₁) E s) : wpAny (model prog w) A (call (.type "bool") [.ref x]) Q E s := by
  refine callType_codes (T := "bool") (Bi := Builtin.«object.__init__») (Q₁ := fun r s₁ => ∃ b, r = Value.bool b ∧ Q (.bool b) s₁) PySem.F.called_bool (PySem.F.typeCall_bool_1 _) PySem.F.entry_object_init ?_ ?_
  · refine codeAny_of_tree ?_
    show wpAny _ A.in1.in1 (do checkBuiltinCall "bool.__new__" ⟨[.type "bool", .ref x], []⟩; again (.builtin "bool.__new__" ⟨[.type "bool", .ref x], []⟩)) _ _ s
    refine wpAny_bind (wpAny_of_eq (PySem.F.newCall_bool_1 _) (wpAny_pure ⟨plainId_quiet (by decide +kernel) _, codeAny_builtin PySem.F.entry_bool_new ?_⟩))
    rw [Around.under_plainId (by decide +kernel) _]
    unfold Builtin.«bool.__new__»
    refine wpAny_bind (wpAny_of_eq (a := true) rfl ?_)
    refine PySem.W.KFB.if_not rfl ?_
    refine wpAny_bind (wpAny_of_eq (a := true) PySem.F.conv_sub_bool ?_)
    refine PySem.W.KFB.if_not rfl ?_
    refine wpAny_bind (wpAny_of_eq (a := [Value.ref x]) rfl ?_)
    refine wpAny_bind (truthy_K F X₀ I hs hf (wpAny_mono h (fun r s₁ hr => ?_) fun _ _ y => y))
    obtain ⟨b, rfl, hq⟩ := hr
    exact wpAny_pure ⟨b, rfl, hq⟩
  · rintro obj s₁ ⟨b, rfl, hq⟩
    exact ⟨rfl, PySem.F.args_object_init_2 _ _, object_init_meets PySem.F.called_bool.init.lookup PySem.F.called_bool.made (by decide) prog w A.in1 _ s₁ ⟨rfl, rfl, hq⟩⟩
end
end PySem.W
set_option maxHeartbeats 2000000
namespace LP
open PySem PySem.Spec PyProof.Rows L2
def gEither (g1 g2 : So → A → A → Option D) (S : So) (a b : A) : Option D := match g1 S a b with
  | some d => some d
  | none => g2 S a b
def gOwnIn (neg : Bool) (c : Nat) (G : PC) (_ : So) : A → A → Option D
  | .d x, .d (.ins c' fs) => if c' = c then match G [.ins c' fs, x] with
    | some (.ok (.bl b)) => some (.bl (if neg = true then !b else b))
    | _ => none else none
  | _, _ => none
def gOwnBin (c : Nat) (G : PC) (_ : So) : A → A → Option D
  | .d (.ins c1 f1), .d (.ins c2 f2) => if c1 = c ∧ c2 = c then match G [.ins c1 f1, .ins c2 f2] with
    | some (.ok d) => some d
    | _ => none else none
  | _, _ => none
def eqTo (c : Nat) : D → Bool
  | .ins c' _ => decide (c' = c)
  | .lst _ => true
  | _ => false
def gOwnEq (neg : Bool) (c : Nat) (G : PC) (_ : So) : A → A → Option D
  | .d (.ins c' fs), .d y => if c' = c ∧ eqTo c y = true then match G [.ins c' fs, y] with
    | some (.ok (.bl b)) => some (.bl (if neg = true then !b else b))
    | _ => none else none
  | _, _ => none
def gOwnBool (c : Nat) (G : PC) (_ : So) : List A → Option D
  | [.d (.ins c' fs)] => if c' = c then match G [.ins c' fs] with
    | some (.ok (.bl b)) => some (.bl b)
    | _ => none else none
  | _ => none
section
variable {ci : Ci} {X : Cx}
theorem OpG.or2 {fv : Value → Value → Sem Value} {g1 g2 : So → A → A → Option D} (h1 : OpG ci X fv g1) (h2 : OpG ci X fv g2) : OpG ci X fv (gEither g1 g2) := by
  obtain ⟨r1, a1, b1⟩ := h1
  obtain ⟨r2, a2, b2⟩ := h2
  refine ⟨_, a1.or a2, fun F T Γ S σ H x y a b d r hx hy e Q k => ?_⟩
  unfold gEither at e
  split at e
  · rename_i d' e'
    cases e
    exact .inl (b1 F T Γ S σ H x y a b _ r hx hy e' Q k)
  · exact .inr (b2 F T Γ S σ H x y a b d r hx hy e Q k)
theorem two_data {T : List (A × V)} {c : Nat} {fs : List D} {d : D} {v u : V} (hx : (A.d (.ins c fs), v) ∈ T) (hy : (A.d d, u) ∈ T) : ∀ q ∈ (([D.ins c fs, d] : List D).map A.d).zip [v, u], q ∈ T := fun q hq => by
  simp only [List.map_cons, List.map_nil, List.zip_cons_cons, List.zip_nil_right, List.mem_cons, List.not_mem_nil, or_false] at hq
  rcases hq with rfl | rfl
  · exact hx
  · exact hy
theorem ins_of {K : PySem.W.Frag} {ci : Ci} {F : Fr K ci} {T : List (A × V)} {Γ : Ga} {S : So} {σ : L2.St} {H : Hp} {c : Nat} {fs : List D} {v : V} (r : Rel F T Γ S σ H) (h : (A.d (.ins c fs), v) ∈ T) : ∃ p, v = .ref p ∧ insAt H p (ci c).1 := by
  obtain ⟨p, dx, vs, rfl, hp⟩ := cls_at r h rfl
  exact ⟨p, rfl, dx, _, hp⟩
theorem og_in {k c : Nat} {G : PC} (M : MethP X.prog X.w X.K X.mg X.base ci k c "__contains__" [] (spP X.K ci G)) (hr : Room k X.A) : OpG ci X (compareOp .In) (gOwnIn false c G) := by
  obtain ⟨f, fd, ps, ds, h1, h2, h3, h4, h5, h6, h7⟩ := M.ex
  cases h6
  refine ⟨_, op_inOwn (E := E0) h1 h3 h5 hr passL, fun F T Γ S σ H x y a b d r hx hy e Q kk => ?_⟩
  unfold gOwnIn at e
  split at e
  · rename_i xd c' fs
    split at e
    · rename_i hc
      subst hc
      split at e
      · rename_i n eG
        cases e
        obtain ⟨p, rfl, hp⟩ := ins_of r hy
        refine ⟨p, rfl, hp, spP_all (l := [.ins c' fs, xd]) (vs := [.ref p, x]) (o := .ok (.bl n)) r rfl (two_data hy hx) eG (fun d' ed v H3 r3 => ?_) fun er z => by cases z⟩
        cases ed
        have := r3.asBl (i := n) List.mem_cons_self
        exact ⟨n, this, kk _ _ (by rw [← this]; exact r3)⟩
      · cases e
    · cases e
  · cases e
theorem call_boolOwn {CX : CXT} {k : Nat} {C f : Addr} {fd : FuncData} {ps : List Str} {sp : Sp} {E : XK} (F : FnOk X.prog X.w X.K X.mg X.base CX k f fd ps sp) (hm : Meth X.K C "__bool__" f) (hb : Binds X.K fd ps []) (hr : Room (k + 2) X.A) (hx : Passes CX X E) :
    CallR X (.type "bool") (fun xs H Q => ∃ a, xs = [.ref a] ∧ insAt H a C ∧ sp [.ref a] H (fun v H' => ∃ b : Bool, v = .bl b ∧ Q (.bl b) H') E) := by
  intro pins s σ H xs us Q I r h
  obtain ⟨a, rfl, ⟨dx, fs, ha⟩, h⟩ := h
  cases r with
  | cons r1 r2 =>
    cases r2
    cases r1
    obtain ⟨mA, J, _⟩ := ins_get I.hok ha
    obtain ⟨od, J, _⟩ := J.look
    obtain ⟨m, hF⟩ := I.fr
    have e0 : Env0 X.prog X.w X.K X.mg X.base X.A.in1.in1 X.stack s H := I.env0.in1.in1
    have hl2 := F.len _ _ _ _ h
    have r2 : Vals [V.ref a] [Value.ref a] := .cons rfl .nil
    have hr2 : Room k X.A.in1.in1 := (show Room (k + 1) X.A.in1 from Room.in1 hr).in1
    refine PySem.W.lp_bool hF I.ok.mod.kin J hm.at_ hm.fn (wpAny_call (codeAny_mono (F.run X.A.in1.in1 X.stack s H ⟨[.ref a], []⟩ [.ref a] [.ref a] _ E hr2 e0 (by
      have := hb s [.ref a] I.kIn (by simpa using hl2)
      simpa using this) r2 h) fun z s2 hz => ?_))
    cases z with
    | error e => exact hx pins σ H s e s2 I hz
    | ok fl =>
      cases fl with
      | ret w =>
        obtain ⟨v', H2, I2, rv, b, rfl, q⟩ := I.after hz
        cases (show w = Value.bool b from rv)
        exact ⟨b, rfl, .bl b, H2, I2, rfl, q⟩
      | next => cases hz
      | brk => cases hz
      | cont => cases hz
theorem cg_bool {k c : Nat} {G : PC} (M : MethP X.prog X.w X.K X.mg X.base ci k c "__bool__" [] (spP X.K ci G)) (hr : Room (k + 2) X.A) : CallG ci X (.type "bool") (gOwnBool c G) := by
  obtain ⟨f, fd, ps, ds, h1, h2, h3, h4, h5, h6, h7⟩ := M.ex
  cases h6
  refine ⟨_, call_boolOwn (E := E0) h1 h3 h5 hr passL, fun F T Γ S σ H as vs d r hl hT e Q kk => ?_⟩
  unfold gOwnBool at e
  split at e
  · rename_i c' fs
    split at e
    · rename_i hc
      subst hc
      split at e
      · rename_i n eG
        cases e
        obtain ⟨v, rfl, hv⟩ := as1 (F := F) hl hT
        obtain ⟨p, rfl, hp⟩ := ins_of r hv
        refine ⟨p, rfl, hp, spP_all (l := [.ins c' fs]) (vs := [.ref p]) (o := .ok (.bl n)) r rfl (fun q hq => hT q (by simpa using hq)) eG (fun d' ed v H3 r3 => ?_) fun er z => by cases z⟩
        cases ed
        have := r3.asBl (i := n) List.mem_cons_self
        exact ⟨n, this, kk _ _ (by rw [← this]; exact r3)⟩
      · cases e
    · cases e
  · cases e
end
end LP
set_option maxHeartbeats 2000000
namespace PySem
open AutoSeq1 (wpAny_loadPart')
theorem lp_enumerate_newT (l : Addr) (items : Array Value) (n : Nat) (dct : Option Addr) (sl : Array (Option Value)) :
    Meets (Builtin.«enumerate.__new__» ⟨[.type "enumerate", .ref l], []⟩) (fun _ R s => s.heap.get? l = some { cls := .type "tuple", dict := dct, data := .seq items n, slots := sl } ∧
      R (.ok (.ret (.ref (s.heap.push { cls := .type "tuple_iterator", data := .fields #[.ref l, .int 0 0] }).objs.size)))
        { s with heap := (s.heap.push { cls := .type "tuple_iterator", data := .fields #[.ref l, .int 0 0] }).push { cls := .type "enumerate", data := .fields #[.none, .bool false, .ref s.heap.objs.size, rawInt 0, .none, .none] } }) :=
  .of_wp fun prog w A R s h => by
    obtain ⟨hp, g, d, tk, os⟩ := s; obtain ⟨hl, h⟩ := h
    have hsub := sub_enumerate
    have hL : Heap.IsTuple (Shared.heap ⟨hp, g, d, tk, os⟩) l items := ⟨_, hl, rfl, n, rfl⟩
    wp_walk using wpAny_loadPart' hl
    refine wpAny_stack_any fun st => wpAny_pure ?_
    split
    · rename_i c _ _ _ _ _
      cases (c == Value.type "enumerate")
      · wp_walk using wpAny_loadPart' hl, wpAny_pyIter_tuple hL
        exact ⟨_, rfl, h⟩
      · wp_walk using wpAny_loadPart' hl, wpAny_pyIter_tuple hL
        exact ⟨_, rfl, h⟩
    · wp_walk using wpAny_loadPart' hl, wpAny_pyIter_tuple hL
      exact ⟨_, rfl, h⟩
section
variable {prog : Program} {w : World} {A : Around} {E : Value → Shared → Prop} {s : Shared}
theorem lp_call_enumT {l : Addr} {items : Array Value} {Q : Value → Shared → Prop} (hL : s.heap.IsTuple l items)
    (h : ∀ h', IsEnum h' (s.heap.objs.size + 1) s.heap.objs.size 0 .none → h'.IsTupleIter s.heap.objs.size l 0 → h'.objs.size = s.heap.objs.size + 2 →
      (∀ b o, s.heap.get? b = some o → h'.get? b = some o) → Q (.ref (s.heap.objs.size + 1)) { s with heap := h' }) :
    wpAny (model prog w) A (call (.type "enumerate") [.ref l]) Q E s := by
  obtain ⟨⟨c, dct, dt, sl⟩, hl, hc, n, hd⟩ := hL
  replace hc : c = .type "tuple" := hc
  replace hd : dt = .seq items n := hd
  subst hc hd
  refine callType_new F.called_enumerate (by decide) (F.typeCall_enumerate_1 _) (F.newCall_enumerate_1 _) (fun obj => F.args_object_init_2 obj _) F.entry_enumerate_new
    (lp_enumerate_newT l items n dct sl) ⟨hl, ?_⟩
  have hz : (s.heap.push { cls := .type "tuple_iterator", data := .fields #[.ref l, .int 0 0] }).objs.size = s.heap.objs.size + 1 := Heap.size_push ..
  show _ ∧ _
  rw [hz]
  have he : IsEnum ((s.heap.push { cls := .type "tuple_iterator", data := .fields #[.ref l, .int 0 0] }).push
      { cls := .type "enumerate", data := .fields #[.none, .bool false, .ref s.heap.objs.size, rawInt 0, .none, .none] }) (s.heap.objs.size + 1) s.heap.objs.size 0 .none := by
    have := Heap.get?_push_size (s.heap.push { cls := .type "tuple_iterator", data := .fields #[.ref l, .int 0 0] })
      (o := { cls := .type "enumerate", data := .fields #[.none, .bool false, .ref s.heap.objs.size, rawInt 0, .none, .none] }) rfl
    rw [hz] at this; exact this
  refine ⟨⟨_, he, rfl⟩, h _ he ⟨_, Heap.get?_push_of_some _ (Heap.get?_push_size _ rfl), rfl, rfl⟩ (by rw [Heap.size_push, hz]) fun b o x => Heap.get?_push_of_some _ (Heap.get?_push_of_some _ x)⟩
end
end PySem
namespace LP
open PySem PySem.Spec PyProof.Rows L2
/-- the tuple at a, each item in a new pair -/
def IteT (K : PySem.W.Frag) (a : Addr) : It :=
  ⟨fun i H => ∃ (xs : List V) (x : V), SqT K H a xs ∧ xs[i]? = some x, fun i H v H' => ∃ T x, v = .ref T ∧ H T = none ∧ H' = upd H T (.tup [.int (i : Nat), x]) ∧ ∀ xs, SqT K H a xs → xs[i]? = some x, fun i H => ∃ xs : List V, SqT K H a xs ∧ xs.length = i⟩
theorem iter_ne {h : Heap} {it a : Addr} {i : Nat} {items : Array Value} (h1 : h.IsTupleIter it a i) (h2 : h.IsTuple a items) : a ≠ it := by
  rintro rfl
  obtain ⟨o, ho, hc, _⟩ := h1
  obtain ⟨o', ho', hc', _⟩ := h2
  rw [ho] at ho'
  cases ho'
  rw [hc] at hc'
  injection hc' with hc'
  exact absurd hc' (by decide)
theorem turn_enumT {P : Program} {w : World} {K : PySem.W.Frag} {elts : List Expr} {kk : Nat} {tpos : Pos} (a e it : Addr) :
    Turn P w K (.Tuple elts kk tpos) (IteT K a) [e, it] e (fun i h => (∃ old, IsEnum h e it ((i : Nat) : Int) old) ∧ h.IsTupleIter it a i ∧ e ≠ it ∧ e ≠ a) where
  mem := by simp
  obj := fun i h st b hb => by
    obtain ⟨⟨old, he⟩, ⟨o, ho, hc, hd⟩, _⟩ := st
    have e' : b = e ∨ b = it := by simpa using hb
    rcases e' with z | z
    · rw [z]; exact ⟨_, he, fun v q => nomatch q⟩
    · rw [z]; exact ⟨o, ho, fun v q => by rw [hd] at q; cases q⟩
  keep := fun i h h' st k => let ⟨⟨old, he⟩, hi, hne⟩ := st; ⟨⟨old, k e (by simp) _ he⟩, hi.at fun o q => k it (by simp) o q, hne⟩
  item := by
    intro X hP hw hK hc i pins s σ H E I hf st hg
    subst hP hw hK
    obtain ⟨⟨old, he⟩, hit, hne, hea⟩ := st
    obtain ⟨xs, x, hq, hx⟩ := hg
    obtain ⟨its, rv, p, hz⟩ := I.tuple hq
    obtain ⟨u, hu, ru⟩ := rv.get hx
    have hel : e < s.heap.objs.size := Heap.lt_size he
    have hil : it < s.heap.objs.size := by obtain ⟨_, q, _⟩ := hit; exact Heap.lt_size q
    have hai := iter_ne hit p
    have hlt : i < its.toArray.size := by
      have := (List.getElem?_eq_some_iff.mp hu).1
      simpa using this
    refine wpAny_pyNext_enum_itemD (Draws.tuple (A := X.A.in1) (I.ok.hd hc) it a hai its.toArray) he ⟨hit, p⟩ hlt hne (by simp [hne, hea]) fun x' h' tk hx' ho hst hT hsz hk => ?_
    obtain rfl : x' = u := by
      have : its.toArray[i]? = some u := by simpa using hu
      rw [this] at hx'
      exact (Option.some.inj hx').symm
    refine ⟨_, rfl, wpAny_letOwnedTupleGo_enum (s := { s with heap := h', toks := tk + 1 }) ho fun h'' he' sb => ?_⟩
    have hT2 : h''.get? s.heap.objs.size = some { cls := .type "tuple", data := .seq #[.int i tk, x'] } := (sb.2 _ (Nat.ne_of_gt hel)).trans hT
    have new : ObjOk X.prog X.w (upd H s.heap.objs.size (.tup [.int (i : Nat), x])) h'' s.heap.objs.size (.tup [.int (i : Nat), x]) :=
      ⟨by show 2 ≤ sizeLine; decide, [.int i tk, x'], .cons ⟨_, rfl⟩ (.cons ru .nil), ⟨_, hT2, rfl, _, rfl⟩⟩
    have I1 : Inv X pins σ (upd H s.heap.objs.size (.tup [.int (i : Nat), x])) { s with heap := h'', toks := tk + 1 } :=
      I.turnedNew (ch := [e, it]) (fun b ob hb q => (sb.2 b (fun z => hb (by simp [z]))).trans (hk b ob (fun z => hb (by simp [z])) (fun z => hb (by simp [z])) q)) hf (Nat.le_refl _) new
    refine ⟨.ref s.heap.objs.size, _, I1, rfl, ⟨_, x, rfl, I.hok.fresh (Nat.le_refl _), rfl, fun ys hy => by rw [I.tuple_inj hy hq]; exact hx⟩, ⟨⟨x', ?_⟩, hst.1.at fun o q => (sb.2 it (Ne.symm hne)).trans q, hne, hea⟩, fun b hb => ?_⟩
    · have e1 : ((i + 1 : Nat) : Int) = (i : Int) + 1 := by omega
      rw [e1]; exact he'
    · have hb' : b < s.heap.objs.size := by
        have e' : b = e ∨ b = it := by simpa using hb
        rcases e' with z | z
        · rw [z]; exact hel
        · rw [z]; exact hil
      rw [upd_ne (Nat.ne_of_lt hb')]
      exact (hf b hb).1
  done := by
    intro X hP hw hK hc i pins s σ H E I hf st hg
    subst hP hw hK
    obtain ⟨⟨old, he⟩, hit, hne, hea⟩ := st
    obtain ⟨xs, hq, hx⟩ := hg
    obtain ⟨its, rv, p, hz⟩ := I.tuple hq
    obtain ⟨f0, f1, f2, f3, f4, f5⟩ := hf it (by simp)
    have hl := rv.length
    have hai := iter_ne hit p
    have e1 : i = its.toArray.size := by simp; omega
    subst e1
    exact wpAny_pyNext_enum_endD (Draws.tuple (A := X.A.in1) (I.ok.hd hc) it a hai its.toArray) he ⟨hit, p⟩ fun h' eb => ⟨rfl, I.turned (t' := s.toks) (fun b o hb q => eb b o hb q) f0 f1 f3 f4 f5⟩
  self := fun A i s Q E st h => let ⟨⟨_, he⟩, _⟩ := st; wpAny_pyIter_enum he h
end LP
set_option maxHeartbeats 2000000
namespace LP
open PySem PySem.Spec PyProof.Rows L2
def iEnumT (K : PySem.W.Frag) (ta : TA) : TI := fun σ H R => ta σ H fun vs H1 => ∃ a xs, vs = [.ref a] ∧ SqT K H1 a xs ∧ R (IteT K a) H1
theorem pi_enumT {X : Cx} {e : Expr} {ta : TA} {p pos tpos : Pos} {elts : List Expr} {kk : Nat} (hg : Gl X "enumerate") (hm : X.mg "enumerate" = none) (ha : PA X [e] ta) (hs : starEach [e] X.env = [(false, eval e X.env)] := by rfl) :
    PI X (.Tuple elts kk tpos) (.Call (.Name "enumerate" p) [e] [] pos) (iEnumT X.K ta) := by
  refine ⟨fun pins s σ H R I h => ?_⟩
  refine Call_ (ld_blt I hg hm boot_enumerate (PyProof.Rows.callWith_type1 (thn (ha.run pos pins s σ H _ I h) fun us s1 ⟨vs, H1, I1, r1, q1⟩ => ?_) hs rfl))
  obtain ⟨a, xs, ex, hq, q⟩ := q1
  subst ex
  cases r1 with
  | cons r rr =>
    cases rr
    cases r
    obtain ⟨its, rv, p', hz⟩ := I1.tuple hq
    have hal : a < s1.heap.objs.size := by obtain ⟨o, ho, _⟩ := id p'; exact Heap.lt_size ho
    refine lp_call_enumT p' fun h' he hit hsz hk => wpAny_pyIter_enum he ?_
    have I2 : Inv X pins σ H1 { s1 with heap := h' } := I1.kept (t' := s1.toks) hk
    refine ⟨s1.heap.objs.size + 1, [s1.heap.objs.size + 1, s1.heap.objs.size], _, _, H1, rfl, I2, turn_enumT a (s1.heap.objs.size + 1) s1.heap.objs.size, ⟨⟨.none, he⟩, hit, Nat.succ_ne_self _, Nat.ne_of_gt (Nat.lt_succ_of_lt hal)⟩, fun b hb => ?_, q⟩
    have e' : b = s1.heap.objs.size + 1 ∨ b = s1.heap.objs.size := by simpa using hb
    have hle : s1.heap.objs.size ≤ b := by
      rcases e' with z | z
      · rw [z]; exact Nat.le_add_right _ _
      · rw [z]; exact Nat.le_refl _
    exact I1.fpOk hle (I1.hok.fresh hle)
section
variable {ci : Ci} {X : Cx}
def iET (f : QF) : QI := fun Γ S => (f Γ S).map fun a _ => (viewT a).map fun l => List.zipWith pairD ((List.range l.length).map fun (i : Nat) => D.int (i : Int)) l
theorem ri_enumT {e : Expr} {elts : List Expr} {kk : Nat} {tpos p pos : Pos} {f : QF} (hg : Gl X "enumerate") (hm : X.mg "enumerate" = none) (h1 : RP ci X e f) (hs : starEach [e] X.env = [(false, eval e X.env)] := by kernel_rfl) : RI ci X (.Tuple elts kk tpos) (.Call (.Name "enumerate" p) [e] [] pos) (iET f) := fun F T Γ S σ H it ds r q1 q2 => by
  unfold iET at q1
  cases e1 : f Γ S with
  | none => rw [e1] at q1; cases q1
  | some a =>
    rw [e1] at q1; cases q1
    dsimp only at q2
    cases e4 : viewT a with
    | none => rw [e4] at q2; cases q2
    | some l =>
      rw [e4] at q2
      obtain rfl : List.zipWith pairD ((List.range l.length).map fun (i : Nat) => D.int (i : Int)) l = ds := Option.some.inj q2
      refine wpI_of (pi_enumT hg hm (pa_cons pe_wp pa_nil hs) hs) (wpX_monoI (h1 F T Γ S σ H _ r e1) fun v H1 hz r1 => ?_)
      obtain ⟨ρ, q⟩ := id r1
      obtain ⟨p, vs, rfl, hq, R⟩ := RelR.viewT (q.top (a := a) (v := v) (by simp)) e4
      have hn : ∀ l : List D, (List.zipWith pairD ((List.range l.length).map fun (i : Nat) => D.int (i : Int)) l).length = l.length := fun l => by simp
      refine ⟨p, vs, rfl, hq, [(a, .ref p)], ⟨?_, fun H => ∃ xs, SqT X.K H p xs ∧ xs.length = l.length, (IteT X.K p).yld, ⟨?_, ?_, fun _ _ _ _ _ _ y => y⟩, ?_⟩, r1⟩
      · have := hz p vs (.inr hq)
        rw [hn, R.length]; exact this
      · rintro i H hi ⟨xs, h1, h3⟩
        rw [hn] at hi
        have a1 : i < xs.length := by omega
        exact ⟨xs, xs[i], h1, by simp [a1]⟩
      · rintro H ⟨xs, h1, h3⟩
        exact ⟨xs, h1, by rw [hn]; exact h3⟩
      · intro F T Γ S σ H r hU hS
        obtain ⟨ρ, r⟩ := r
        obtain ⟨_, xs, ex, hx, Rx⟩ := RelR.viewT (r.top (a := a) (v := .ref p) (hU _ (by simp))) e4
        cases ex
        refine ⟨⟨xs, hx, by rw [← Rx.length]⟩, ?_⟩
        rintro i w H' hi ⟨t, x, rfl, ht, rfl, g1⟩
        rw [hn] at hi
        obtain ⟨d1, k1, k2⟩ := Rx.get (g1 xs hx)
        refine ⟨pairD (.int (i : Nat)) d1, ?_, newPair r ht (by rw [Rep]) k2⟩
        rw [List.getElem?_zipWith, k1, List.getElem?_map, List.getElem?_range (by omega)]
        rfl
end
end LP
set_option maxHeartbeats 2000000
namespace LP
open PySem PySem.Spec PyProof.Rows L2
/-- the class at C has the whole number i as f -/
def cvalB (C f : Str) (i : Int) (K : PySem.W.Frag) : Bool := PySem.W.readsIn K (He.ga K C) (.type "type") && (decide (PySem.W.specialIn K (.ref (He.ga K C)) "__getattribute__" = some (some (.builtin "type.__getattribute__"))) && (match PySem.W.findCls K (.ref (He.ga K C)) (.type "type") f with
  | some (.val (.int j _)) => decide (j = i)
  | _ => false))
/-- C.f -/
structure CvalI (K : PySem.W.Frag) (C : Addr) (f : Str) (i : Int) : Prop where
  rd : PySem.W.readsIn K C (.type "type") = true
  ga : PySem.W.specialIn K (.ref C) "__getattribute__" = some (some (.builtin "type.__getattribute__"))
  at_ : ∃ t, PySem.W.findCls K (.ref C) (.type "type") f = some (.val (.int i t))
theorem cvalB_ok {K : PySem.W.Frag} {C f : Str} {i : Int} (h : cvalB C f i K = true) : CvalI K (He.ga K C) f i := by
  obtain ⟨h1, h⟩ := He.ba h
  obtain ⟨h0, h2⟩ := He.ba h
  refine ⟨h1, of_decide_eq_true h0, ?_⟩
  split at h2
  · rename_i j t e
    rw [of_decide_eq_true h2] at e
    exact ⟨t, e⟩
  · cases h2
def gIsiO (c : Nat) (S : So) : A → Option Bool
  | .d (.ins c' _) => if c' = c then some true else none
  | a => (tyA S a).map fun _ => false
def fIsiO (c : Nat) (f : QF) : QF := fun Γ S => (f Γ S).bind fun a => (gIsiO c S a).map fun b => .d (.bl b)
section
variable {ci : Ci} {X : Cx}
theorem rp_cval {x f : Str} {p pos : Pos} {C : Addr} {i : Int} (h : CvalI X.K C f i) (hg : Gl X x) (hm : X.mg x = some (.ref C)) (hd : (x == ("__debug__" : Str)) = false := by decide +kernel)
    (hb : attributeBase (.Name x p) f X.env (eval (.Name x p) X.env) = eval (.Name x p) X.env := by kernel_rfl) : RP ci X (.Attribute (.Name x p) f pos) (fC (.int i)) := fun F T Γ S σ H a r q => by
  cases q
  obtain ⟨t, ht⟩ := h.at_
  refine wpX_of (ClX.pe_cval (pe_glob (v := .ref C) hg hm rfl hd) hb) ?_
  exact ⟨C, .type "type", .int i, .int i t, rfl, ⟨h.rd, h.ga⟩, ⟨ht, ⟨t, rfl⟩⟩, r.int _⟩
structure MethKP (P : Program) (w : World) (K : PySem.W.Frag) (mg : Str → Option Value) (base : Heap) (ci : Ci) (k : Nat) (c : Nat) (m : Str) (ks : List Str) (ix : List Nat) (dfl : List D) (sp : Sp) : Prop where
  ex : ∃ (f : Addr) (fd : FuncData) (ps : List Str) (its : List Value), FnOk P w K mg base (L2.CX P w) k f fd ps sp ∧ Cls K (ci c).1 ∧ Meth K (ci c).1 m f ∧ m ∉ (ci c).2 ∧ KB K fd ps 1 ks ix dfl its ∧ dfl.all D.flat = true
end
end LP
set_option maxHeartbeats 2000000
namespace LP
open PySem PySem.Spec PyProof.Rows L2
end LP
set_option maxHeartbeats 2000000
namespace LP
open PySem PySem.Spec PyProof.Rows L2
end LP
set_option maxHeartbeats 2000000
namespace LP
open PySem PySem.Spec PyProof.Rows L2 RZ
def twoT (a b : A) : Option (List D × List D) := match viewT a, viewT b with
  | some l, some m => some (l, m)
  | _, _ => none
def iZQ (f g : QF) : QI := fun Γ S => (f Γ S).bind fun a => (g Γ S).map fun b S' => match twoT a b with
  | some (l, m) => some (List.zipWith pairD l m)
  | none => (viewL S' a).bind fun l => (viewL S' b).map fun m => List.zipWith pairD l m
section
variable {ci : Ci} {X : Cx}
theorem ri_zipQ {e e2 : Expr} {elts : List Expr} {kk : Nat} {tpos p pos : Pos} {f g : QF} (hg : Gl X "zip") (hm : X.mg "zip" = none) (h1 : RP ci X e f) (h2 : RP ci X e2 g) (hs : starEach [e, e2] X.env = (false, eval e X.env) :: starEach [e2] X.env := by kernel_rfl) (hs2 : starEach [e2] X.env = [(false, eval e2 X.env)] := by kernel_rfl) (hpl : (backTo pos (starEach [e2] X.env)).any (·.1) = false := by kernel_rfl) : RI ci X (.Tuple elts kk tpos) (.Call (.Name "zip" p) [e, e2] [] pos) (iZQ f g) := fun F T Γ S σ H it ds r q1 q2 => by
  unfold iZQ at q1
  cases e1 : f Γ S with
  | none => rw [e1] at q1; cases q1
  | some a =>
    cases e3 : g Γ S with
    | none => rw [e1, e3] at q1; cases q1
    | some b =>
      rw [e1, e3] at q1; cases q1
      dsimp only at q2
      cases ht0 : twoT a b with
      | some lm =>
        obtain ⟨l, m⟩ := lm
        rw [ht0] at q2
        obtain rfl : List.zipWith pairD l m = ds := Option.some.inj q2
        have ⟨e4, e5⟩ : viewT a = some l ∧ viewT b = some m := by
          unfold twoT at ht0
          split at ht0
          · rename_i l' m' k1 k2
            cases ht0
            exact ⟨k1, k2⟩
          · cases ht0
        refine wpI_of (pi_zipA hg hm (pa_cons pe_wp (pa_cons pe_wp pa_nil hs2) hs) hs hpl) (wpX_mono (h1 F T Γ S σ H _ r e1) fun v H1 r1 => wpX_monoI (h2 F _ Γ S σ H1 _ r1 e3) fun u H2 hz r2 => ?_)
        obtain ⟨ρ, q⟩ := id r2
        obtain ⟨p, vs, rfl, hq, R⟩ := RelR.viewT (q.top (a := a) (v := v) (by simp)) e4
        obtain ⟨p', vs', rfl, hq', R'⟩ := RelR.viewT (q.top (a := b) (v := u) (by simp)) e5
        have hn : (List.zipWith pairD l m).length = min vs.length vs'.length := by rw [List.length_zipWith, R.length, R'.length]
        refine ⟨p, p', vs, vs', rfl, .inr ⟨hq, hq', [(b, .ref p'), (a, .ref p)], ⟨?_, fun H => ∃ xs ys, SqT X.K H p xs ∧ SqT X.K H p' ys ∧ min xs.length ys.length = (List.zipWith pairD l m).length, (ItzT X.K p p').yld, ⟨?_, ?_, fun _ _ _ _ _ _ y => y⟩, ?_⟩, r2⟩⟩
        · have := hz p vs (.inr hq)
          rw [hn]; omega
        · rintro i H hi ⟨xs, ys, h1, h2, h3⟩
          have a1 : i < xs.length := by omega
          have a2 : i < ys.length := by omega
          exact ⟨xs, ys, xs[i], ys[i], h1, h2, by simp [a1], by simp [a2]⟩
        · rintro H ⟨xs, ys, h1, h2, h3⟩
          exact ⟨xs, ys, h1, h2, by omega⟩
        · intro F T Γ S σ H r hU hS
          obtain ⟨ρ, r⟩ := r
          obtain ⟨_, xs, ex, hx, Rx⟩ := RelR.viewT (r.top (a := a) (v := .ref p) (hU _ (by simp))) e4
          cases ex
          obtain ⟨_, ys, ey, hy, Ry⟩ := RelR.viewT (r.top (a := b) (v := .ref p') (hU _ (by simp))) e5
          cases ey
          refine ⟨⟨xs, ys, hx, hy, by rw [List.length_zipWith, Rx.length, Ry.length]⟩, ?_⟩
          rintro i w H' hi ⟨t, x, y, rfl, ht, rfl, g1, g2⟩
          obtain ⟨d1, k1, k2⟩ := Rx.get (g1 xs hx)
          obtain ⟨d2, k3, k4⟩ := Ry.get (g2 ys hy)
          refine ⟨pairD d1 d2, ?_, newPair r ht k2 k4⟩
          rw [List.getElem?_zipWith, k1, k3]
      | none =>
       rw [ht0] at q2
       dsimp only at q2
       cases e4 : viewL S a with
       | none => rw [e4] at q2; cases q2
       | some l =>
        cases e5 : viewL S b with
        | none => rw [e4, e5] at q2; cases q2
        | some m =>
          rw [e4, e5] at q2
          obtain rfl : List.zipWith pairD l m = ds := Option.some.inj q2
          refine wpI_of (pi_zipA hg hm (pa_cons pe_wp (pa_cons pe_wp pa_nil hs2) hs) hs hpl) (wpX_mono (h1 F T Γ S σ H _ r e1) fun v H1 r1 => wpX_monoI (h2 F _ Γ S σ H1 _ r1 e3) fun u H2 hz r2 => ?_)
          obtain ⟨ρ, q⟩ := id r2
          obtain ⟨p, vs, rfl, hq, R⟩ := q.viewL (q.top (a := a) (v := v) (by simp)) e4
          obtain ⟨p', vs', rfl, hq', R'⟩ := q.viewL (q.top (a := b) (v := u) (by simp)) e5
          have hn : (List.zipWith pairD l m).length = min vs.length vs'.length := by rw [List.length_zipWith, R.length, R'.length]
          refine ⟨p, p', vs, vs', rfl, .inl ⟨hq, hq', [(b, .ref p'), (a, .ref p)], ⟨?_, fun H => ∃ xs ys, SqL X.K H p xs ∧ SqL X.K H p' ys ∧ min xs.length ys.length = (List.zipWith pairD l m).length, (Itz X.K p p').yld, ⟨?_, ?_, fun _ _ _ _ _ _ y => y⟩, ?_⟩, r2⟩⟩
          · have := hz p vs (.inl hq)
            rw [hn]; omega
          · rintro i H hi ⟨xs, ys, h1, h2, h3⟩
            have a1 : i < xs.length := by omega
            have a2 : i < ys.length := by omega
            exact ⟨xs, ys, xs[i], ys[i], h1, h2, by simp [a1], by simp [a2]⟩
          · rintro H ⟨xs, ys, h1, h2, h3⟩
            exact ⟨xs, ys, h1, h2, by omega⟩
          · intro F T Γ S σ H r hU hS
            dsimp only at hS
            rw [ht0] at hS
            dsimp only at hS
            obtain ⟨ρ, r⟩ := r
            cases e6 : viewL S a with
            | none => rw [e6] at hS; cases hS
            | some l' =>
              cases e7 : viewL S b with
              | none => rw [e6, e7] at hS; cases hS
              | some m' =>
                rw [e6, e7] at hS
                have hS' : List.zipWith pairD l' m' = List.zipWith pairD l m := Option.some.inj hS
                obtain ⟨_, xs, ex, hx, Rx⟩ := r.viewL (r.top (a := a) (v := .ref p) (hU _ (by simp))) e6
                cases ex
                obtain ⟨_, ys, ey, hy, Ry⟩ := r.viewL (r.top (a := b) (v := .ref p') (hU _ (by simp))) e7
                cases ey
                refine ⟨⟨xs, ys, hx, hy, by rw [← hS', List.length_zipWith, Rx.length, Ry.length]⟩, ?_⟩
                rintro i w H' hi ⟨t, x, y, rfl, ht, rfl, g1, g2⟩
                obtain ⟨d1, k1, k2⟩ := Rx.get (g1 xs hx)
                obtain ⟨d2, k3, k4⟩ := Ry.get (g2 ys hy)
                refine ⟨pairD d1 d2, ?_, newPair r ht k2 k4⟩
                rw [← hS', List.getElem?_zipWith, k1, k3]
end
end LP
set_option maxHeartbeats 2000000
namespace LP
open PySem PySem.Spec PyProof.Rows L2
def gBoolL (S : So) : List A → Option D
  | [.d (.lst l)] => some (.bl (!l.isEmpty))
  | _ => none
section
variable {ci : Ci} {X : Cx}
theorem c_boolL : CallG ci X (.type "bool") gBoolL := ⟨_, call_boolL, fun F T Γ S σ H as vs d r hl hT e Q k => by
  unfold gBoolL at e
  split at e
  · rename_i l
    cases e
    obtain ⟨v, rfl, hv⟩ := as1 (F := F) hl hT
    obtain ⟨ρ, r'⟩ := id r
    obtain ⟨p, vs, rfl, hq, R⟩ := r'.viewL (r'.top hv) (l := l) rfl
    have e1 : l.isEmpty = vs.isEmpty := by
      have := R.length
      cases l <;> cases vs <;> first | rfl | (simp at this)
    exact ⟨p, vs, rfl, hq, by rw [← e1]; exact k _ _ (r.bl _)⟩
  · cases e⟩
end
end LP
set_option maxHeartbeats 400000
namespace LP
open PySem PySem.Spec PyProof.Rows L2
end LP
set_option maxHeartbeats 4000000
namespace LP
open PySem PySem.Spec PyProof.Rows L2
end LP
set_option maxHeartbeats 1000000
namespace LP
open PySem PySem.Spec PyProof.Rows L2
end LP
set_option maxHeartbeats 2000000
namespace LP
open PySem PySem.Spec PyProof.Rows L2
end LP
set_option maxHeartbeats 1000000
namespace LP
open PySem PySem.Spec PyProof.Rows L2
end LP
set_option maxHeartbeats 1000000
namespace LP
open PySem PySem.Spec PyProof.Rows L2
structure CallS (P : Program) (w : World) (K : PySem.W.Frag) (mg : Str → Option Value) (base : Heap) (ci : Ci) (k : Nat) (x : Str) (G : PC) : Prop where
  ex : ∃ (f : Addr), FnR P w K mg base (L2.CX P w) k f (spP K ci G) ∧ mg x = some (.ref f) ∧ PySem.W.keepIn K (.ref f) = true
end LP
set_option maxHeartbeats 1000000
namespace LP
open PySem PySem.Spec PyProof.Rows L2
end LP
set_option maxHeartbeats 4000000
namespace LP
open PySem PySem.Spec PyProof.Rows L2
end LP
set_option maxHeartbeats 4000000
namespace LP
open PySem PySem.Spec PyProof.Rows L2
end LP
set_option maxHeartbeats 4000000
namespace LP
open PySem PySem.Spec PyProof.Rows L2
end LP
set_option maxHeartbeats 1000000
namespace LP
open PySem PySem.Spec PyProof.Rows L2
end LP
set_option maxHeartbeats 2000000
namespace LP
open PySem PySem.Spec PyProof.Rows L2
/-- C.m is a static method, its def at g -/
structure StatOf (K : PySem.W.Frag) (C : Addr) (m : Str) (p g : Addr) : Prop where
  rd : PySem.W.readsIn K C (.type "type") = true
  ga : PySem.W.specialIn K (.ref C) "__getattribute__" = some (some (.builtin "type.__getattribute__"))
  at_ : PySem.W.findCls K (.ref C) (.type "type") m = some (.get (.builtin "staticmethod.__get__") (.ref p) .none (.ref C))
  rc : ∃ rest, PySem.W.recIn K p "staticmethod" = some (.ref g :: rest)
structure StatP (P : Program) (w : World) (K : PySem.W.Frag) (mg : Str → Option Value) (base : Heap) (ci : Ci) (k : Nat) (x m : Str) (dfl : List D) (sp : Sp) : Prop where
  ex : ∃ (C p g : Addr) (fd : FuncData) (ps : List Str) (ds : List Value), FnOk P w K mg base (L2.CX P w) k g fd ps sp ∧ mg x = some (.ref C) ∧ StatOf K C m p g ∧ PySem.W.keepIn K (.ref g) = true ∧ Binds K fd ps ds ∧ Vals (dfl.map D.v) ds ∧ dfl.all D.flat = true
end LP
set_option maxHeartbeats 2000000
namespace LP
open PySem PySem.Spec PyProof.Rows L2
end LP
set_option maxHeartbeats 4000000
namespace LP
open PySem PySem.Spec PyProof.Rows L2
end LP
set_option maxHeartbeats 4000000
namespace LP
open PySem PySem.Spec PyProof.Rows L2
section
variable {X : Cx} {ci : Ci} {c : Code}
def wpSsC (X : Cx) (c : Code) (st : List Stmt) : TS := fun D σ H => ∀ (pins : List (Addr × Obj)) (s : Shared), Inv X pins σ H s → _root_.PySem.wpAt (model X.prog X.w) X.A c (execs st X.env) (SP X pins D) X.xe s
end
/-- the names of a def that says super(): no cells of its own; of captured ones __class__ alone -/
structure FnScopeS (N ps : List Str) (sc : Scope) : Prop where
  kind : sc.kind = .function
  co : sc.isCoroutine = false
  gen : sc.isGenerator = false
  nd : N.Nodup
  pre : N.take ps.length = ps
  par : ∀ x ∈ ps, sc.names.lookup x = some .local
  nocell : ∀ y ∈ sc.names, y.2 ≠ .cell
  free : ∀ y ∈ sc.names, y.2 = .free → y.1 = "__class__"
def supCx (CX : CXT) (P : Program) (w : World) (K : PySem.W.Frag) (mg : Str → Option Value) (base : Heap) (N : List Str) (qual : Str) (scope : Scope) (f : Addr) (cd : Value) (cc : Addr) (A : Around) (outer : List Env) (s : Shared) (H : Hp) (E : XK) : Cx where
  prog := P
  w := w
  K := K
  mg := mg
  base := base
  A := A.deeper (PySem.W.ksEnv qual scope s.heap.objs.size f cd cc)
  N := N
  s_0 := s
  H_0 := H
  env := PySem.W.ksEnv qual scope s.heap.objs.size f cd cc
  outer := outer
  stack := PySem.W.ksEnv qual scope s.heap.objs.size f cd cc :: outer
  ex := []
  fn := fun _ => false
  calm := true
  pn := []
  xe := fun e s' => wpAny (model P w) (A.deeper (PySem.W.ksEnv qual scope s.heap.objs.size f cd cc)) (leaving (PySem.W.ksEnv qual scope s.heap.objs.size f cd cc) e) (fun _ s'' => CX outer H s E e s'') (fun e' s'' => CX outer H s E e' s'') s'
theorem zip_rev_lookup {ps : List Str} {us : List Value} (nd : ps.Nodup) {i : Nat} {x : Str} {u : Value} (hp : ps[i]? = some x) (hu : us[i]? = some u) : (ps.zip us).reverse.lookup x = some u := by
  have hm : (x, u) ∈ ps.zip us := by
    refine List.mem_of_getElem? (i := i) ?_
    rw [List.getElem?_zip_eq_some]
    exact ⟨hp, hu⟩
  have hnd : ((ps.zip us).map (·.1)).Nodup := by
    have : ((ps.zip us).map (·.1)).Sublist ps := by
      clear hm hp hu nd
      induction ps generalizing us with
      | nil => simp
      | cons a ps ih =>
        cases us with
        | nil => simp
        | cons b us => rw [List.zip_cons_cons, List.map_cons]; exact (ih).cons₂ a
    exact nd.sublist this
  have go : ∀ {l : List (Str × Value)}, (l.map (·.1)).Nodup → (x, u) ∈ l → l.lookup x = some u := by
    intro l
    induction l with
    | nil => intro _ h; cases h
    | cons p l ih =>
      intro hn h
      obtain ⟨y, v⟩ := p
      rw [List.map_cons, List.nodup_cons] at hn
      rw [List.lookup_cons]
      rcases List.mem_cons.mp h with e | h
      · cases e
        simp
      · have hne : (x == y) = false := by
          rw [beq_eq_false_iff_ne]
          intro z
          exact hn.1 (List.mem_map.mpr ⟨(x, u), h, z⟩)
        rw [hne]
        exact ih hn.2 h
  refine go ?_ (List.mem_reverse.mpr hm)
  rw [List.map_reverse]
  exact (List.reverse_perm _).nodup_iff.mpr hnd
theorem inv_startS {CX : CXT} {P : Program} {w : World} {K : PySem.W.Frag} {mg : Str → Option Value} {base : Heap} {N ps : List Str} {qual : Str} {scope : Scope} {f cc Dc : Addr} {cd cl : Value} {cld : Option Addr} {csl : Array (Option Value)} {A : Around} {outer : List Env} {s : Shared} {H : Hp} {E : XK} {us : List Value} {vs : List V} {h₁ : Heap} {tk : Nat}
    (S : FnScopeS N ps scope) (hd : A.handled = none) (e0 : Env0 P w K mg base A outer s H) (hl : vs.length = ps.length) (r : Vals vs us) (hcell : K.lookup cc = some ⟨cl, cld, .cell (some (.ref Dc)), csl⟩)
    (hns : h₁.Ns s.heap.objs.size fun y => (ps.zip us).reverse.lookup y) (kp : ∀ b o, s.heap.get? b = some o → h₁.get? b = some o) :
    Inv (supCx CX P w K mg base N qual scope f cd cc A outer s H E) [] (L2.start N vs) H { s with heap := h₁, toks := tk } := by
  have hpl : ps.length ≤ N.length := by have := congrArg List.length S.pre; rw [List.length_take] at this; omega
  have noA : ∀ b : Addr, b ∉ (supCx CX P w K mg base N qual scope f cd cc A outer s H E).ex := fun b z => absurd (show b ∈ ([] : List Addr) from z) (by simp)
  have hcb : base.get? cc = some ⟨cl, cld, .cell (some (.ref Dc)), csl⟩ := e0.mod.kin _ _ hcell
  have hcs := (e0.bs _ _ hcb)
  have ck : ∀ {y c}, ([("__class__", cc)] : List (Str × Addr)).lookup y = some c → y = "__class__" ∧ c = cc := fun {y c} e => by
    rw [List.lookup_cons] at e
    split at e
    · rename_i h
      cases e
      exact ⟨beq_iff_eq.mp h, rfl⟩
    · cases e
  refine ⟨⟨e0.mod, S.kind, rfl, rfl, Nat.le_refl _, fun y z c h1 h2 => ?_, fun y hy => ?_, fun y c h => ?_, fun _ => hd, Around.frames_deeper e0.frames, .inr ⟨rfl, rfl⟩, fun b z => absurd z (noA b), e0.bs, e0.bsz, fun b _ _ => noA b, fun b z => absurd z (noA b), e0.funs, e0.frf⟩,
    rfl, e0.bare, Un.kept kp, ⟨_, hns, fun i y v h1 h2 h3 => ?_⟩, fun y c h => ?_, e0.hok.fresh (Nat.le_refl _), fun y c h => ?_, fun p hp => absurd (show p ∈ ([] : List (Addr × Obj)) from hp) (by simp), e0.hok.kept kp, ?_⟩
  · rw [(ck h1).1, (ck h2).1]
  · have hy : scope.names.lookup y = some .cell ∨ scope.names.lookup y = some .free := hy
    rcases hy with hy | hy
    · exact absurd rfl (S.nocell _ (PySem.mem_of_lookup hy))
    · have := S.free _ (PySem.mem_of_lookup hy) rfl
      simp only at this
      subst this
      exact ⟨cc, rfl⟩
  · have h : false = true := h
    cases h
  · have hi : i < vs.length := by
      unfold L2.start at h2
      by_cases hi : i < vs.length
      · exact hi
      · rw [List.getElem?_append_right (by simpa using hi)] at h2
        rw [List.getElem?_replicate] at h2
        split at h2 <;> cases h2
    have ha : vs[i]? = some v := by
      unfold L2.start at h2
      rw [List.getElem?_append_left (by simpa using hi), List.getElem?_map] at h2
      cases e : vs[i]? with
      | none => rw [e] at h2; cases h2
      | some a => rw [e] at h2; cases h2; rfl
    obtain ⟨u, hu, rv⟩ := r.get ha
    have hp : ps[i]? = some y := by
      rw [← S.pre, List.getElem?_take_of_lt (by omega)]; exact h1
    have ndP : ps.Nodup := by rw [← S.pre]; exact S.nd.sublist (List.take_sublist _ _)
    exact ⟨u, rv, .inl ⟨S.par y (List.mem_of_getElem? hp), zip_rev_lookup ndP hp hu⟩⟩
  · rw [(ck h).2]
    exact ⟨some (.ref Dc), _, kp _ _ hcs.1, rfl⟩
  · rw [(ck h).2]
    exact hcs.2
  · unfold L2.start
    show _ = N.length
    rw [List.length_append, List.length_map, List.length_replicate]
    omega
end LP
set_option maxHeartbeats 4000000
namespace LP
open PySem PySem.Spec PyProof.Rows L2
/-- what is known of a def that says super() -/
structure SupK (P : Program) (K : PySem.W.Frag) (mg : Str → Option Value) (f cda cc D : Addr) (ar : Str) : Prop where
  fn : ∃ (oc : Value) (od : Option Addr) (fd : FuncData) (osl : Array (Option Value)) (a : Arg), K.lookup f = some ⟨oc, od, .func fd, osl⟩ ∧ (fd.params.posonlyargs ++ fd.params.args).head? = some a ∧ a.arg = ar
  code : ∃ (ccl : Value) (cdd : Option Addr) (vs : Array Value) (ccs : Array (Option Value)) (file : Str) (tf : Tok), K.lookup cda = some ⟨ccl, cdd, .fields vs, ccs⟩ ∧ vs[2]? = some (.str file tf) ∧ ((P.main.file : Str) == file) = true
  cell : ∃ (cl : Value) (cld : Option Addr) (csl : Array (Option Value)), K.lookup cc = some ⟨cl, cld, .cell (some (.ref D)), csl⟩
  cls : ∃ cd, PySem.W.clsIn K D = some cd
  sup : mg "super" = none
  top : (P.main.scope.names.lookup ("super" : Str)).isSome = false
  op : PySem.W.nsIn K cStatics "thirdparty.any" = some none
section
variable {X : Cx} {f cda cc D x C dx f2 : Addr} {ar m : Str} {body : List Stmt} {pins : List (Addr × Obj)} {σ : L2.St} {H : Hp} {s : Shared} {fs : List (Str × V)} {Q : VK}
theorem inv_fewer {p : Addr × Obj} (I : Inv X (p :: pins) σ H s) : Inv X pins σ H s :=
  ⟨I.ok, I.os, I.bare, I.base, I.loc, I.cell, I.free, I.freeC, fun q hq => I.pin q (by
    rcases List.mem_append.mp hq with h | h
    · exact List.mem_append_left _ h
    · exact List.mem_append_right _ (List.mem_cons_of_mem _ h)), I.hok, I.len⟩
theorem inv_more {q : Addr} {o : Obj} (I : Inv X pins σ H s) (h1 : s.heap.get? q = some o) (h2 : H q = none) (h3 : q ≠ X.env.locals) (h4 : q ∉ X.fs) (h5 : ∀ v, o.data ≠ .cell v) : Inv X ((q, o) :: pins) σ H s :=
  ⟨I.ok, I.os, I.bare, I.base, I.loc, I.cell, I.free, I.freeC, fun p hp => by
    rcases List.mem_append.mp hp with h | h
    · exact I.pin p (List.mem_append_left _ h)
    · rcases List.mem_cons.mp h with rfl | h
      · exact ⟨h1, h2, h3, h4, h5⟩
      · exact I.pin p (List.mem_append_right _ h), I.hok, I.len⟩
end
end LP
set_option maxHeartbeats 4000000
namespace LP
open PySem PySem.Spec PyProof.Rows L2
end LP
set_option maxHeartbeats 4000000
namespace LP
open PySem PySem.Spec PyProof.Rows L2
end LP
set_option maxHeartbeats 4000000
namespace LP
open PySem PySem.Spec PyProof.Rows L2
structure FunS (K : PySem.W.Frag) (x qual : Str) (params : Arguments) (body : List Stmt) (scope : Scope) (dvs : List V) (f : Addr) (fd : FuncData) (cda cc : Addr) : Prop where
  ex : ∃ (oc : Value) (od : Option Addr) (dV kV doc pm : Value) (an : Option Addr) (ct : Value) (osl : Array (Option Value)),
    fd = PySem.W.ksFn x qual params body scope dV kV doc pm an (.ref cda) ct cc ∧ K.lookup f = some ⟨oc, od, .func fd, osl⟩ ∧ PySem.W.codeIn K (.ref cda) qual = true ∧ DflV K dV dvs
  cell : ∃ (cl : Value) (cld : Option Addr) (csl : Array (Option Value)) (D : Addr), K.lookup cc = some ⟨cl, cld, .cell (some (.ref D)), csl⟩
section
variable {P : Program} {w0 : World} {K : PySem.W.Frag} {mg : Str → Option Value} {base : Heap} {ci : Ci} {x qual : Str} {params : Arguments} {body : List Stmt} {scope : Scope} {dvs : List V} {f cda cc : Addr} {fd : FuncData} {N ps : List Str} {k : Nat}
abbrev supD (P : Program) (w0 : World) (K : PySem.W.Frag) (mg : Str → Option Value) (base : Heap) (N : List Str) (qual : Str) (scope : Scope) (f cda cc : Addr) (A : Around) (outer : List Env) (s : Shared) (H : Hp) (E : XK) : Cx := supCx (L2.CX P w0) P w0 K mg base N qual scope f (.ref cda) cc A outer s H E
theorem fnS_ok {sp : Sp} (F : FunS K x qual params body scope dvs f fd cda cc) (S : FnScopeS N ps scope) (len : ∀ vs H Q E, sp vs H Q E → vs.length = ps.length)
    (hbody : ∀ (A : Around) (outer : List Env) (s : Shared) (H : Hp) (vs : List V) (Q : VK) (E : XK), Room k (A.deeper (PySem.W.ksEnv qual scope s.heap.objs.size f (.ref cda) cc)) → sp vs H Q E →
      wpSsC (supD P w0 K mg base N qual scope f cda cc A outer s H E) (.func body (PySem.W.ksEnv qual scope s.heap.objs.size f (.ref cda) cc)) body { nx := fun _ H' => Q .non H', rt := Q } (L2.start N vs) H) : FnOk P w0 K mg base (L2.CX P w0) (k + 1) f fd ps sp := by
  obtain ⟨oc, od, dV, kV, doc, pm, an, ct, osl, rfl, lk, hcd, _⟩ := F.ex
  obtain ⟨cl, cld, csl, Dc, hcl⟩ := F.cell
  refine ⟨len, fun A outer s H args us vs Q E hr e0 hb r hsp => ?_⟩
  have hl := len _ _ _ _ hsp
  have KX : K.In s.heap := e0.mod.kin.keeps fun b o e => (e0.bs b o e).1
  have lim : s.heap.NoLimit := e0.mod.nolimit.keeps fun b o e => (e0.bs b o e).1
  refine PySem.ks_codeAny_call_defAt (fd := PySem.W.ksFn x qual params body scope dV kV doc pm an (.ref cda) ct cc) (body := body) (binds := ps.zip us) hr.depth (KX _ _ lk) rfl lim (PySem.W.codeRec_of KX hcd) rfl hb S.nocell (fun y hy => S.par _ (List.of_mem_zip (a := y.1) (b := y.2) hy).1) (fun h₀ hns kp => ?_) S.co S.gen S.kind
  have I : Inv (supD P w0 K mg base N qual scope f cda cc A outer s H E) [] (L2.start N vs) H { s with heap := h₀, toks := s.toks + (ps.zip us).length } := inv_startS S hr.hd e0 hl r hcl hns kp
  refine PySem.ks_wpAt_mono (hbody A outer s H vs Q E (hr.deeper _) hsp [] _ I) (fun fl s' hs => ?_) fun e s' hs => hs
  have fin : ∀ {σ' : L2.St} {H' : Hp} {v : V} {u : Value}, Inv (supD P w0 K mg base N qual scope f cda cc A outer s H E) [] σ' H' s' → RelV v u → Q v H' → CE outer P w0 H s Q u s' :=
    fun {σ' H' v u} J rv q => ⟨v, H', J.os, J.bare, J.base, J.hok, rv, q⟩
  cases fl with
  | ret u =>
    obtain ⟨v, σ', H', J, rv, q⟩ := hs
    exact fin J rv q
  | next =>
    obtain ⟨σ', H', J, q⟩ := hs
    exact fin (v := V.non) (u := Value.none) J rfl q
  | brk =>
    obtain ⟨_, _, _, q⟩ := hs
    exact False.elim q
  | cont =>
    obtain ⟨_, _, _, q⟩ := hs
    exact False.elim q
end
end LP
set_option maxHeartbeats 4000000
namespace LP
open PySem PySem.Spec PyProof.Rows L2
structure SupE (K : PySem.W.Frag) (C D : Addr) : Prop where
  sub : PySem.W.mroIn K C (.ref D) = some true
  at_ : PySem.W.ks_superIn K C D "__init__" = some (some (.builtin "ValueError.__init__"))
  ve : PySem.W.subIn K (.ref C) (.type "ValueError") = some true
section
variable {X : Cx} {f cda cc D x C dx f2 : Addr} {ar m : Str} {body : List Stmt} {pins : List (Addr × Obj)} {σ : L2.St} {H : Hp} {s : Shared} {fs : List (Str × V)} {Q : VK}
theorem sup_nodeI {p0 p1 : Pos} {whole : Sem Value} {R : Value → Shared → Prop} {ox : Obj} {odx : Option Obj} (SK : SupK X.prog X.K X.mg f cda cc D ar) (hnc : (m == ("__class__" : Str)) = false) (hsub : PySem.W.mroIn X.K C (.ref D) = some true) (I : Inv X pins σ H s) (hks : X.env.kindOf "super" = some .globalImplicit) (hkc : X.env.kindOf "__class__" = some .free) (hfu : X.env.func = some f) (hco : X.env.code = .ref cda) (hcl : X.env.cells.lookup ("__class__" : Str) = some cc)
    (hN : X.N[0]? = some ar) (hka : X.env.scope.names.lookup ar = some .local) (h0 : σ[0]? = some (some (.ref x))) (IA : PySem.W.InstAt s.heap x ox C odx)
    (h : ∀ so h', h'.get? so = some (PySem.W.ks_superObj D x C) → (∀ b o, s.heap.get? b = some o → h'.get? b = some o) → s.heap.objs.size ≤ so → R (.ref so) { s with heap := h' }) :
    _root_.PySem.wpAt (model X.prog X.w) X.A (.func body X.env) (attributeBase (.Call (.Name "super" p0) [] [] p1) m X.env whole) R X.xe s := by
  obtain ⟨oc, od, fd, osl, a, lf, hp, rfl⟩ := SK.fn
  obtain ⟨ccl, cdd, vs, ccs, file, tf, lcd, hvs, hfile⟩ := SK.code
  obtain ⟨cl, cld, csl, lcc⟩ := SK.cell
  obtain ⟨cdD, hD⟩ := SK.cls
  obtain ⟨mb, b1, b2⟩ := I.mod.blt
  obtain ⟨m0, hns, hl⟩ := I.loc
  obtain ⟨u, ru, lk⟩ := hl 0 a.arg (.ref x) hN h0 (.inl hka)
  obtain rfl : u = Value.ref x := ru
  have hv : m0 a.arg = some (.ref x) := by
    rcases lk with ⟨_, e⟩ | ⟨k, _⟩
    · exact e
    · have hka' : X.env.kindOf a.arg = some .local := hka
      rw [hka'] at k
      rcases k with k | k <;> cases k
  have XK := I.kIn
  obtain ⟨oD, hD1, hD2⟩ : ∃ oD, s.heap.get? D = some oD ∧ oD.data = .cls cdD := by
    unfold PySem.W.clsIn at hD
    split at hD
    · rename_i c d cd' sl ho
      cases hD
      exact ⟨_, XK _ _ ho, rfl⟩
    · cases hD
  refine PySem.ks_wpAt_super_base hks hkc hnc hfu (XK _ _ lf) rfl hp hco (XK _ _ lcd) rfl hvs hfile SK.top ?_
  refine PySem.W.ks_loadName_global I.ok.kind hks (Calls.loadGlobal_builtin (by rw [I.ok.glob]; exact I.mod.glob.keeps I.bk) SK.sup (by rw [I.ok.blt]; exact b1.keeps I.bk) ((b2 _ (by decide)).trans (by kernel_rfl)) ⟨rfl, ?_⟩)
  refine wpAny_loadName_free I.ok.kind hkc hcl ⟨_, XK _ _ lcc, rfl⟩ ?_
  refine wpAny_loadName_local I.ok.kind hka hns hv ?_
  obtain ⟨hh, g, d, t, os⟩ := s
  refine PySem.ks_wpAny_isType_cls hD1 hD2 ⟨rfl, ?_⟩
  refine PySem.ks_wpAny_call_super hD1 hD2 IA.at_ IA.cls (fun c e => ?_) (PySem.W.looks_mroIn XK hsub) (fun h' e k => ?_)
  · have := IA.no
    unfold PySem.W.notCls at this
    rw [e] at this
    exact Bool.noConfusion this
  · exact h _ _ e k (Nat.le_refl _)
/-- the bound ValueError.__init__ called -/
theorem oinit_bound {u a : Addr} {us : List Value} {R : Value → Shared → Prop} (T : OexC X.K C) (I : Inv X pins σ H s) (hu : s.heap.get? u = some (PySem.W.kxs_mw "ValueError.__init__" a)) (e : H a = some (exo a C none)) (hl : us.length ≤ sizeLine) (h : ∀ s', Inv X pins σ H s' → R .none s') :
    wpAny (model X.prog X.w) X.A (call (.ref u) us) R X.xe s := by
  obtain ⟨nm, q, N, bs, bm, sn, sub, ab, col, dd, k0, k1, k2, k3, k5, hC, hbm⟩ := T.cls
  obtain ⟨t1, ho⟩ := exo_at I.hok e
  have XK := I.kIn
  obtain ⟨hh, g, d, tk, os⟩ := s
  refine wpAny_call (codeAny_of_tree ?_)
  show wpAny _ X.A.in1 (callAny (.ref u) ⟨us, []⟩) _ _ _
  simp only [callAny]
  refine wpAny_bind (wpAny_load hu ?_)
  simp only [PySem.W.kxs_mw, show (Value.type "method-wrapper" == Value.type "method" || Value.type "method-wrapper" == Value.type "builtin_function_or_method" || Value.type "method-wrapper" == Value.type "method-wrapper") = true by decide, if_true]
  refine PySem.W.KFB.if_so (by decide) ?_
  refine wpAny_bind (PySem.W.check_bound_init F.excBase_ValueError.toExcCallFacts (XK _ _ hC) ho rfl ?_)
  refine wpAny_bind (wpAny_pure (wpAny_pure ?_))
  refine ⟨plainId_quiet F.excBase_ValueError.init.plain _, codeAny_builtin F.excBase_ValueError.initEntry ?_⟩
  refine PySem.W.exc_init_tree (cls := .ref C) (t0 := t1) (dv := none) (c2 := .none) (c3 := .none) (b4 := .bool false) ho hl fun h' k hx _ => ?_
  have J := I.write (t' := tk) (x := a) (e := a) (o := exo a C none) (by rw [e]; exact True.intro) (.inl rfl) k ⟨_, hx⟩ (exo_ok hx)
  have eu : upd H a (exo a C none) = H := by
    funext b
    by_cases hb : b = a
    · rw [hb, upd_same, e]
    · rw [upd_ne hb]
  rw [eu] at J
  exact h _ J
/-- super().__init__('..') in an own error's __init__ -/
theorem xsup_expr {a : Addr} {t : Str} {j : Nat} {p0 p1 apos pc pos : Pos} {pl : Sem Bool} (SK : SupK X.prog X.K X.mg f cda cc D ar) (SE : SupE X.K C D) (T : OexC X.K C) (I : Inv X pins σ H s)
    (hks : X.env.kindOf "super" = some .globalImplicit) (hkc : X.env.kindOf "__class__" = some .free) (hfu : X.env.func = some f) (hco : X.env.code = .ref cda) (hcl : X.env.cells.lookup ("__class__" : Str) = some cc)
    (hN : X.N[0]? = some ar) (hka : X.env.scope.names.lookup ar = some .local) (h0 : σ[0]? = some (some (.ref a))) (hx : H a = some (exo a C none)) (h : Q .non H)
    (ht : eval (.Call (.Attribute (.Call (.Name "super" p0) [] [] p1) "__init__" apos) [.Constant (.str t) j pc] [] pos) X.env = (do
      let ov ← attributeBase (.Call (.Name "super" p0) [] [] p1) "__init__" X.env (eval (.Call (.Name "super" p0) [] [] p1) X.env)
      standAt apos.atName
      let (f, first) ← holding [ov] (getMethod ov "__init__" pl)
      callWith pos f first (backTo pos (starEach [.Constant (.str t) j pc] X.env)) []) := by rfl)
    (hst : starEach [.Constant (.str t) j pc] X.env = (false, eval (.Constant (.str t) j pc) X.env) :: starEach [] X.env := by rfl) :
    _root_.PySem.wpAt (model X.prog X.w) X.A (.func body X.env) (eval (.Call (.Attribute (.Call (.Name "super" p0) [] [] p1) "__init__" apos) [.Constant (.str t) j pc] [] pos) X.env) (EP X pins σ Q) X.xe s := by
  refine PySem.ks_wpAt_MethodCall (pl := pl) ?_ ht
  obtain ⟨t1, ho⟩ := exo_at I.hok hx
  have IA : PySem.W.InstAt s.heap a { cls := .ref C, dict := none, data := .fields #[.ref t1, .none, .none, .none, .bool false, .none] } C none := ⟨ho, rfl, rfl, trivial⟩
  refine sup_nodeI SK (by decide) SE.sub I hks hkc hfu hco hcl hN hka h0 IA fun so h' hso kp hsz => ?_
  have I1 : Inv X pins σ H { s with heap := h' } := I.kept kp
  have IA1 : PySem.W.InstAt h' a { cls := .ref C, dict := none, data := .fields #[.ref t1, .none, .none, .none, .bool false, .none] } C none := ⟨kp _ _ ho, rfl, rfl, trivial⟩
  have IC : ∃ cdC, PySem.W.clsIn X.K C = some cdC ∧ PySem.W.alongIn X.K "__init__" ((cdC.mro.dropWhile (· != .ref D)).drop 1) = some (some (.builtin "ValueError.__init__")) := by
    have := SE.at_
    unfold PySem.W.ks_superIn at this
    cases hc : PySem.W.clsIn X.K C with
    | none => rw [hc] at this; cases this
    | some cdC => rw [hc] at this; exact ⟨cdC, rfl, this⟩
  obtain ⟨cdC, hcC, hal⟩ := IC
  have hI : PySem.W.Looks (model X.prog X.w) h' (isInstance (.ref a) (.type "ValueError")) true := IA1.type.andThen (PySem.W.looks_subIn I1.kIn SE.ve)
  obtain ⟨hh, g, d, tk, os⟩ := s
  refine PySem.W.kxs_getMethod PySem.W.kxs_ValueError hso (PySem.W.looks_opaque I1.kIn SK.op) (l₀ := cdC.mro) (fun A Q E s k q => wpAny_bind ((PySem.W.looks_clsIn I1.kIn hcC) A _ E s k (wpAny_pure q))) rfl I1.kIn hal hI (PySem.W.ks_ne I1.kIn IA1 hcC) (by decide) ?_
  have I2 : Inv X pins σ H ⟨h'.push (PySem.W.kxs_mw "ValueError.__init__" a), g, d, tk + 1, os⟩ := I1.kept fun b o e => Heap.get?_push_of_some _ e
  have hq0 : h'.objs.size ≠ X.env.locals := fun z => by
    have := I1.lt
    rw [← z] at this
    exact Nat.lt_irrefl _ this
  have I3 := inv_more (q := h'.objs.size) (o := PySem.W.kxs_mw "ValueError.__init__" a) I2 (Heap.get?_push_size _ rfl) (I1.hok.fresh (Nat.le_refl _)) hq0 (I1.nofs (Nat.le_refl _)) (fun v e => by cases e)
  rw [hst]
  refine PySem.W.kxs_callWith (i := "ValueError.__init__") (x := a) rfl (PySem.Calls.evalArgs_plain ?_)
  have hc := (pa_cons (X := X) (pe_str (x := t) (j := j) (pos := pc)) pa_nil hst).run pos ((h'.objs.size, PySem.W.kxs_mw "ValueError.__init__" a) :: pins) _ σ H (fun vs H1 => vs.length = 1 ∧ H1 = H) I3 ⟨rfl, rfl⟩
  rw [hst] at hc
  refine wpAny_mono hc (fun us s3 ⟨vs, H3, I4, r, hv, eH⟩ => ?_) fun _ _ z => z
  subst eH
  have hb3 := (I4.pin _ (List.mem_append_right _ List.mem_cons_self)).1
  refine ⟨hb3, ?_⟩
  have hus : us.length ≤ sizeLine := by
    rw [← r.length, hv]; decide
  exact oinit_bound T I4 hb3 hx hus fun s' J => ⟨.non, _, inv_fewer J, rfl, h⟩
end
end LP
set_option maxHeartbeats 4000000
namespace LP
open PySem PySem.Spec PyProof.Rows L2
/-- what C's __init__(self, y) leaves: code and the field fd -/
def spE (C : Addr) (code fld : Str) : Sp := fun vs H Q E => ∃ a y, vs = [.ref a, y] ∧ H a = some (exo a C none) ∧ ∀ dx, H dx = none → dx ≠ a →
  Q .non (upd (upd (upd H dx (exd dx [("code", .str code)])) a (exo a C (some dx))) dx (exd dx [(fld, y), ("code", .str code)]))
/-- the body of such an __init__ -/
def errBody (txt code fld par : Str) (j1 j2 : Nat) (p0 p1 p2 p3 p4 p5 p6 p7 p8 p9 p10 p11 p12 p13 : Pos) : List Stmt :=
  [.Expr (.Call (.Attribute (.Call (.Name "super" p0) [] [] p1) "__init__" p2) [.Constant (.str txt) j1 p3] [] p4) p5,
   .Assign [.Attribute (.Name "self" p6) "code" p7] (.Constant (.str code) j2 p8) p9,
   .Assign [.Attribute (.Name "self" p10) fld p11] (.Name par p12) p13]
structure ErrC (K : PySem.W.Frag) (C D : Addr) (fld : Str) : Prop where
  ox : OexC K C
  se : SupE K C D
  nc : PySem.W.findIn K (.ref C) "code" = some none
  nf : PySem.W.findIn K (.ref C) fld = some none
theorem err_init {P : Program} {w0 : World} {K : PySem.W.Frag} {mg : Str → Option Value} {base : Heap} {x qual txt code fld par : Str} {params : Arguments} {scope : Scope} {dvs : List V} {f cda cc C D : Addr} {fd : FuncData} {k : Nat} {j1 j2 : Nat} {p0 p1 p2 p3 p4 p5 p6 p7 p8 p9 p10 p11 p12 p13 : Pos}
    (F : FunS K x qual params (errBody txt code fld par j1 j2 p0 p1 p2 p3 p4 p5 p6 p7 p8 p9 p10 p11 p12 p13) scope dvs f fd cda cc) (S : FnScopeS ["self", par] ["self", par] scope) (SK : SupK P K mg f cda cc D "self") (EC : ErrC K C D fld)
    (hks : scope.names.lookup ("super" : Str) = some .globalImplicit) (hkc : scope.names.lookup ("__class__" : Str) = some .free) (hks2 : scope.names.lookup ("self" : Str) = some .local) (hkp : scope.names.lookup par = some .local)
    (hd1 : (par == ("__debug__" : Str)) = false) (hd2 : (par == ("__classdict__" : Str)) = false) (hsw : ∀ env : Env, swapsWith (.Name par p12) (some (.Attribute (.Name "self" p10) fld p11)) p13.line env = pure false) (hi : ∀ L, interactive (PySem.W.ksEnv qual scope L f (.ref cda) cc) = false)
    (hev : ∀ env : Env, ∃ pl : Sem Bool, eval (.Call (.Attribute (.Call (.Name "super" p0) [] [] p1) "__init__" p2) [.Constant (.str txt) j1 p3] [] p4) env = (do
      let ov ← attributeBase (.Call (.Name "super" p0) [] [] p1) "__init__" env (eval (.Call (.Name "super" p0) [] [] p1) env)
      standAt p2.atName
      let (f, first) ← holding [ov] (getMethod ov "__init__" pl)
      callWith p4 f first (backTo p4 (starEach [.Constant (.str txt) j1 p3] env)) [])) :
    FnOk P w0 K mg base (L2.CX P w0) (k + 1) f fd ["self", par] (spE C code fld) := by
  refine fnS_ok F S (fun vs H Q E h => ?_) (fun A outer s H vs Q E hr h => ?_)
  · obtain ⟨a, y, rfl, _⟩ := h; rfl
  · obtain ⟨a, y, rfl, ha, hQ⟩ := h
    intro pins s1 I
    obtain ⟨pl, hpl⟩ := hev (supD P w0 K mg base ["self", par] qual scope f cda cc A outer s H E).env
    refine PySem.ks_wpAt_execs_cons (PySem.ks_wpAt_Expr_any (PySem.ks_wpAt_mono (xsup_expr (X := supD P w0 K mg base ["self", par] qual scope f cda cc A outer s H E) (body := errBody txt code fld par j1 j2 p0 p1 p2 p3 p4 p5 p6 p7 p8 p9 p10 p11 p12 p13) (Q := fun v H1 => v = .non ∧ H1 = H) SK EC.se EC.ox I hks hkc rfl rfl rfl rfl hks2 rfl ha ⟨rfl, rfl⟩ (ht := hpl)) (fun v s2 hv => ?_) fun _ _ z => z) (hi _))
    obtain ⟨v', H2, I2, rv, _, eH⟩ := hv
    subst eH
    refine PySem.wpAt_of_wpAny ?_
    have vis : Vis (supD P w0 K mg base ["self", par] qual scope f cda cc A outer s H2 E).env.scope "self" := .inl hks2
    have visp : Vis (supD P w0 K mg base ["self", par] qual scope f cda cc A outer s H2 E).env.scope par := .inl hkp
    have st1 := ps_ost (X := supD P w0 K mg base ["self", par] qual scope f cda cc A outer s H2 E) (f := "code") (p' := p7) (pos := p9) (pe_var (i := 0) (x := "self") (pos := p6) rfl vis) (pe_str (x := code) (j := j2) (pos := p8))
    have st2 := ps_ost (X := supD P w0 K mg base ["self", par] qual scope f cda cc A outer s H2 E) (f := fld) (p' := p11) (pos := p13) (pe_var (i := 0) (x := "self") (pos := p10) rfl vis) (pe_var (i := 1) (x := par) (pos := p12) rfl visp hd1 hd2) (hsw _)
    refine (pss_cons st1 (pss_one st2)).run pins s2 _ _ _ I2 ?_
    refine ⟨.ref a, rfl, a, C, rfl, EC.ox, EC.nc, .inl ⟨ha, fun dx hdx hne => ?_⟩⟩
    refine ⟨y, rfl, .ref a, rfl, a, C, rfl, EC.ox, EC.nf, .inr ⟨dx, [("code", .str code)], upd_same, ?_, by simp, hQ dx hdx hne⟩⟩
    rw [upd_ne hne, upd_same]
end LP
set_option maxHeartbeats 4000000
namespace LP
open PySem PySem.Spec PyProof.Rows L2
structure ErrP (P : Program) (w : World) (K : PySem.W.Frag) (mg : Str → Option Value) (base : Heap) (ci : Ci) (k : Nat) (c : Nat) (x code fld : Str) : Prop where
  ox : OexC K (ci c).1
  m : mg x = some (.ref (ci c).1)
  ex : ∃ (fI : Addr) (fd : FuncData) (ps : List Str), PySem.W.findIn K (.ref (ci c).1) "__init__" = some (some (.ref fI)) ∧ PySem.W.typeIn K (.ref fI) = some (.type "function") ∧ FnOk P w K mg base (L2.CX P w) k fI fd ps (spE (ci c).1 code fld) ∧ Binds K fd ps []
def wRaise (c : Nat) (code fld : Str) (w : WE) : WS := fun Γ S D => w Γ S D.ex fun a S1 => ∃ d, a = .d d ∧ D.ex ⟨c, [(fld, d), ("code", .str code)]⟩ S1
section
variable {X : Cx} {ci : Ci} {k c : Nat} {x code fld : Str} {p pos pos' : Pos} {e : Expr} {w : WE}
theorem rs_raise (EP : ErrP X.prog X.w X.K X.mg X.base ci k c x code fld) (hc : X.calm = true) (hr : Room (k + 1) X.A) (hg : Gl X x) (he : RE ci X e w) (hdb : (x == ("__debug__" : Str)) = false := by decide +kernel)
    (hst : starEach [e] X.env = (false, eval e X.env) :: starEach [] X.env := by kernel_rfl) : RS ci X (.Raise (some (.Call (.Name x p) [e] [] pos)) none pos') (wRaise c code fld w) := fun F D xo T Γ S σ H r q => by
  obtain ⟨fI, fd, ps, h1, h2, h3, h4⟩ := EP.ex
  refine wpS_of (ps_raise hc xo (pmk_oex (CX := L2.CX X.prog X.w) (dvs := []) (ds := []) EP.ox h1 h2 h3 hr h4 .nil passL hg EP.m pa_wp hdb hst rfl)) ?_
  refine wpA_mono (ra_cons he ra_nil hst F D.ex xo T Γ S σ H (fun as S1 => match as with | [a] => ∃ d, a = .d d ∧ D.ex ⟨c, [(fld, d), ("code", .str code)]⟩ S1 | _ => False) r q) fun vs H1 ⟨as, S1, hz, hn, r1, q1⟩ => ?_
  match as, vs, hz, hn, q1 with
  | [a], [y], _, _, ⟨d, ha, q1⟩ =>
    subst ha
    refine ⟨by simp, fun a hna => ⟨a, y, rfl, upd_same, fun dx hdx hne => ⟨rfl, dx, [(fld, y), ("code", .str code)], ?_, upd_same, ?_, ?_⟩⟩⟩
    · rw [upd_ne (Ne.symm hne), upd_same]
    · rw [upd_ne hne] at hdx
      exact hdx
    · have hdx1 : H1 dx = none := by rw [upd_ne hne] at hdx; exact hdx
      have eH : upd (del (upd (upd (upd (upd H1 a (exo a (ci c).1 none)) dx (exd dx [("code", .str code)])) a (exo a (ci c).1 (some dx))) dx (exd dx [(fld, y), ("code", .str code)])) a) dx (.xd [(fld, y), ("code", .str code)]) = upd H1 dx (.xd [(fld, y), ("code", .str code)]) := by
        funext b
        by_cases hb : b = dx
        · rw [hb, upd_same, upd_same]
        · rw [upd_ne hb, upd_ne hb]
          by_cases hb2 : b = a
          · rw [hb2, del_same, hna]
          · rw [del_ne hb2, upd_ne hb, upd_ne hb2, upd_ne hb, upd_ne hb2]
      rw [eH]
      obtain ⟨ρ, r1⟩ := r1
      have hmu : dx ∉ mu F ρ S1 := fun hm => by
        rcases List.mem_append.mp hm with hm | hm
        · exact r1.freshM hdx1 hm
        · obtain ⟨n1, n2⟩ := r1.fo _ hm
          cases eo : F.H dx with
          | none => exact n2 eo
          | some o => have := r1.ext _ _ eo n1; rw [hdx1] at this; cases this
      have R0 := r1.tl (.d d, y) (by simp)
      have r2 := (r1.bare).alloc (o := .xd [(fld, y), ("code", .str code)]) hdx1
      refine ⟨_, S1, ρ, r2.drop (fun q hq => absurd hq List.not_mem_nil), ⟨rfl, dx, [y, .str code], rfl, upd_same, hmu, rfl, ?_⟩, q1⟩
      refine .cons ?_ (.cons ?_ .nil)
      · exact Rep.mono (fun b o eo n => ⟨by rw [upd_ne (ne_of_none eo hdx1)]; exact eo, n⟩) d y R0
      · rw [Rep]
end
end LP
set_option maxHeartbeats 2000000
namespace LP
open PySem PySem.Spec PyProof.Rows L2
theorem fly_keeps {B : Heap} {l : List Env} {a : Addr} {Z : Obj → Prop} {h g : Heap} (fl : HandSPX.FlyingZ B l a Z h) (k : ∀ b o, h.get? b = some o → g.get? b = some o) : HandSPX.FlyingZ B l a Z g := by
  obtain ⟨e1, e2, e3, oe, vs, T, oT, ts, q1, q2, q3, q4, q5, q6, q7, q8, q9⟩ := fl
  exact ⟨fun b o e => k b o (e1 b o e), e2, e3.of_keeps fun b o e _ => ⟨o, k b o e, rfl⟩, oe, vs, T, oT, ts, k _ _ q1, q2, q3, q4, q5, q6, k _ _ q7, q8, q9⟩
def wTry3 (K : PySem.W.Frag) (cs : List Value) (i : Nat) (ts : Addr → Value → Option Addr → TS) (D : Ends) : WX := fun cls d ς G =>
  PySem.W.exmAny K cls cs = some true ∧ ∀ a, G a = none → ts a cls d { nx := fun ς' G' => D.nx (ς'.set i none) G', rt := D.rt, bk := fun ς' G' => D.bk (ς'.set i none) G', ct := fun ς' G' => D.ct (ς'.set i none) G' } (ς.set i (some (.ref a))) G
section
variable {X : Cx} {x1 x2 x3 n : Str} {c1 c2 c3 : Value} {i kk : Nat} {body rest : List Stmt} {b1 : Stmt} {p1 p2 p3 tp hp pos : Pos} {tb : WX → TS} {ts : Addr → Value → Option Addr → TS}
theorem ps_tryT (hs : X.stack = X.env :: X.outer) (hf : X.env.frame = some X.env.locals) (hN : X.N.Nodup) (hi : X.N[i]? = some n) (hln : X.env.kindOf n = some .local) (m1 : Names X x1 c1) (m2 : Names X x2 c2) (m3 : Names X x3 c3)
    (hb : ∀ (W : WX) (pn : List (Addr × Obj)) (xe : Value → Shared → Prop), Takes (X.tr pn xe) W → PassesOwn (model X.prog X.w) X.A X.env xe → PSs (X.tr pn xe) body (tb W))
    (hsu : ∀ (a : Addr) (oe : Obj) (cls : Value) (d : Option Addr) (pn : List (Addr × Obj)), Zc cls d oe → (∃ vs, oe.data = .fields vs) → PSs (X.suite a ((a, oe) :: pn)) (b1 :: rest) (ts a cls d)) :
    PS X (.Try body [.ExceptHandler (some (.Tuple [.Name x1 p1, .Name x2 p2, .Name x3 p3] kk tp)) (some n) (b1 :: rest) hp] [] [] pos) (fun D ς G => tb (wTry3 X.K [c1, c2, c3] i ts D) D ς G) := by
  refine ⟨fun pz s0 ς G D J0 w0 => ?_⟩
  have okX := J0.ok
  have frX : X.A.frames = some (X.env :: X.outer) := okX.frames.trans (by rw [hs])
  refine wpAny_Try_except (wpAny_mono ((hb (wTry3 X.K [c1, c2, c3] i ts D) (X.pn ++ pz) (fun v t1 => wpAny (model X.prog X.w) X.A (noteFrame v X.env) (fun _ t2 => wpAny (model X.prog X.w) X.A (setFlight v none) (fun _ t3 =>
    wpAny (model X.prog X.w) X.A (handleBy v X.env [.ExceptHandler (some (.Tuple [.Name x1 p1, .Name x2 p2, .Name x3 p3] kk tp)) (some n) (b1 :: rest) hp]) (SP X pz D) X.xe t3) X.xe t2) X.xe t1) (fun v t1 z => ?_) PassesOwn.looking).run [] s0 ς G D (J0.toTry _) w0) (fun fl t1 z => ?_) fun v t1 z => z)
  · obtain ⟨a, B, sJ, pj, ςj, Gj, cls, d, rfl, Jj, nb, up, sky, na, os, ag, tru, yes⟩ := z
    have Jx : Inv X pz ςj Gj sJ := Jj.ofTry okX
    rw [hs] at sky
    show wpAny (model X.prog X.w) X.A (noteFrame (.ref a) X.env) _ _ _
    refine Sky.land Zc.steady frX hf sky fun g3 f3 u3 => ?_
    have L3 : Inv X pz ςj Gj { t1 with heap := g3 } := Jx.landed nb f3.1 (up.trans u3) os ag
    obtain ⟨o3, vs3, get3, z3, dat3⟩ := f3.there
    have nfr : a ∉ frs (X.env :: X.outer) := fun hm => by
      obtain ⟨_, o', e', hnf⟩ := f3.2.2.1.mem hm
      rw [get3] at e'; cases e'
      exact hnf _ dat3
    have nL : a ≠ X.env.locals := fun e => nfr (List.mem_filterMap.mpr ⟨X.env, List.mem_cons_self, by rw [hf, e]⟩)
    have nF : a ∉ X.fs := fun hm => by
      obtain ⟨e, he, q⟩ := List.mem_filterMap.mp hm
      exact nfr (List.mem_filterMap.mpr ⟨e, List.mem_cons_of_mem _ he, q⟩)
    have S3 := L3.suite get3 dat3 na nL nF
    refine wpAny_handleBy_cons (codeAny_handlers_test ?_) (by intro q; cases q)
    have name : ∀ {y : Str} {c : Value} {yp : Pos} {Q : Value → Shared → Prop} {E : Value → Shared → Prop}, Names X y c → Q c { t1 with heap := g3 } → wpAny (model X.prog X.w) (X.A.mark (some (.ref a))) (eval (.Name y yp) X.env) Q E { t1 with heap := g3 } := fun {y c yp Q E} hc q => by
      obtain ⟨hg, hdbg, hm | ⟨hm, hv, hnn⟩⟩ := hc
      · exact ld_glob (X := X.suite a ((a, o3) :: (X.pn ++ pz))) S3 hg hm q hdbg
      · exact ld_blt (X := X.suite a ((a, o3) :: (X.pn ++ pz))) S3 hg hm hv q hnn hdbg
    refine wpAny_Tuple (wpAny_items_cons (name m1 (wpAny_items_cons (name m2 (wpAny_items_cons (name m3 (wpAny_items_nil ⟨by size_fits, ?_⟩)))))))
    have kp : ∀ b o, g3.get? b = some o → (g3.push { cls := .type "tuple", data := .seq [c1, c2, c3].toArray }).get? b = some o := fun _ _ e => Heap.get?_push_of_some _ e
    have look : PySem.W.Looks (model X.prog X.w) g3 (typeOf (.ref a)) cls := fun A Q E s k q => wpAny_typeOf_ref (k _ _ get3) (by rw [z3.1]; exact q)
    have tst := PySem.W.exm_tup3 (M := model X.prog X.w) (L3.kIn.keeps kp) (look.keeps kp) (Heap.get?_push_size g3 rfl) tru
    refine tst.here ?_
    refine codeAny_handlers_suite_as (HandSPX.lands_againZ (fly_keeps f3 kp) fun g4 f4 u4 => ?_)
    have L4 : Inv X pz ςj Gj { t1 with heap := g4 } := Jx.landed nb f4.1 (((up.trans u3).trans (Heap.UpToSlots.of_keeps kp)).trans u4) os ag
    obtain ⟨o4, vs4, get4, z4, dat4⟩ := f4.there
    refine store_ok (X := X.suite a ((a, o4) :: (X.pn ++ pz))) (v := .ref a) (L4.suite get4 dat4 na nL nF) hN hi (.inl hln) rfl (fun s5 S5 => ?_) (.inr hln)
    refine wpAny_mono ((hsu a o4 cls d (X.pn ++ pz) z4 ⟨_, dat4⟩).run [] s5 _ Gj _ S5 (yes a na)) (fun fl s6 z => ?_) (fun _ _ z => False.elim z)
    cases fl with
    | next => obtain ⟨ς6, G6, S6, q6⟩ := z; exact gone_ok (S6.unsuite okX) hN hi hln fun s7 J7 => ⟨_, _, J7, q6⟩
    | brk => obtain ⟨ς6, G6, S6, q6⟩ := z; exact gone_ok (S6.unsuite okX) hN hi hln fun s7 J7 => ⟨_, _, J7, q6⟩
    | cont => obtain ⟨ς6, G6, S6, q6⟩ := z; exact gone_ok (S6.unsuite okX) hN hi hln fun s7 J7 => ⟨_, _, J7, q6⟩
    | ret u => obtain ⟨v6, ς6, G6, S6, r6, q6⟩ := z; exact gone_ok (S6.unsuite okX) hN hi hln fun s7 J7 => ⟨_, _, _, J7, r6, q6⟩
  · cases fl with
    | next => obtain ⟨ς1, G1, J1, q⟩ := z; exact wpAny_execs_nil ⟨ς1, G1, J1.ofTry okX, q⟩
    | brk => obtain ⟨ς1, G1, J1, q⟩ := z; exact ⟨ς1, G1, J1.ofTry okX, q⟩
    | cont => obtain ⟨ς1, G1, J1, q⟩ := z; exact ⟨ς1, G1, J1.ofTry okX, q⟩
    | ret u => obtain ⟨v, ς1, G1, J1, r, q⟩ := z; exact ⟨v, ς1, G1, J1.ofTry okX, r, q⟩
end
end LP
set_option maxHeartbeats 2000000
namespace LP
open PySem PySem.Spec PyProof.Rows L2
def fXf (a dx : Addr) (fe : QF) (n : Str) : QF := fun Γ S => (fe Γ S).bind fun x => match x with
  | .loc k => match S[k]? with
    | some (.exo a' dx' fs) => if a' = a ∧ dx' = dx then (fs.lookup n).map A.d else none
    | _ => none
  | _ => none
theorem look_zip {K : PySem.W.Frag} {ci : Ci} {M : List Addr} {H : Hp} {n : Str} {d : D} : ∀ {fs : List (Str × D)} {vs : List V}, Reps K ci M H (fs.map (·.2)) vs → fs.lookup n = some d → ∃ v, ((fs.map (·.1)).zip vs).lookup n = some v ∧ Rep K ci M H d v
  | [], vs, r, e => by cases e
  | (m, x) :: fs, vs, r, e => by
    rw [List.map_cons, Reps] at r
    obtain ⟨v, rr, rfl, r1, r2⟩ := r
    rw [List.lookup_cons] at e
    rw [List.map_cons, List.zip_cons_cons]
    show ∃ v', List.lookup n ((m, v) :: _) = some v' ∧ _
    rw [List.lookup_cons]
    cases h : n == m with
    | true => rw [h] at e; cases e; exact ⟨v, rfl, r1⟩
    | false => rw [h] at e; exact look_zip r2 e
section
variable {ci : Ci} {X : Cx} {a dx C : Addr} {oe : Obj} {e : Expr} {fe : QF} {pos : Pos} {n : Str}
/-- what a context must know of a caught error -/
structure ExoC (X : Cx) (a dx C : Addr) (oe : Obj) : Prop where
  xf : XfC X.K C
  pin : (a, oe) ∈ X.pn
  z : Zc (.ref C) (some dx) oe
  flds : ∃ vs, oe.data = .fields vs
theorem rp_xf (T : ExoC X a dx C oe) (hno : PySem.W.findIn X.K (.ref C) n = some none) (he : RP ci X e fe) (hb : attributeBase e n X.env (eval e X.env) = eval e X.env := by rfl) : RP ci X (.Attribute e n pos) (fXf a dx fe n) := fun F U Γ S σ H b r q => by
  unfold fXf at q
  cases e1 : fe Γ S with
  | none => rw [e1] at q; cases q
  | some x =>
    rw [e1, Option.bind_some] at q
    refine fun pins s I => attr_of hb (thn (he F U Γ S σ H _ r e1 pins s I) fun u s1 hu => ?_)
    obtain ⟨v, H1, I1, rv, ⟨ρ, r1⟩⟩ := hu
    split at q
    · rename_i k
      split at q
      · rename_i a' dx' fs hk
        split at q
        · rename_i hh
          obtain ⟨rfl, rfl⟩ := hh
          cases e2 : fs.lookup n with
          | none => rw [e2] at q; cases q
          | some d =>
            rw [e2] at q
            cases q
            obtain ⟨p, hp, rfl⟩ := r1.top (a := .loc k) List.mem_cons_self
            obtain ⟨rfl, vs, ex, nx, zl, q2⟩ := r1.st k p _ hp hk
            obtain ⟨v, lv, rv2⟩ := look_zip q2 e2
            obtain rfl : u = Value.ref p := rv
            obtain ⟨ga, _⟩ := I1.pin (p, oe) (List.mem_append_left _ T.pin)
            obtain ⟨ws, hd⟩ := T.flds
            have ok : ObjOk X.prog X.w H1 s1.heap dx' (.xd ((fs.map (·.1)).zip vs)) := I1.hok dx' _ ex
            obtain ⟨mA, hns, hr⟩ := ok
            obtain ⟨od, ho, hl⟩ := lookIn_ns hns
            obtain ⟨u2, hu2, ru⟩ := RelO.some_of (v := v) (o := mA n) (by rw [← lv]; exact hr n)
            have J : PySem.W.InstAt s1.heap p oe C (some od) := ⟨ga, T.z.1, by unfold PySem.W.notCls; rw [hd] <;> rfl, by rw [T.z.2]; exact ho⟩
            exact HandSPX.exc_get I1.kIn J T.xf.ga T.xf.gg T.xf.exC (PySem.W.findObj_own T.xf.hdC hno rfl (by rw [hl, hu2])) (handed_of ru) ⟨v, H1, I1.tok _, ru, ⟨ρ, (r1.drop fun x hx => List.mem_cons_of_mem _ hx).push rv2⟩⟩
        · cases q
      · cases q
    · cases q
end
section
variable {P : Program} {w0 : World} {K : PySem.W.Frag} {mg : Str → Option Value} {base : Heap} {ci : Ci} {x qual : Str} {params : Arguments} {body : List Stmt} {scope : Scope} {f : Addr} {fd : FuncData} {N : List Str} {pe : Str} {k : Nat} {a dx C : Addr} {oe : Obj}
/-- the body, in the context that bears the error -/
abbrev BodyX (P : Program) (w0 : World) (K : PySem.W.Frag) (mg : Str → Option Value) (base : Heap) (ci : Ci) (N : List Str) (qual : Str) (scope : Scope) (f : Addr) (body : List Stmt) (w : Addr → Addr → WS) (C : Addr) : Prop :=
  ∀ (a dx : Addr) (oe : Obj) (cdv : Value) (A : Around) (outer : List Env) (s : Shared) (H : Hp) (E : XK), L2H.RoomH 0 (L2H.cxH (L2.CX P w0) P w0 K mg base N qual scope f cdv A outer s H E (a, oe)).A → ExoC (L2H.cxH (L2.CX P w0) P w0 K mg base N qual scope f cdv A outer s H E (a, oe)) a dx C oe → RSs ci (L2H.cxH (L2.CX P w0) P w0 K mg base N qual scope f cdv A outer s H E (a, oe)) body (w a dx)
theorem run_hot {A : Around} {outer : List Env} {s : Shared} {H : Hp} {args : Args} {Q : VK} {E : XK} {q : Addr × Obj} {u : Value} {v : V} {t : TS} (F : FunD K x qual params body scope [] [] f fd) (S : FnScope N [pe] scope) (hr : A.depth < recursionLimit) (pin : L2H.PinOk outer H s q)
    (e0 : Env0 P w0 K mg base A outer s H) (bi : BindsTo s fd args [(pe, u)]) (rv : RelV v u)
    (hb : ∀ cdv, PSs (L2H.cxH (L2.CX P w0) P w0 K mg base N qual scope f cdv A outer s H E q) body t) (hq : t { nx := fun _ H' => Q .non H', rt := Q } (L2.start N [v]) H) :
    codeAny (model P w0) A (.call (.ref f) args) (CR (L2.CX P w0) outer P w0 H s Q E) s := by
  obtain ⟨oc, od, dV, kV, doc, pm, an, cdv, ct, osl, rfl, lk, hcd, _, _⟩ := F.ex
  have kin : K.In s.heap := e0.mod.kin.keeps fun b o z => (e0.bs b o z).1
  have par : ∀ y ∈ [(pe, u)], scope.names.lookup y.1 = some .local ∨ (scope.names.lookup y.1 = some .cell ∧ ((cellsFrom (s.heap.objs.size + 1) scope.names []).lookup y.1).isSome = true) := fun y hy => by
    have e : y = (pe, u) := by simpa using hy
    subst e
    exact (S.par pe List.mem_cons_self).imp id fun z => ⟨z, PySem.W.cellsFrom_some _ _ _ (.inl z)⟩
  refine codeAny_call_function hr (kin _ _ lk) rfl S.co S.gen rfl (PySem.W.codeRec_of kin hcd) (bi _ _ _ _ (wpAny_newFunctionEnv_cells S.kind par fun env he s1 z => ?_))
  subst he
  refine ⟨(e0.mod.nolimit.keeps fun b o z => (e0.bs b o z).1).keeps z.toInCall.keep, codeAny_func ?_⟩
  refine wpAny_mono ((hb cdv).run [] s1 (L2.start N [v]) H _ (L2H.inv_startH (us := [u]) (vs := [v]) S pin e0 rfl (.cons rv .nil) z) hq) (fun fl s2 y => ?_) fun _ _ y => y
  cases fl with
  | ret u => obtain ⟨v2, σ2, H2, J, r2, y⟩ := y; exact ⟨v2, H2, J.os, J.bare, J.base, J.hok, r2, y⟩
  | next => obtain ⟨σ2, H2, J, y⟩ := y; exact ⟨.non, H2, J.os, J.bare, J.base, J.hok, rfl, y⟩
  | brk => obtain ⟨_, _, _, y⟩ := y; exact y.elim
  | cont => obtain ⟨_, _, _, y⟩ := y; exact y.elim
end
end LP
set_option maxHeartbeats 2000000
namespace LP
open PySem PySem.Spec PyProof.Rows L2
end LP
set_option maxHeartbeats 2000000
namespace LP
open PySem PySem.Spec PyProof.Rows L2
/-- what the field's def tells, by the attributes -/
abbrev FieldC := List (Str × D) → Option D
/-- what _law_why tells of an error -/
def whyT (G : FieldC) (er : Er) : Option D := match er.fs.lookup ("code" : Str), G er.fs with
  | some x, some y => some (.tup [x, y])
  | _, _ => none
structure WhyT where
  ask : Str
  x1 : Str
  x2 : Str
  x3 : Str
  en : Str
  fn : Str
/-- the text of such a def -/
def WhyIs (t : WhyT) (bg : List Stmt) : Prop := ∃ (j1 k1 k2 k3 : Nat) (q1 q2 q3 q4 q5 q6 q7 q8 q9 q10 q11 q12 q13 q14 q15 r1 r2 r3 : Pos), bg = [.Try [.Return (some (.Tuple [.Constant (.str "value") j1 q1, .Call (.Name t.ask q2) [] [] q3] k1 q4)) q5]
    [.ExceptHandler (some (.Tuple [.Name t.x1 r1, .Name t.x2 r2, .Name t.x3 r3] k2 q6)) (some t.en) [.Return (some (.Tuple [.Attribute (.Name t.en q7) "code" q8, .Call (.Name t.fn q9) [.Name t.en q10] [] q11] k3 q12)) q13] q14] [] [] q15]
/-- the field's def, called with a caught error of a class -/
structure FieldS (P : Program) (w : World) (K : PySem.W.Frag) (mg : Str → Option Value) (base : Heap) (ci : Ci) (cs : List Nat) (x : Str) (G : FieldC) : Prop where
  ex : ∃ (f : Addr) (fd : FuncData) (pa : Arguments) (body : List Stmt) (scope : Scope) (N : List Str) (pe : Str) (wf : Addr → Addr → WS), FunD K x x pa body scope [] [] f fd ∧ FnScope N [pe] scope ∧ mg x = some (.ref f) ∧ Binds K fd [pe] [] ∧
    (∀ c ∈ cs, BodyX P w K mg base ci N x scope f body wf (ci c).1) ∧ (∀ a dx fs d, G fs = some d → wf a dx (stG N [.loc 0]) [.exo a dx fs] { nx := fun _ _ => False, rt := fun b _ => b = .d d, ex := fun _ _ => False })
def fEfl (a dx : Addr) (G : FieldC) (fe : QF) : QF := fun Γ S => (fe Γ S).bind fun x => match x with
  | .loc k => match S[k]? with
    | some (.exo a' dx' fs) => if a' = a ∧ dx' = dx then (G fs).map A.d else none
    | _ => none
  | _ => none
section
variable {ci : Ci} {X : Cx} {a dx : Addr} {oe : Obj} {e : Expr} {fe : QF} {pos q : Pos} {x : Str} {cs : List Nat} {c : Nat} {G : FieldC}
theorem rp_efl (FS : FieldS X.prog X.w X.K X.mg X.base ci cs x G) (hc : c ∈ cs) (T : ExoC X a dx (ci c).1 oe) (hd : L2H.RoomH 1 X.A) (hg : Gl X x) (he : RP ci X e fe) (hdb : (x == ("__debug__" : Str)) = false := by decide +kernel)
    (hst : starEach [e] X.env = (false, eval e X.env) :: starEach [] X.env := by kernel_rfl) (hpl : (backTo pos (starEach [] X.env)).any (·.1) = false := by kernel_rfl) : RP ci X (.Call (.Name x q) [e] [] pos) (fEfl a dx G fe) := fun F U Γ S σ H b r qq => by
  unfold fEfl at qq
  obtain ⟨f, fd, pa, body, scope, N, pe, wf, F1, sc, hm, hbd, hB, hv⟩ := FS.ex
  cases e1 : fe Γ S with
  | none => rw [e1] at qq; cases qq
  | some y =>
    rw [e1, Option.bind_some] at qq
    split at qq
    · rename_i k
      split at qq
      · rename_i a' dx' fs hk
        split at qq
        · rename_i hh
          obtain ⟨rfl, rfl⟩ := hh
          cases e2 : G fs with
          | none => rw [e2] at qq; cases qq
          | some d =>
            rw [e2] at qq
            cases qq
            refine fun pins s I => wpAny_Call_Name_kw (ld_glob I hg hm ?_ hdb)
            refine PySem.W.callWith_K (h₀ := X.base) I.ok.mod.kin F1.kp ?_ hst hpl
            refine thn ((rps_cons he rps_nil hst).2 F U Γ S σ H [.loc k] r (by simp [fCons, fNil, e1]) pos pins s I) fun us s1 hu => ?_
            obtain ⟨vs, H1, I1, rv, hl, ⟨ρ, r1⟩⟩ := hu
            match vs, us, hl, rv, r1 with
            | [v], [u], _, .cons ru .nil, r1 =>
              obtain ⟨p, hp, rfl⟩ := r1.top (a := .loc k) List.mem_cons_self
              obtain ⟨rfl, ws, ex, nx, zl, q2⟩ := r1.st k p _ hp hk
              refine ⟨I1.kIn, ?_⟩
              have r0 : RelR (F.shut H1 ρ S) [p] [(.loc 0, .ref p)] [] [.exo p dx' fs] [] H1 := by
                have em : mu (F.shut H1 ρ S) [p] [MO.exo p dx' fs] = mu F ρ S := rfl
                refine ⟨List.nil_prefix, rfl, List.nodup_nil, fun j b o h1 h2 => ?_, rfl, fun i b z => (by simp at z), fun z hz => ?_, fun b o z _ => z, fun b z => (by cases z), fun b z => ⟨(by intro y; cases y), fun y => r1.fresh y z⟩⟩
                · cases j with
                  | zero =>
                    cases h1; cases h2
                    rw [em]
                    exact ⟨rfl, ws, ex, nx, zl, q2⟩
                  | succ j => simp at h1
                · have : z = (.loc 0, .ref p) := by simpa using hz
                  subst this
                  exact ⟨p, rfl, rfl⟩
              have rs := rel_start (N := N) (as := [.loc 0]) (vs := [.ref p]) r0 rfl
              have hot := I1.pin (p, oe) (List.mem_append_left _ T.pin)
              have hpin : L2H.PinOk X.stack H1 s1 (p, oe) := ⟨hot.1, hot.2.1, fun hm => (List.mem_cons.mp (I1.stkSub p hm)).elim hot.2.2.1 hot.2.2.2.1, hot.2.2.2.2⟩
              have bi := hbd s1 [u] I1.kIn (by rfl)
              rw [List.append_nil] at bi
              have pe_ := fun cdv => (pss_wp (X := L2H.cxH (L2.CX X.prog X.w) X.prog X.w X.K X.mg X.base N x scope f cdv X.A X.stack s1 H1 C8.E0 (p, oe)) (sts := body))
              have run := run_hot (P := X.prog) (w0 := X.w) (base := X.base) (mg := X.mg) (Q := fun v H' => Rel F ((.d d, v) :: U) Γ S σ H') (E := C8.E0) (A := X.A) (outer := X.stack) (t := fun D ς G' => D.rt = (fun v H' => Rel F ((.d d, v) :: U) Γ S σ H') ∧ ς = L2.start N [.ref p] ∧ G' = H1) F1 sc hd.depth hpin I1.env0 bi ru (fun cdv => ⟨fun pins2 s2 ς G' D I2 ⟨w1, w2, w3⟩ => ?_⟩) ⟨rfl, rfl, rfl⟩
              · refine wpAny_call (codeAny_mono run fun r s' hq => ?_)
                cases r with
                | error er =>
                  obtain ⟨_, _, _, _, _, _, _, _, _, _, _, _, z⟩ := hq
                  exact z.elim
                | ok fl =>
                  cases fl with
                  | ret u => exact I1.after hq
                  | next => exact False.elim hq
                  | brk => exact False.elim hq
                  | cont => exact False.elim hq
              · subst w2 w3
                have T2 : ExoC (L2H.cxH (L2.CX X.prog X.w) X.prog X.w X.K X.mg X.base N x scope f cdv X.A X.stack s1 G' C8.E0 (p, oe)) p dx' (ci c).1 oe := ⟨T.xf, List.mem_cons_self, T.z, T.flds⟩
                have xo : Xok (L2H.cxH (L2.CX X.prog X.w) X.prog X.w X.K X.mg X.base N x scope f cdv X.A X.stack s1 G' C8.E0 (p, oe)) (F.shut G' ρ S) (fun _ _ => False) := (LamX.takes0).imp fun c dd σ H' ⟨er, S', ρ', _, _, z⟩ => z
                have res := hB c hc p dx' oe cdv X.A X.stack s1 G' C8.E0 (hd.deeper _) T2 (F.shut G' ρ S) _ xo [] _ _ _ G' ⟨_, rs⟩ (hv p dx' fs d e2)
                refine thn (res pins2 s2 I2) fun fl s3 z => ?_
                cases fl with
                | next => obtain ⟨_, _, _, _, _, _, z⟩ := z; exact z.elim
                | brk => obtain ⟨_, _, _, _, _, _, z⟩ := z; exact z.elim
                | cont => obtain ⟨_, _, _, _, _, _, z⟩ := z; exact z.elim
                | ret u =>
                  obtain ⟨v, σ', H', I', rv, a', S', ⟨ρ', r'⟩, e'⟩ := z
                  subst e'
                  refine ⟨v, σ', H', I', rv, ?_⟩
                  rw [w1]
                  have r1' := r1.drop (T' := U) fun z hz => List.mem_cons_of_mem _ hz
                  exact ⟨ρ, r1'.unshut r' List.mem_cons_self⟩
        · cases qq
      · cases qq
    · cases qq
end
end LP
set_option maxHeartbeats 2000000
namespace LP
open PySem PySem.Spec PyProof.Rows L2
structure WhyS (P : Program) (w : World) (K : PySem.W.Frag) (mg : Str → Option Value) (base : Heap) (ci : Ci) (cs : List Nat) (x : Str) (G : FieldC) : Prop where
  ex : ∃ (g : Addr) (fd : FuncData) (pa : Arguments) (body : List Stmt) (sg : Scope) (t : WhyT) (C1 C2 C3 : Value), FunD K x x pa body sg [] [] g fd ∧ FnScope [t.ask, t.en] [t.ask] sg ∧ mg x = some (.ref g) ∧ Binds K fd [t.ask] [] ∧ WhyIs t body ∧
    sg.names.lookup t.ask = some .local ∧ sg.names.lookup t.en = some .local ∧ (t.ask == ("__debug__" : Str)) = false ∧ (t.ask == ("__classdict__" : Str)) = false ∧ (t.en == ("__debug__" : Str)) = false ∧ (t.en == ("__classdict__" : Str)) = false ∧ (t.fn == ("__debug__" : Str)) = false ∧
    (sg.names.lookup t.x1 = some .globalImplicit ∧ (t.x1 == ("__debug__" : Str)) = false ∧ mg t.x1 = some C1) ∧ (sg.names.lookup t.x2 = some .globalImplicit ∧ (t.x2 == ("__debug__" : Str)) = false ∧ mg t.x2 = some C2) ∧ (sg.names.lookup t.x3 = some .globalImplicit ∧ (t.x3 == ("__debug__" : Str)) = false ∧ mg t.x3 = some C3) ∧
    sg.names.lookup t.fn = some .globalImplicit ∧ FieldS P w K mg base ci cs t.fn G ∧ (∀ c ∈ cs, PySem.W.exmAny K (.ref (ci c).1) [C1, C2, C3] = some true ∧ XfC K (ci c).1 ∧ PySem.W.findIn K (.ref (ci c).1) "code" = some none)
end LP
set_option maxHeartbeats 2000000
namespace LP
open PySem PySem.Spec PyProof.Rows L2
def wMethE (c : Nat) (dfl : List D) (G : PC) (wo : WE) (ws : WAs) : WE := fun Γ S ex Q => wo Γ S ex fun a S1 => ∃ flds, a = .d (.ins c flds) ∧ ws Γ S1 ex fun as S2 => ∃ l o, dataOf as = some l ∧ G (.ins c flds :: (l ++ dfl)) = some o ∧ match o with
  | .ok d => Q (.d d) S2
  | .error er => ex er S2
/-- a property of what an effect tells -/
def wPropE (c : Nat) (G : PC) (wo : WE) : WE := fun Γ S ex Q => wo Γ S ex fun a S1 => ∃ flds d, a = .d (.ins c flds) ∧ G [.ins c flds] = some (.ok d) ∧ Q (.d d) S1
section
variable {ci : Ci} {X : Cx}
theorem re_prop {k c : Nat} {m : Str} {o : Expr} {pos : Pos} {G : PC} {wo : WE} (hM : PropP X.prog X.w X.K X.mg X.base ci k c m G) (hr : Room (k + 1) X.A) (ho : RE ci X o wo) (hb : attributeBase o m X.env (eval o X.env) = eval o X.env := by kernel_rfl) : RE ci X (.Attribute o m pos) (wPropE c G wo) := fun F ex xo T Γ S σ H Q r q => by
  obtain ⟨p, g, fd, ps, h1, h2, h3, h4⟩ := hM.ex
  refine wpX_of (pe_prop (E := E0) (ds := []) pe_wp h2 h3 h1 hr h4 .nil passL hb) (wpX_mono (ho F ex xo T Γ S σ H _ r q) fun v H1 ⟨a, S1, r1, flds, d, ea, e3, q1⟩ => ?_)
  subst ea
  obtain ⟨ρ1, q2⟩ := id r1
  obtain ⟨p, dx, vs, rfl, hp⟩ := ins_at (q2.top (a := .d (.ins c flds)) List.mem_cons_self)
  refine ⟨p, dx, _, rfl, hp, ?_⟩
  exact spP_of (l := [.ins c flds]) (vs := [.ref p]) (dfl := []) (o := .ok d) r1 rfl (fun q hq => by simp at hq; simp [hq]) rfl e3 (fun d' ed v H3 r3 => by cases ed; exact ⟨_, S1, r3.drop drop2, q1⟩) fun er z => by cases z
/-- .. a method without arguments -/
theorem re_meth0 {k c : Nat} {m : Str} {o : Expr} {apos pos : Pos} {dfl : List D} {G : PC} {wo : WE} {pl : Sem Bool} (hM : MethP X.prog X.w X.K X.mg X.base ci k c m dfl (spP X.K ci G)) (hr : Room k X.A) (ho : RE ci X o wo)
    (ht : eval (.Call (.Attribute o m apos) [] [] pos) X.env = (do
      let ov ← eval o X.env
      standAt apos.atName
      let (f, first) ← holding [ov] (getMethod ov m pl)
      callWith pos f first (backTo pos (starEach [] X.env)) (backToKw pos (keywordEach [] X.env))) := by rfl) : RE ci X (.Call (.Attribute o m apos) [] [] pos) (wMethE c dfl G wo wNil) := fun F ex xo T Γ S σ H Q r q => by
  obtain ⟨f, fd, ps, ds, h1, h2, h3, h4, h5, h6, h7⟩ := hM.ex
  refine wpX_of (pe_meth0 (E := fun cls d H => ExW F ex cls d H) pe_wp h2 h3 h1 hr h5 h6 (passX xo) ht) (wpX_mono (ho F ex xo T Γ S σ H _ r q) fun v H1 ⟨a, S1, r1, flds, ea, l, o, e1, e3, q1⟩ => ?_)
  subst ea
  cases e1
  obtain ⟨ρ1, q2⟩ := id r1
  obtain ⟨p, dx, vs, rfl, hp⟩ := ins_at (q2.top (a := .d (.ins c flds)) List.mem_cons_self)
  refine ⟨p, dx, _, rfl, hp, zip_lookup_none h4, ?_⟩
  refine spP_of (l := [.ins c flds]) (vs := [.ref p]) r1 rfl (fun q hq => by simp at hq; simp [hq]) h7 e3 (fun d' ed v H3 r3 => ?_) fun er ee cls dd H2 ⟨ρ, r3, hE⟩ => ?_
  · subst ed; exact ⟨_, S1, r3.drop drop2, q1⟩
  · subst ee; exact ⟨er, S1, ρ, (r3.bare).drop (fun x hx => by cases hx), hE, q1⟩
end
end LP
namespace LP
open PySem PySem.Spec PyProof.Rows L2
def CXn : CXT := fun _ _ _ _ _ _ => False
end LP
set_option maxHeartbeats 2000000
namespace LP
open PySem PySem.Spec PyProof.Rows L2 He
abbrev lamQ : Str := (("law" : Str) ++ ".<locals>.") ++ "<lambda>"
def spLawT (K : PySem.W.Frag) (P : Addr) (m : Nat) : Sp := fun vs H Q _ => ∃ (a : Addr) (ns : List Int), vs = [.ref a] ∧ ns.length ≤ m ∧ SqL K H a (ns.map V.int) ∧ H P = some (.tbl #[]) ∧ ∀ H', Q (.bl true) H'
def fc_lawT (P : Addr) (q : Str) (m : Nat) : FC := fun as S _ Q => ∃ cs : List Int, as = [.loc 0] ∧ S = [.scr (cs.map .int), .tab P q] ∧ cs.length ≤ m ∧ ∀ S', Q (.d (.bl true)) S'
theorem law_spT {K : PySem.W.Frag} {ci : Ci} {P : Addr} {q : Str} {m : Nat} {vs : List V} {H : Hp} {Q : VK} {E : XK} (h : spLawT K P m vs H Q E) : spOf K ci (fc_lawT P q m) vs H Q E := by
  obtain ⟨a, ns, rfl, hl, hS, hT, hQ⟩ := h
  refine ⟨[.loc 0], [.scr (ns.map .int), .tab P q], [a, P], [], fun b _ => b = .d (.bl true), fun _ _ => False, rfl, ?_, ⟨ns, rfl, rfl, hl, fun _ => rfl⟩, ?_, ?_⟩
  · have em : mutA [a, P] [MO.scr (ns.map .int), .tab P q] = [P] := by simp [mutA, MO.live]
    refine ⟨List.prefix_refl _, rfl, by rw [em]; simp, ?_, rfl, fun i b e => by simp at e, ?_, fun x o e _ => e, fun p hp => .inl hp, fun p hp => (by cases hp)⟩
    · intro k p o h1 h2
      match k, h1, h2 with
      | 0, h1, h2 =>
        cases h1; cases h2
        refine ⟨ns.map V.int, ?_, reps_ints ns⟩
        refine (sql_iff.mp hS).imp (fun h => ⟨h, fun z => ?_⟩) id
        have z' : a ∈ mutA [a, P] [MO.scr (ns.map .int), .tab P q] ++ [] := z
        rw [em] at z'
        have e : a = P := by simpa using z'
        subst e
        rcases h with h | ⟨o, h⟩ <;> rw [hT] at h <;> cases h
      | 1, h1, h2 =>
        cases h1; cases h2
        exact ⟨rfl, #[], hT, True.intro, fun pos cv z => by simp [codeAmong] at z⟩
      | k + 2, h1, h2 => simp at h1
    · intro z hz
      rw [List.zip_cons_cons, List.mem_cons] at hz
      rcases hz with rfl | hz
      · exact ⟨a, rfl, rfl⟩
      · cases hz
  · rintro v H' ⟨b, S', r, rfl⟩
    have := r.asBl (i := true) List.mem_cons_self
    subst this
    exact hQ H'
  · rintro cls dd H' ⟨er, S', ρ, _, _, z⟩
    exact z.elim
theorem law_closeT {P : Program} {w : World} {K : PySem.W.Frag} {mg : Str → Option Value} {base : Heap} {k : Nat} {f : Addr} {fd : FuncData} {ps : List Str} {ci : Ci} {T : Addr} {q : Str} {m : Nat} (F : FnOk P w K mg base (L2.CX P w) k f fd ps (spOf K ci (fc_lawT T q m))) : FnOk P w K mg base CXn k f fd ps (spLawT K T m) :=
  ⟨fun vs H Q E q => F.len vs H Q E (law_spT q), fun A outer s H args us vs Q E hr e b v q => codeAny_mono (F.run A outer s H args us vs Q (fun _ _ _ => False) hr e b v (law_spT (E := fun _ _ _ => False) (by
    obtain ⟨a, ns, h⟩ := q
    exact ⟨a, ns, h⟩))) fun r s' z => by
    cases r with
    | ok fl => cases fl <;> exact z
    | error er =>
      obtain ⟨a, B, H', cls, d, _, _, _, _, _, _, _, z⟩ := z
      exact z.elim⟩
/-- the def's code object and its table -/
def codT (K : PySem.W.Frag) (x : Str) : Addr × Addr := match K.lookup (ga K x) with
  | some ⟨_, _, .func fd, _⟩ => match fd.code with
    | .ref c => match K.lookup c with
      | some ⟨_, _, .fields vs, _⟩ => match (vs[11]? : Option Value) with
        | some (.ref P) => (c, P)
        | _ => (0, 0)
      | _ => (0, 0)
    | _ => (0, 0)
  | _ => (0, 0)
def without (P : Addr) (K : PySem.W.Frag) : PySem.W.Frag := K.filter fun q => q.1 != P
theorem without_look {P a : Addr} {o : Obj} : ∀ {K : PySem.W.Frag}, (without P K).lookup a = some o → K.lookup a = some o ∧ a ≠ P
  | [], h => by cases h
  | (b, u) :: K, h => by
    unfold without at h
    rw [List.filter_cons] at h
    by_cases hb : b = P
    · subst hb
      rw [if_neg (by simp)] at h
      obtain ⟨h1, h2⟩ := without_look (K := K) h
      refine ⟨?_, h2⟩
      rw [List.lookup_cons, beq_eq_false_iff_ne.mpr h2]
      exact h1
    · rw [if_pos (by simpa using hb), List.lookup_cons] at h
      rw [List.lookup_cons]
      cases e : a == b with
      | true =>
        rw [e] at h
        have := beq_iff_eq.mp e
        exact ⟨h, by rw [this]; exact hb⟩
      | false =>
        rw [e] at h
        exact without_look (K := K) h
def emptyT : Option Obj → Bool
  | some ⟨.none, none, .fields vs, sl⟩ => vs.size == 0 && sl.size == 0
  | _ => false
theorem emptyT_ok {o : Option Obj} (h : emptyT o = true) : o = some { cls := .none, data := .fields #[] } := by
  unfold emptyT at h
  split at h
  · obtain ⟨h1, h2⟩ := Bool.and_eq_true_iff.mp h
    have e1 := Array.eq_empty_of_size_eq_zero (beq_iff_eq.mp h1)
    have e2 := Array.eq_empty_of_size_eq_zero (beq_iff_eq.mp h2)
    subst e1 e2
    rfl
  · cases h
def funC (K : PySem.W.Frag) (x : Str) (c : Addr) : Bool := match K.lookup (ga K x) with
  | some ⟨_, _, .func fd, _⟩ => decide (fd.code = .ref c)
  | _ => false
/-- what is known: T, the table, c, its code object -/
def SaysT (fa : List FaE) (fn : List DefE) (h : Heap) (K : PySem.W.Frag) (c T : Addr) : Prop := K.In h ∧ LP.SaysE fa fn K ∧ K.lookup T = none ∧ h.get? T = some { cls := .none, data := .fields #[] } ∧ PySem.W.codeHdIn K c T = true ∧ funC K "law" c = true
theorem funC_ok {K : PySem.W.Frag} {c : Addr} {x qual : Str} {params : Arguments} {body : List Stmt} {scope : Scope} {dvs : List V} {kws : List (Str × V)} {fd : FuncData} (F : FunD K x qual params body scope dvs kws (ga K "law") fd) (h : funC K "law" c = true) : fd.code = .ref c := by
  obtain ⟨oc, od, dV, kV, doc, pm, an, cdv, ct, osl, rfl, lk, hci, _, _⟩ := F.ex
  unfold funC at h
  rw [lk] at h
  exact of_decide_eq_true h
end LP
set_option maxHeartbeats 2000000
namespace LP
open PySem PySem.Spec PyProof.Rows L2 He
/-- the def at a: its code's file, its cell, its class; super is the built-in -/
def supOkB (file ar : Str) (K : PySem.W.Frag) (a D : Addr) : Bool := match K.lookup a with
  | some ⟨_, _, .func fd, _⟩ => (match fd.code with
    | .ref cda => (match K.lookup cda with
      | some ⟨_, _, .fields vs, _⟩ => (match (show Option Value from vs[2]?) with
        | some (.str f _) => f == file
        | _ => false)
      | _ => false)
    | _ => false) && ((match fd.closure with
    | [(_, cc)] => (match K.lookup cc with
      | some ⟨_, _, .cell (some (.ref D')), _⟩ => D' == D
      | _ => false)
    | _ => false) && ((match (fd.params.posonlyargs ++ fd.params.args).head? with
    | some x => x.arg == ar
    | none => false) && ((PySem.W.clsIn K D).isSome && decide (PySem.W.nsIn K cStatics "thirdparty.any" = some none))))
  | _ => false
theorem DefE.funS {P : Program} {mg : Str → Option Value} {K : PySem.W.Frag} {d : DefE} {ar : Str} {D : Addr} (hs : d.sup = true) (e : fnE K (d.at_.ad K) = d.val) (c : d.ok K = true) (h : supOkB P.main.file ar K (d.at_.ad K) D = true)
    (hm : mg "super" = none) (ht : (P.main.scope.names.lookup ("super" : Str)).isSome = false) :
    ∃ fd cda cc, FunS K d.name d.qual d.params d.body d.scope (d.dvs K) (d.at_.ad K) fd cda cc ∧ SupK P K mg (d.at_.ad K) cda cc D ar ∧ PySem.W.keepIn K (.ref (d.at_.ad K)) = true := by
  obtain ⟨kp, c2⟩ := ba c
  unfold fnE at e
  unfold supOkB at h
  cases q : K.lookup (d.at_.ad K) with
  | none => rw [q] at c2; cases c2
  | some o =>
    obtain ⟨oc, od, dt, osl⟩ := o
    rw [q] at c2 e h
    cases dt with
    | func fd =>
      obtain ⟨n1, n2, n3, n4, n5, n6, n7, n8, n9, n10, n11, n12, n13, n14, n15⟩ := fd
      have e2 : (some (n1, n2, n3, n4, n5, n6, n7.map (fun q => (q.1, 0)), n15) : FnW) = some (d.name, d.qual, d.params, FuncBody.stmts d.body, d.scope, mainGlobals, [(("__class__" : Str), (0 : Addr))], builtinsNs) := by
        have e3 : (some (n1, n2, n3, n4, n5, n6, n7.map (fun q => (q.1, 0)), n15) : FnW) = d.val := e
        rw [e3]
        unfold DefE.val
        rw [hs]
        rfl
      simp only [Option.some.injEq, Prod.mk.injEq] at e2
      obtain ⟨h1, h2, h3, h4, h5, h6, h7, h8⟩ := e2
      have c3 : (PySem.W.codeIn K n13 d.qual && dflB K n8 (d.dvs K)) = true := c2
      obtain ⟨k1, k2⟩ := ba c3
      obtain ⟨g1, hA⟩ := ba h
      obtain ⟨g2, hB⟩ := ba hA
      obtain ⟨g3, hC⟩ := ba hB
      obtain ⟨g4, g5⟩ := ba hC
      clear h hA hB hC e c c2 c3
      dsimp only at g1 g2 g3
      cases n13 with
      | ref cda =>
        match n7, h7, g2 with
        | [(x0, cc)], h7, g2 =>
          rw [List.map_cons, List.map_nil, List.cons.injEq, Prod.mk.injEq] at h7
          have hx0 := h7.1.1
          subst h1 h2 h3 h4 h5 h6 h8 hx0
          dsimp only at g1 g2
          cases lcd : K.lookup cda with
          | none => rw [lcd] at g1; cases g1
          | some oo =>
            obtain ⟨ccl, cdd, dd, ccs⟩ := oo
            rw [lcd] at g1
            cases dd with
            | fields vs =>
              dsimp only at g1
              cases hv : vs[2]? with
              | none => rw [hv] at g1; cases g1
              | some v2 =>
                rw [hv] at g1
                cases v2 with
                | str f0 tf =>
                  cases lcc : K.lookup cc with
                  | none => rw [lcc] at g2; cases g2
                  | some o2 =>
                    obtain ⟨cl, cld, d2, csl⟩ := o2
                    rw [lcc] at g2
                    cases d2 with
                    | cell v3 =>
                      cases v3 with
                      | none => cases g2
                      | some v4 =>
                        cases v4 with
                        | ref D' =>
                          have hD' : D' = D := beq_iff_eq.mp g2
                          subst hD'
                          cases ha0 : (d.params.posonlyargs ++ d.params.args).head? with
                          | none => rw [ha0] at g3; cases g3
                          | some a0 =>
                            rw [ha0] at g3
                            obtain ⟨cdD, hD⟩ := Option.isSome_iff_exists.mp g4
                            have hf : f0 = P.main.file := beq_iff_eq.mp g1
                            refine ⟨_, cda, cc, ⟨⟨oc, od, n8, n9, n10, n11, n12, n14, osl, rfl, q, k1, dflB_ok k2⟩, ⟨cl, cld, csl, _, lcc⟩⟩, ⟨⟨oc, od, _, osl, a0, q, ha0, beq_iff_eq.mp g3⟩, ⟨ccl, cdd, vs, ccs, f0, tf, lcd, hv, ?_⟩, ⟨cl, cld, csl, lcc⟩, ⟨cdD, hD⟩, hm, ht, of_decide_eq_true g5⟩, kp⟩
                            rw [hf]
                            exact beq_self_eq_true _
                        | _ => cases g2
                    | _ => cases g2
                | _ => cases g1
            | _ => cases g1
      | _ => cases g1
    | _ => cases c2
end LP
set_option maxHeartbeats 2000000
namespace LP
open PySem PySem.Spec PyProof.Rows L2 He
def oexB (K : PySem.W.Frag) (C : Addr) : Bool := (match K.lookup C with | some ⟨.type "type", _, .cls cd, sl⟩ => (match cd.mro, sl.toList with | .ref C' :: bm, [_, _, _, _, some (.builtin n), _] => C' == C && (n == "ValueError.__new__" && (!cd.hasDel && (cd.hasDict && PySem.HandSPX.refsVE bm))) | _, _ => false) | _ => false) && (decide (PySem.W.findIn K (.ref C) "__setattr__" = some (some (.builtin "object.__setattr__"))) &&
  (decide (PySem.W.subIn K (.ref C) (.type "BaseException") = some true) && (decide (PySem.W.typeIn K (.ref C) = some (.type "type")) && PySem.W.keepIn K (.ref C))))
theorem oexB_ok {K : PySem.W.Frag} {C : Addr} (h : oexB K C = true) : OexC K C := by
  obtain ⟨h0, h⟩ := ba h
  obtain ⟨h1, h⟩ := ba h
  obtain ⟨h2, h⟩ := ba h
  obtain ⟨h3, h4⟩ := ba h
  refine ⟨?_, of_decide_eq_true h1, of_decide_eq_true h2, of_decide_eq_true h3, h4⟩
  split at h0
  · rename_i dd cd sl ho
    split at h0
    · rename_i C' bm k0 k1 k2 k3 n k5 hm hs
      obtain ⟨g1, h0⟩ := ba h0
      obtain ⟨g2, h0⟩ := ba h0
      obtain ⟨g3, h0⟩ := ba h0
      obtain ⟨g4, g5⟩ := ba h0
      obtain rfl := beq_iff_eq.mp g1
      obtain rfl := beq_iff_eq.mp g2
      obtain ⟨nm, bs, mro, ns, qn, hd, sn, sub, ab, col, dl⟩ := cd
      dsimp only at hm g3 g4
      have g3 : dl = false := by simpa using g3
      subst hm g3 g4
      obtain ⟨l⟩ := sl
      have hs : l = _ := hs
      subst hs
      exact ⟨nm, qn, ns, bs, bm, sn, sub, ab, col, dd, k0, k1, k2, k3, k5, ho, g5⟩
    · cases h0
  · cases h0
/-- an own error's class, its __init__ -/
def errB (x fld : Str) (K : PySem.W.Frag) : Bool := oexB K (ga K x) && (decide (PySem.W.mroIn K (ga K x) (.ref (ga K x)) = some true) && (decide (PySem.W.ks_superIn K (ga K x) (ga K x) "__init__" = some (some (.builtin "ValueError.__init__"))) && (decide (PySem.W.subIn K (.ref (ga K x)) (.type "ValueError") = some true) &&
  (decide (PySem.W.findIn K (.ref (ga K x)) "code" = some none) && (decide (PySem.W.findIn K (.ref (ga K x)) fld = some none) && (decide (PySem.W.findIn K (.ref (ga K x)) "__init__" = some (some (.ref (ma K (ga K x) "__init__")))) && decide (PySem.W.typeIn K (.ref (ma K (ga K x) "__init__")) = some (.type "function"))))))))
def ErrIs (txt code fld par : Str) (body : List Stmt) : Prop := ∃ (j1 j2 : Nat) (p0 p1 p2 p3 p4 p5 p6 p7 p8 p9 p10 p11 p12 p13 : Pos), body = errBody txt code fld par j1 j2 p0 p1 p2 p3 p4 p5 p6 p7 p8 p9 p10 p11 p12 p13 ∧ ∀ env : Env, ∃ pl : Sem Bool, eval (.Call (.Attribute (.Call (.Name "super" p0) [] [] p1) "__init__" p2) [.Constant (.str txt) j1 p3] [] p4) env = (do
      let ov ← attributeBase (.Call (.Name "super" p0) [] [] p1) "__init__" env (eval (.Call (.Name "super" p0) [] [] p1) env)
      standAt p2.atName
      let (f, first) ← holding [ov] (getMethod ov "__init__" pl)
      callWith p4 f first (backTo p4 (starEach [.Constant (.str txt) j1 p3] env)) [])
theorem FunS.bindsN {K : PySem.W.Frag} {x qual : Str} {params : Arguments} {body : List Stmt} {scope : Scope} {f cda cc : Addr} {fd : FuncData} {ps : List Str} (F : FunS K x qual params body scope [] f fd cda cc)
    (h : ∀ (kV doc pm : Value) (an : Option Addr) (cd ct : Value) (us : List Value), us.length = ps.length → bindArgs (PySem.W.ksFn x qual params body scope .none kV doc pm an cd ct cc) ⟨us, []⟩ = pure (ps.zip us)) : Binds K fd ps [] := by
  obtain ⟨oc, od, dV, kV, doc, pm, an, ct, osl, rfl, lk, hcd, hD⟩ := F.ex
  rcases hD with ⟨_, rfl⟩ | ⟨e, _⟩
  · exact .all (h kV doc pm an (.ref cda) ct)
  · exact absurd rfl e
theorem err_mk {P : Program} {w : World} {K : PySem.W.Frag} {mg : Str → Option Value} {base : Heap} {ci : Ci} {c : Nat} {x code fld txt par qual : Str} {params : Arguments} {body : List Stmt} {scope : Scope} {fd : FuncData} {cda cc : Addr}
    (F : FunS K "__init__" qual params body scope [] (ma K (ga K x) "__init__") fd cda cc) (SK : SupK P K mg (ma K (ga K x) "__init__") cda cc (ga K x) "self") (hI : ErrIs txt code fld par body) (S : FnScopeS ["self", par] ["self", par] scope) (hB : errB x fld K = true) (hm : mg x = some (.ref (ga K x))) (hci : (ci c).1 = ga K x)
    (hks : scope.names.lookup ("super" : Str) = some .globalImplicit) (hkc : scope.names.lookup ("__class__" : Str) = some .free) (hks2 : scope.names.lookup ("self" : Str) = some .local) (hkp : scope.names.lookup par = some .local) (hd1 : (par == ("__debug__" : Str)) = false) (hd2 : (par == ("__classdict__" : Str)) = false)
    (hbind : ∀ (kV doc pm : Value) (an : Option Addr) (cd ct : Value) (us : List Value), us.length = 2 → bindArgs (PySem.W.ksFn "__init__" qual params body scope .none kV doc pm an cd ct cc) ⟨us, []⟩ = pure ([("self" : Str), par].zip us)) : ErrP P w K mg base ci 1 c x code fld := by
  obtain ⟨b1, hB⟩ := ba hB
  obtain ⟨b2, hB⟩ := ba hB
  obtain ⟨b3, hB⟩ := ba hB
  obtain ⟨b4, hB⟩ := ba hB
  obtain ⟨b5, hB⟩ := ba hB
  obtain ⟨b6, hB⟩ := ba hB
  obtain ⟨b7, b8⟩ := ba hB
  obtain ⟨j1, j2, p0, p1, p2, p3, p4, p5, p6, p7, p8, p9, p10, p11, p12, p13, rfl, hev⟩ := hI
  have ox := oexB_ok b1
  have B := F.bindsN (ps := ["self", par]) hbind
  have ok := err_init (P := P) (w0 := w) (base := base) (k := 0) F S SK (C := ga K x) ⟨ox, ⟨of_decide_eq_true b2, of_decide_eq_true b3, of_decide_eq_true b4⟩, of_decide_eq_true b5, of_decide_eq_true b6⟩ hks hkc hks2 hkp hd1 hd2 (fun _ => rfl) (fun L => by
    show (scope.kind == .module && _) = false
    rw [S.kind]
    rfl) hev
  refine ⟨by rw [hci]; exact ox, by rw [hci]; exact hm, _, fd, ["self", par], by rw [hci]; exact of_decide_eq_true b7, of_decide_eq_true b8, by rw [hci]; exact ok, B⟩
/-- what an error's reader asks of its class -/
abbrev exoNames : List Str := ["code", "at", "name", "most", "limit", "line", "given"]
def exoB (x : Str) (K : PySem.W.Frag) : Bool := decide (PySem.W.exmAny K (.ref (ga K x)) [.ref (ga K "LumpError"), .ref (ga K "Missing"), .ref (ga K "NothingLeft")] = some true) && (xfB K (ga K x) && exoNames.all fun n => decide (PySem.W.findIn K (.ref (ga K x)) n = some none))
theorem exoB_ok {x : Str} {K : PySem.W.Frag} (h : exoB x K = true) : PySem.W.exmAny K (.ref (ga K x)) [.ref (ga K "LumpError"), .ref (ga K "Missing"), .ref (ga K "NothingLeft")] = some true ∧ XfC K (ga K x) ∧ ∀ n ∈ exoNames, PySem.W.findIn K (.ref (ga K x)) n = some none := by
  obtain ⟨h1, h⟩ := ba h
  obtain ⟨h2, h3⟩ := ba h
  exact ⟨of_decide_eq_true h1, xfB_ok h2, fun n hn => of_decide_eq_true (List.all_eq_true.mp h3 n hn)⟩
end LP
set_option maxHeartbeats 2000000
namespace LP
open PySem PySem.Spec PyProof.Rows L2
structure Up (K : PySem.W.Frag) (mg : Str → Option Value) (b b' : Heap) : Prop where
  sub : ∀ a o, b.get? a = some o → b'.get? a = some o
  sz : b.objs.size ≤ b'.objs.size
  mod : L2.Mod K mg b
theorem frames_down {h b b' : Heap} (sub : ∀ a o, b.get? a = some o → b'.get? a = some o) : ∀ {l : List Env}, h.FunFrames b' l → h.FunFrames b l
  | [], _ => trivial
  | e :: l, ⟨k, ⟨L, o, e1, e2, e3, e4⟩, r⟩ => ⟨k, ⟨L, o, e1, (by
    cases z : b.get? L with
    | none => rfl
    | some u => rw [sub L u z] at e2; cases e2), e3, e4⟩, frames_down sub r⟩
section
variable {P : Program} {w : World} {K : PySem.W.Frag} {mg : Str → Option Value} {b b' : Heap} {ci : Ci}
theorem Up.env0 (u : Up K mg b b') {A : Around} {outer : List Env} {s : Shared} {H : Hp} (e : Env0 P w K mg b' A outer s H) : Env0 P w K mg b A outer s H :=
  ⟨e.frames, u.mod, fun a o z => e.bs a o (u.sub a o z), Nat.le_trans u.sz e.bsz, frames_down u.sub e.funs, e.frf, e.hok, e.bare⟩
theorem upF (u : Up K mg b b') {CX : CXT} {k : Nat} {f : Addr} {fd : FuncData} {ps : List Str} {sp : Sp} (F : FnOk P w K mg b CX k f fd ps sp) : FnOk P w K mg b' CX k f fd ps sp :=
  ⟨F.len, fun A outer s H args us vs Q E hr e bi v q => F.run A outer s H args us vs Q E hr (u.env0 e) bi v q⟩
theorem CallP.up (u : Up K mg b b') {k : Nat} {x : Str} {dfl : List D} {sp : Sp} (C : CallP P w K mg b ci k x dfl sp) : CallP P w K mg b' ci k x dfl sp := let ⟨f, fd, ps, ds, h, r⟩ := C.ex; ⟨f, fd, ps, ds, upF u h, r⟩
theorem CallK.up (u : Up K mg b b') {k n : Nat} {x : Str} {ks : List Str} {ix : List Nat} {dfl : List D} {sp : Sp} (C : CallK P w K mg b ci k x n ks ix dfl sp) : CallK P w K mg b' ci k x n ks ix dfl sp := let ⟨f, fd, ps, ds, h, r⟩ := C.ex; ⟨f, fd, ps, ds, upF u h, r⟩
theorem MethP.up (u : Up K mg b b') {k c : Nat} {m : Str} {dfl : List D} {sp : Sp} (C : MethP P w K mg b ci k c m dfl sp) : MethP P w K mg b' ci k c m dfl sp := let ⟨f, fd, ps, ds, h, r⟩ := C.ex; ⟨f, fd, ps, ds, upF u h, r⟩
theorem MethKP.up (u : Up K mg b b') {k c : Nat} {m : Str} {ks : List Str} {ix : List Nat} {dfl : List D} {sp : Sp} (C : MethKP P w K mg b ci k c m ks ix dfl sp) : MethKP P w K mg b' ci k c m ks ix dfl sp := let ⟨f, fd, ps, ds, h, r⟩ := C.ex; ⟨f, fd, ps, ds, upF u h, r⟩
theorem PropP.up (u : Up K mg b b') {k c : Nat} {m : Str} {G : PC} (C : PropP P w K mg b ci k c m G) : PropP P w K mg b' ci k c m G := let ⟨p, g, fd, ps, h, r⟩ := C.ex; ⟨p, g, fd, ps, upF u h, r⟩
theorem StatP.up (u : Up K mg b b') {k : Nat} {x m : Str} {dfl : List D} {sp : Sp} (C : StatP P w K mg b ci k x m dfl sp) : StatP P w K mg b' ci k x m dfl sp := let ⟨a, p, g, fd, ps, ds, h, r⟩ := C.ex; ⟨a, p, g, fd, ps, ds, upF u h, r⟩
theorem MakeP.up (u : Up K mg b b') {k c : Nat} {x : Str} {dfl : List D} {G : PI'} (C : MakeP P w K mg b ci k x c dfl G) : MakeP P w K mg b' ci k x c dfl G := let ⟨f, fd, ps, ds, h, r⟩ := C.ex; ⟨⟨f, fd, ps, ds, upF u h, r⟩, C.len⟩
theorem MakeK.up (u : Up K mg b b') {k c n : Nat} {x : Str} {ks : List Str} {ix : List Nat} {dfl : List D} {G : PI'} (C : MakeK P w K mg b ci k x c n ks ix dfl G) : MakeK P w K mg b' ci k x c n ks ix dfl G := let ⟨f, fd, ps, ds, h, r⟩ := C.ex; ⟨⟨f, fd, ps, ds, upF u h, r⟩, C.len⟩
theorem MakeM.up (u : Up K mg b b') {k c : Nat} {x : Str} {dfl : List D} {fc : FC} (C : MakeM P w K mg b ci k x c dfl fc) : MakeM P w K mg b' ci k x c dfl fc := let ⟨f, fd, ps, ds, h, r⟩ := C.ex; ⟨f, fd, ps, ds, upF u h, r⟩
theorem upR (u : Up K mg b b') {CX : CXT} {k : Nat} {f : Addr} {sp : Sp} (F : FnR P w K mg b CX k f sp) : FnR P w K mg b' CX k f sp := by
  intro A outer s H us vs Q E hr e v q
  exact F A outer s H us vs Q E hr (u.env0 e) v q
theorem MakeS.up (u : Up K mg b b') {k c : Nat} {x : Str} {G : PI'} (C : MakeS P w K mg b ci k x c G) : MakeS P w K mg b' ci k x c G := let ⟨f, h, r⟩ := C.ex; ⟨⟨f, upR u h, r⟩, C.len⟩
theorem CallS.up (u : Up K mg b b') {k : Nat} {x : Str} {G : PC} (C : CallS P w K mg b ci k x G) : CallS P w K mg b' ci k x G := let ⟨f, h, r⟩ := C.ex; ⟨f, upR u h, r⟩
end
/-- all that stands untracked at a state, the running frames apart -/
def frozen (X : Cx) (H : Hp) (s : Shared) : Heap := PySem.W.hideAll (hidT s.heap H) (frs X.stack)
section
variable {X : Cx} {pins : List (Addr × Obj)} {σ : L2.St} {H : Hp} {s : Shared}
theorem frozen_get {a : Addr} {o : Obj} (e : s.heap.get? a = some o) (n : H a = none) (hf : a ∉ frs X.stack) : (frozen X H s).get? a = some o := PySem.W.hideAll_get _ (hidT_get e n) hf
theorem frozen_up (I : Inv X pins σ H s) : Up X.K X.mg X.base (frozen X H s) :=
  ⟨fun a o e => frozen_get (I.bs a o e).1 (I.bs a o e).2 (fun hm => by
    have := (I.stack.mem hm).1
    rw [e] at this; cases this), (by
      have h1 : (frozen X H s).objs.size = s.heap.objs.size := (PySem.W.hideAll_size _ _).trans (hidT_size _ _)
      rw [h1]
      exact Nat.le_trans I.ok.bsz I.sz), I.ok.mod⟩
theorem frozen_env0 (I : Inv X pins σ H s) : Env0 X.prog X.w X.K X.mg (frozen X H s) X.A X.stack s H := by
  have u := frozen_up I
  have e := I.env0
  have m := I.ok.mod
  refine ⟨e.frames, ⟨m.kin.keeps u.sub, m.glob.keeps u.sub, let ⟨mb, h1, h2⟩ := m.blt; ⟨mb, h1.keeps u.sub, h2⟩, m.nolimit.keeps u.sub⟩, fun a o z => of_hidT (PySem.W.of_hideAll _ z), ?_, ?_, e.frf, e.hok, e.bare⟩
  · exact Nat.le_of_eq ((PySem.W.hideAll_size _ _).trans (hidT_size _ _))
  · have go : ∀ l : List Env, (∀ a ∈ frs l, a ∈ frs X.stack) → s.heap.FunFrames X.base l → s.heap.FunFrames (frozen X H s) l := by
      intro l
      induction l with
      | nil => intro _ _; trivial
      | cons v l ih =>
        rintro hs ⟨k, ⟨L, o, e1, e2, e3, e4⟩, r⟩
        have hL : L ∈ frs (v :: l) := List.mem_filterMap.mpr ⟨v, List.mem_cons_self, e1⟩
        refine ⟨k, ⟨L, o, e1, PySem.W.hideAll_none _ (hs L hL), e3, e4⟩, ih (fun a ha => hs a ?_) r⟩
        obtain ⟨x, hx, q⟩ := List.mem_filterMap.mp ha
        exact List.mem_filterMap.mpr ⟨x, List.mem_cons_of_mem _ hx, q⟩
    exact go X.stack (fun _ h => h) I.stack
end
end LP
set_option maxHeartbeats 2000000
namespace LP
open PySem PySem.Spec PyProof.Rows L2
/-- its names: captured ones, globals, at most parameters of its own that the frame does not know -/
structure LamL (sc : Scope) (N : List Str) (scope : Scope) : Prop where
  kind : scope.kind = .function
  co : scope.isCoroutine = false
  gen : scope.isGenerator = false
  nocell : ∀ y ∈ scope.names, y.2 ≠ .cell
  own : ∀ y ∈ scope.names, y.2 = .local → y.1 ∉ N
  free : ∀ y ∈ scope.names, y.2 = .free → sc.names.lookup y.1 = some .cell ∨ sc.names.lookup y.1 = some .free
def lamLB (sc : Scope) (N : List Str) (scope : Scope) : Bool := decide (scope.kind = .function) && (!scope.isCoroutine && (!scope.isGenerator && (scope.names.all fun y => !decide (y.2 = .cell) && ((!decide (y.2 = .local) || !N.contains y.1) && (!decide (y.2 = .free) || (decide (sc.names.lookup y.1 = some .cell) || decide (sc.names.lookup y.1 = some .free)))))))
theorem lamL_by {sc : Scope} {N : List Str} {scope : Scope} (h : lamLB sc N scope = true) : LamL sc N scope := by
  unfold lamLB at h
  simp only [Bool.and_eq_true, Bool.or_eq_true, Bool.not_eq_true', decide_eq_true_eq, decide_eq_false_iff_not, List.all_eq_true, List.contains_eq_mem] at h
  obtain ⟨h1, h2, h3, h4⟩ := h
  refine ⟨h1, h2, h3, fun y hy => (h4 y hy).1, fun y hy e => ?_, fun y hy e => ?_⟩
  · rcases (h4 y hy).2.1 with z | z
    · exact absurd e z
    · exact z
  · rcases (h4 y hy).2.2 with z | z
    · exact absurd e z
    · exact z
/-- what a call without arguments binds -/
def BindL (q : Str) (params : Arguments) (body : Expr) (scope : Scope) : Prop :=
  (params.defaults = [] ∧ ∀ (cl : List (Str × Addr)) (doc pm cv ctv : Value), bindArgs (PySem.W.kdv_fn "<lambda>" q params (.expr body) scope cl .none doc pm cv ctv) ⟨[], []⟩ = pure []) ∨
  (params.defaults ≠ [] ∧ ∃ a : Str, scope.names.lookup a = some .local ∧ ∀ (t : Addr) (tk : Tok) (cl : List (Str × Addr)) (doc pm cv ctv : Value), ∃ k : Option (Array Value) → Sem (List (Str × Value)),
    bindArgs (PySem.W.kdv_fn "<lambda>" q params (.expr body) scope cl (.ref t) doc pm cv ctv) ⟨[], []⟩ = seqItems? (.ref t) >>= k ∧ k (some #[.int 0 tk]) = pure [(a, .int 0 tk)])
section
variable {Y : Cx} {A : Around} {outer : List Env} {s : Shared} {H : Hp} {E : XK} {scope : Scope} {f c' : Addr} {σ : L2.St}
/-- what is known of the captured cells -/
structure Capt (Y : Cx) (σ : L2.St) : Prop where
  len : σ.length = Y.N.length
  inj : ∀ x z c, Y.env.cells.lookup x = some c → Y.env.cells.lookup z = some c → x = z
  has : ∀ x, (Y.env.scope.names.lookup x = some .cell ∨ Y.env.scope.names.lookup x = some .free) → ∃ c, Y.env.cells.lookup x = some c
  cell : ∀ x c, Y.env.cells.lookup x = some c → ∃ v, Y.base.IsCell c v
  slot : ∀ (i : Nat) (x : Str) (v : V), Y.N[i]? = some x → σ[i]? = some (some v) → (Y.env.scope.names.lookup x = some .cell ∨ Y.env.scope.names.lookup x = some .free) → ∃ u c, RelV v u ∧ Y.env.cells.lookup x = some c ∧ Y.base.IsCell c (some u)
theorem lamB_start {g : Heap} {tk : Nat} {m : Str → Option Value} (C : Capt Y σ) (L : LamL Y.env.scope Y.N scope) (e0 : Env0 Y.prog Y.w Y.K Y.mg Y.base A outer s H) (hd : A.handled = none) (hns : g.Ns s.heap.objs.size m) (kp : ∀ b o, s.heap.get? b = some o → g.get? b = some o) :
    Inv (LamX.lamCx Y A outer s H E scope f c') [] σ H { s with heap := g, toks := tk } := by
  have back : ∀ {y : Str} {c : Addr}, (cloFrom Y.env.cells scope.names []).lookup y = some c → Y.env.cells.lookup y = some c := fun {y c} e => by
    rcases cloFrom_mem (PySem.mem_of_lookup e) with hm | ⟨h1, h2⟩
    · cases hm
    · obtain ⟨c1, hc⟩ := C.has _ (L.free _ h1 rfl)
      rw [hc, h2, hc]; rfl
  have there : ∀ {y : Str}, scope.names.lookup y = some .free → ∃ c, (cloFrom Y.env.cells scope.names []).lookup y = some c := fun {y} hl => mem_lookup (cloFrom_has (cells := Y.env.cells) (acc := []) (PySem.mem_of_lookup hl))
  have ofB : ∀ {c : Addr} {v : Option Value}, Y.base.IsCell c v → g.IsCell c v ∧ H c = none ∧ ∃ o, s.heap.get? c = some o := fun {c v} ⟨o, ho, hv⟩ => ⟨⟨o, kp _ _ (e0.bs c o ho).1, hv⟩, (e0.bs c o ho).2, ⟨o, (e0.bs c o ho).1⟩⟩
  have none_ : ∀ b : Addr, b ∉ (LamX.lamCx Y A outer s H E scope f c').ex := fun b z => absurd (show b ∈ ([] : List Addr) from z) List.not_mem_nil
  have okk : (LamX.lamCx Y A outer s H E scope f c').Ok := {
    mod := e0.mod, kind := L.kind, glob := rfl, blt := rfl, above := Nat.le_refl _
    inj := fun x z c e1 e2 => C.inj x z c (back e1) (back e2)
    has := fun y hy => by
      have hy : scope.names.lookup y = some .cell ∨ scope.names.lookup y = some .free := hy
      rcases hy with hy | hy
      · exact absurd rfl (L.nocell _ (PySem.mem_of_lookup hy))
      · exact there hy
    cab := fun y c z _ => Bool.noConfusion (show false = true from z)
    hd := fun _ => hd, frames := Around.frames_deeper e0.frames, stk := .inr ⟨rfl, rfl⟩, exf := fun b z => absurd z (none_ b), bs := e0.bs, bsz := e0.bsz, noex := fun b _ _ => none_ b, exfs := fun b z => absurd z (none_ b), funs := e0.funs, frf := e0.frf }
  exact {
    ok := okk, os := rfl, bare := e0.bare, base := Un.kept kp
    loc := ⟨m, hns, fun i y v e1 e2 vis => by
      have vis : Vis scope y := vis
      rcases vis with k | k | k
      · exact absurd (List.mem_of_getElem? e1) (L.own _ (PySem.mem_of_lookup k) rfl)
      · exact absurd rfl (L.nocell _ (PySem.mem_of_lookup k))
      · obtain ⟨u, c, ru, hc, hb⟩ := C.slot i y v e1 e2 (L.free _ (PySem.mem_of_lookup k) rfl)
        obtain ⟨c2, h2⟩ := there k
        have := back h2
        rw [hc] at this; cases this
        exact ⟨u, ru, .inr ⟨.inr k, c, h2, (ofB hb).1⟩⟩⟩
    cell := fun y c e => let ⟨v, hb⟩ := C.cell y c (back e); ⟨v, (ofB hb).1⟩
    free := e0.hok.fresh (Nat.le_refl _)
    freeC := fun y c e => let ⟨v, hb⟩ := C.cell y c (back e); (ofB hb).2.1
    pin := fun p hp => absurd (show p ∈ ([] : List (Addr × Obj)) ++ [] from hp) List.not_mem_nil
    hok := e0.hok.kept kp, len := C.len }
theorem lamB_run {k : Nat} {M : List Addr} {q : Str} {params : Arguments} {body : Expr} {tb : TE} {Q : VK} (C : Capt Y σ) (L : LamL Y.env.scope Y.N scope) (hq : q = Y.env.qual ++ "<lambda>") (BL : BindL q params body scope) (e0 : Env0 Y.prog Y.w Y.K Y.mg Y.base A outer s H) (hr : Room (k + 1) A)
    (LA : LamAt M H q f ⟨params, body, scope, cloFrom Y.env.cells scope.names []⟩) (hb : ∀ c', Room k (A.deeper (LamX.lamEnv Y scope s.heap.objs.size f c')) → PE (LamX.lamCx Y A outer s H E scope f c') body tb) (hQ : tb σ H Q) :
    codeAny (model Y.prog Y.w) A (.call (.ref f) ⟨[], []⟩) (CR (L2.CX Y.prog Y.w) outer Y.prog Y.w H s Q E) s := by
  subst hq
  obtain ⟨doc, pm, ctv, dV, c', hF, _, hC, _, hD⟩ := LA
  obtain ⟨of1, _, _⟩ := e0.hok f _ hF
  obtain ⟨⟨oc, vs, t, hoc, hdc, hvc⟩, _, _⟩ := e0.hok c' _ hC
  have lim : s.heap.NoLimit := e0.mod.nolimit.keeps fun b o z => (e0.bs b o z).1
  have go : ∀ binds : List (Str × Value), (∀ y ∈ binds, scope.names.lookup y.1 = some .local) → wpAny (model Y.prog Y.w) A.in1 (newFunctionEnv scope mainGlobals (cloFrom Y.env.cells scope.names []) binds ((Y.env.qual ++ "<lambda>") ++ ".<locals>.") (some f) (.ref c') none builtinsNs)
      (fun env s2 => s2.heap.NoLimit ∧ codeAny (model Y.prog Y.w) A (.expr body env) (CR (L2.CX Y.prog Y.w) outer Y.prog Y.w H s Q E) s2) (fun e s' => CR (L2.CX Y.prog Y.w) outer Y.prog Y.w H s Q E (.error e) s') s := fun binds hloc => by
    refine wpAny_newFunctionEnv (fun y hy => L.nocell y hy) hloc (fun g hns hsb => ⟨lim.fresh _ hsb, ?_⟩) L.kind
    have kp : ∀ b o, s.heap.get? b = some o → g.get? b = some o := fun b o e => hsb.extBut b o (Nat.ne_of_lt (Heap.lt_size e)) (Heap.get?_push_of_some _ e)
    have J : Inv (LamX.lamCx Y A outer s H E scope f c') [] σ H { s with heap := g, toks := s.toks + binds.length } := lamB_start C L e0 hr.hd hns kp
    refine PySem.W.kla_codeExpr (wpAny_mono ((hb c' (hr.deeper _)).run [] _ σ H Q J hQ) (fun v s' ⟨x, H', J', rv, z⟩ => ⟨x, H', J'.os, J'.bare, J'.base, J'.hok, rv, z⟩) fun e s' z => z)
  refine PySem.W.kla_callFunE hr.depth of1 rfl L.co L.gen rfl ⟨c', oc, vs, t, rfl, hoc, hdc, hvc⟩ ?_
  rcases BL with ⟨d1, b1⟩ | ⟨d1, a, ha, b1⟩
  · rcases hD with ⟨_, rfl⟩ | ⟨d2, _⟩
    · rw [b1]
      exact wpAny_pure (go [] fun y hy => by cases hy)
    · exact absurd d1 d2
  · rcases hD with ⟨d2, _⟩ | ⟨_, td, tk, rfl, hT, _⟩
    · exact absurd d2 d1
    · obtain ⟨ot, _, _⟩ := e0.hok td _ hT
      obtain ⟨kk, b2, b3⟩ := b1 td tk (cloFrom Y.env.cells scope.names []) doc pm (.ref c') ctv
      have bt : BindsTo s (PySem.W.kdv_fn "<lambda>" (Y.env.qual ++ "<lambda>") params (.expr body) scope (cloFrom Y.env.cells scope.names []) (.ref td) doc pm (.ref c') ctv) ⟨[], []⟩ [(a, .int 0 tk)] := BindsTo.of_defaults (items := #[.int 0 tk]) rfl ot rfl b2 b3
      refine bt _ _ _ _ (go [(a, .int 0 tk)] fun y hy => ?_)
      have e : y = (a, .int 0 tk) := by simpa using hy
      subst e; exact ha
end
end LP
set_option maxHeartbeats 2000000
namespace LP
open PySem PySem.Spec PyProof.Rows L2
theorem RelR.lay {K : PySem.W.Frag} {ci : Ci} {F : Fr K ci} {ρ : List Addr} {T : List (A × V)} {Γ : Ga} {S : So} {σ : L2.St} {H : Hp} (r : RelR F ρ T Γ S σ H) (p : Addr) {mo : MO} (hl : mo.live = false) (hm : MRep K ci ρ (mu F ρ S) H p mo) : RelR F (ρ ++ [p]) T Γ (S ++ [mo]) σ H := by
  have em : mutA (ρ ++ [p]) (S ++ [mo]) = mutA ρ S := by rw [mutA_append r.len, hl]; simp
  have eM : mu F (ρ ++ [p]) (S ++ [mo]) = mu F ρ S := by show mutA _ _ ++ F.ex = mutA _ _ ++ F.ex; rw [em]
  have hh : ∀ a u, H a = some u → a ∉ mu F ρ S → H a = some u ∧ a ∉ mu F (ρ ++ [p]) (S ++ [mo]) := fun a u e n => ⟨e, by rw [eM]; exact n⟩
  refine r.move (List.prefix_append _ _) (by simp [r.len]) (by rw [em]; exact r.nd) hh (fun k q o e1 e2 => ?_) r.ext (by rw [em]; exact r.fr)
  by_cases hk : k < S.length
  · rw [List.getElem?_append_left (by rw [r.len]; exact hk)] at e1
    rw [List.getElem?_append_left hk] at e2
    exact (r.st k q o e1 e2).mono hh (List.prefix_append _ _) fun _ => rfl
  · have hk2 : k = S.length := by have := (List.getElem?_eq_some_iff.mp e2).1; simp at this; omega
    subst hk2
    rw [← r.len] at e1
    simp at e1 e2
    subst e1 e2
    exact hm.mono hh (List.prefix_append _ _) fun _ => rfl
theorem funX_ok {P : Program} {w : World} {H : Hp} {h : Heap} {a : Addr} {o : Obj} (e : h.get? a = some o) : ObjOk P w H h a (FunX a o) := ⟨e, ⟨o, e⟩, fun _ _ z st => st _ z⟩
section
variable {ci : Ci} {X : Cx} {F : Fr X.K ci} {ρ : List Addr} {T : List (A × V)} {Γ : Ga} {S : So} {pins : List (Addr × Obj)} {σ : L2.St} {H : Hp} {s : Shared} {kt : Nat} {c P : Addr} {params : Arguments} {body : Expr} {scope : Scope} {pos : Pos} {E : Value → Shared → Prop} {Q : Value → Shared → Prop} {q : Str}
abbrev lamD (X : Cx) (params : Arguments) (body : Expr) (scope : Scope) : LamD := ⟨params, body, scope, cloFrom X.env.cells scope.names []⟩
def Keep (F : Fr X.K ci) (ρ : List Addr) (S : So) (H H1 : Hp) : Prop := ∀ a o, H a = some o → a ∉ mu F ρ S → H1 a = some o ∧ a ∉ mu F ρ S
theorem lamL_make {dV : Value} (I : Inv X pins σ H s) (TB : LamX.TabB X.base X.mg c P) (hcode : X.env.code = .ref c) (r : RelR F ρ T Γ S σ H) (hk : S[kt]? = some (.tab P q))
    (hD : (params.defaults = [] ∧ dV = .none) ∨ (params.defaults ≠ [] ∧ ∃ t tk, dV = .ref t ∧ H t = some (FunX t (PySem.W.kdv_tup [.int 0 tk])) ∧ t ∉ mu F ρ S)) (fre : ∀ y ∈ scope.names, y.2 = .free → ∃ c, X.env.cells.lookup y.1 = some c)
    (go : ∀ (f : Addr) (H1 : Hp) (s' : Shared), Inv X pins σ H1 s' → RelR F ρ T Γ S σ H1 → Keep F ρ S H H1 → LamAt (mu F ρ S) H1 q f (lamD X params body scope) → Q (.ref f) s') :
    wpAny (model X.prog X.w) X.A (makeTail "<lambda>" q params (.expr body) scope X.env dV .none none pos pos.line) Q E s := by
  have hkl : kt < ρ.length := by rw [r.len]; exact (List.getElem?_eq_some_iff.mp hk).1
  have er : ρ[kt]? = some ρ[kt] := List.getElem?_eq_getElem hkl
  obtain ⟨eP, ps, hP, ht, ha⟩ := r.st kt _ _ er hk
  rw [eP] at er hP
  have get : s.heap.get? P = some { cls := .none, data := .fields ps } := I.hok P _ hP
  -- the function's object laid
  have fin : ∀ {g : Heap} {tk : Nat} {H' : Hp} {doc ctv : Value} {c' : Addr}, Inv X pins σ H' { s with heap := g, toks := tk } → RelR F ρ T Γ S σ H' → Keep F ρ S H H' → H' c' = some (LamX.CodeO c' q) → c' ∉ mu F ρ S →
      Q (.ref g.objs.size) { s with heap := g.push (PySem.W.kdv_obj "<lambda>" q params (.expr body) scope (cloFrom X.env.cells scope.names []) dV doc ((X.mg "__name__").getD .none) c' ctv), toks := tk } := fun {g tk H' doc ctv c'} J r' hh hc nc => by
    have nF : H' g.objs.size = none := J.hok.fresh (Nat.le_refl _)
    have J2 := J.laid (h' := g.push (PySem.W.kdv_obj "<lambda>" q params (.expr body) scope (cloFrom X.env.cells scope.names []) dV doc ((X.mg "__name__").getD .none) c' ctv)) (t' := tk) (a := g.objs.size) (fun b u e => Heap.get?_push_of_some _ e) (Nat.le_refl _) (funX_ok (Heap.get?_push_size _ rfl))
    have r2 := r'.alloc (o := FunX g.objs.size (PySem.W.kdv_obj "<lambda>" q params (.expr body) scope (cloFrom X.env.cells scope.names []) dV doc ((X.mg "__name__").getD .none) c' ctv)) nF
    have k2 : Keep F ρ S H (upd H' g.objs.size (FunX g.objs.size (PySem.W.kdv_obj "<lambda>" q params (.expr body) scope (cloFrom X.env.cells scope.names []) dV doc ((X.mg "__name__").getD .none) c' ctv))) := fun a o e n => ⟨by rw [upd_ne (ne_of_none (hh a o e n).1 nF)]; exact (hh a o e n).1, n⟩
    refine go _ _ _ J2 r2 k2 ⟨doc, _, ctv, dV, c', upd_same, r'.fresh nF, by rw [upd_ne (ne_of_none hc nF)]; exact hc, nc, hD.imp id ?_⟩
    rintro ⟨d1, t, tk', e, h6, h7⟩
    exact ⟨d1, t, tk', e, (k2 _ _ h6 h7).1, h7⟩
  cases hc : codeAmong pos ps.toList with
  | some cv =>
    obtain ⟨c', rfl, hco, nco⟩ := ha pos cv hc
    refine PySem.W.kdv_makeTailHit (mg := X.mg) (P := P) (ps := ps) (c := c) (closure_ok fre) I.ok.glob (I.mod.glob.keeps I.bk) hcode (TB.code.keeps I.bk) get ht hc (TB.bm.keeps I.bk) fun ctv doc g tk kp sz => ?_
    exact fin (I.kept (t' := tk) kp) r (fun a o e n => ⟨e, n⟩) hco nco
  | none =>
    refine PySem.W.kdv_makeTail (mg := X.mg) (P := P) (ps := ps) (c := c) (closure_ok fre) I.ok.glob (I.mod.glob.keeps I.bk) hcode (TB.code.keeps I.bk) get ht hc TB.gP (TB.bm.keeps I.bk) fun c' ctv doc g tk kp le lt rec tbl => ?_
    obtain ⟨_, oc, vs, t, e9, oc1, oc2, oc3⟩ := rec
    cases e9
    have nC : H c' = none := I.hok.fresh le
    have nPc : P ≠ c' := ne_of_none hP nC
    have J := LamX.inv_table (t' := tk) (q := q) (more := #[rawInt pos.line, rawInt pos.col, .ref c']) (h' := g) I hP (fun b o hb e => kp b o hb e) tbl le ⟨oc, vs, t, oc1, oc2, oc3⟩
    have comm : upd (upd H P (.tbl (ps ++ #[rawInt pos.line, rawInt pos.col, .ref c']))) c' (LamX.CodeO c' q) = upd (upd H c' (LamX.CodeO c' q)) P (.tbl (ps ++ #[rawInt pos.line, rawInt pos.col, .ref c'])) := by
      funext b
      by_cases h1 : b = c'
      · subst h1; rw [upd_same, upd_ne (Ne.symm nPc), upd_same]
      · by_cases h2 : b = P
        · subst h2; rw [upd_ne h1, upd_same, upd_same]
        · rw [upd_ne h1, upd_ne h2, upd_ne h2, upd_ne h1]
    have r1 := r.alloc (o := LamX.CodeO c' q) nC
    have frc := r.fresh nC
    have hPm : P ∈ mu F ρ S := List.mem_append_left _ (mutA_mem er hk rfl)
    have eL : (ps ++ #[rawInt pos.line, rawInt pos.col, .ref c']).toList = ps.toList ++ [rawInt pos.line, rawInt pos.col, .ref c'] := by simp
    have r2 := r1.write (k := kt) (mo := .tab P q) (mo' := .tab P q) (o := .tbl (ps ++ #[rawInt pos.line, rawInt pos.col, .ref c'])) er hk rfl rfl (by
      refine ⟨rfl, _, upd_same, by rw [eL]; exact PySem.TriplesOk_snoc _ _ _ _ ht, fun p' cv hcv => ?_⟩
      rw [eL] at hcv
      rcases LamX.among_app _ ht hcv with z | z
      · obtain ⟨c0, e1, e2, e3⟩ := ha p' cv z
        refine ⟨c0, e1, ?_, e3⟩
        rw [upd_ne (fun e => by rw [e, hP] at e2; exact LamX.codeO_ne _ (Option.some.inj e2).symm), upd_ne (ne_of_none e2 nC)]
        exact e2
      · exact ⟨c', z, by rw [upd_ne (Ne.symm nPc), upd_same], frc⟩)
    have eS : S.set kt (.tab P q) = S := by
      apply List.ext_getElem?
      intro i
      by_cases hi : kt = i
      · subst hi; rw [hk]; exact List.getElem?_set_self (List.getElem?_eq_some_iff.mp hk).1
      · rw [List.getElem?_set_ne hi]
    rw [eS] at r2
    rw [comm] at J
    refine fin J r2 (fun a o e n => ⟨?_, n⟩) ?_ frc
    · rw [upd_ne (fun z => n (by rw [z]; exact hPm)), upd_ne (ne_of_none e nC)]
      exact e
    · rw [upd_ne (Ne.symm nPc), upd_same]
/-- a list's lambdas: each without defaults, or with the default 0 -/
inductive LamsE (X : Cx) : List Expr → List LamD → Prop
  | nil : LamsE X [] []
  | cons0 {params : Arguments} {body : Expr} {scope : Scope} {pos : Pos} {es : List Expr} {ds : List LamD} (hd : defaultsOf params X.env = ([], [])) (h0 : params.defaults = []) (fre : ∀ y ∈ scope.names, y.2 = .free → ∃ c, X.env.cells.lookup y.1 = some c) (h : LamsE X es ds) :
      LamsE X (.Lambda params body scope pos :: es) (lamD X params body scope :: ds)
  | cons1 {params : Arguments} {body : Expr} {scope : Scope} {pos p0 : Pos} {j : Nat} {es : List Expr} {ds : List LamD} (hd : params.defaults = [.Constant (.int 0) j p0]) (hk : params.kw_defaults = []) (fre : ∀ y ∈ scope.names, y.2 = .free → ∃ c, X.env.cells.lookup y.1 = some c) (h : LamsE X es ds) :
      LamsE X (.Lambda params body scope pos :: es) (lamD X params body scope :: ds)
theorem lams_list (TB : LamX.TabB X.base X.mg c P) (hcode : X.env.code = .ref c) (hk : S[kt]? = some (.tab P (X.env.qual ++ "<lambda>"))) : ∀ {es : List Expr} {ds : List LamD}, LamsE X es ds → ∀ {H : Hp}, RelR F ρ T Γ S σ H →
    wpA X es σ H fun vs H1 => ∃ fs : List Addr, vs = fs.map V.ref ∧ fs.length = ds.length ∧ RelR F ρ T Γ S σ H1 ∧ Keep F ρ S H H1 ∧ LamsAt (mu F ρ S) H1 (X.env.qual ++ "<lambda>") fs ds := by
  intro es ds hE
  have tail : ∀ {e : Expr} {es : List Expr} {d : LamD} {ds : List LamD} {H : Hp}, starEach (e :: es) X.env = (false, eval e X.env) :: starEach es X.env → (∀ {H : Hp}, RelR F ρ T Γ S σ H → wpA X es σ H fun vs H1 => ∃ fs : List Addr, vs = fs.map V.ref ∧ fs.length = ds.length ∧ RelR F ρ T Γ S σ H1 ∧ Keep F ρ S H H1 ∧ LamsAt (mu F ρ S) H1 (X.env.qual ++ "<lambda>") fs ds) →
      wpX X e σ H (fun v H1 => ∃ f, v = .ref f ∧ RelR F ρ T Γ S σ H1 ∧ Keep F ρ S H H1 ∧ LamAt (mu F ρ S) H1 (X.env.qual ++ "<lambda>") f d) →
      wpA X (e :: es) σ H fun vs H1 => ∃ fs : List Addr, vs = fs.map V.ref ∧ fs.length = (d :: ds).length ∧ RelR F ρ T Γ S σ H1 ∧ Keep F ρ S H H1 ∧ LamsAt (mu F ρ S) H1 (X.env.qual ++ "<lambda>") fs (d :: ds) := fun {e es d ds H} hst ih hx => by
    refine wpA_of (pa_cons pe_wp pa_wp hst) (wpX_mono hx fun v H1 ⟨f, ev, r1, k1, la⟩ => wpA_mono (ih r1) fun vs H2 ⟨fs, evs, hl, r2, k2, las⟩ => ?_)
    refine ⟨f :: fs, by rw [ev, evs]; rfl, by simp [hl], r2, fun a o e n => k2 a o (k1 a o e n).1 n, ⟨la.mono k2, las⟩⟩
  induction hE with
  | nil => intro H r; exact wpA_of pa_nil ⟨[], rfl, rfl, r, fun a o e n => ⟨e, n⟩, trivial⟩
  | @cons0 params body scope pos es ds hd h0 fre h ih =>
    intro H r
    refine tail (by rfl) ih fun pins s I => PySem.W.kla_eval hd ?_
    rw [makeFunction_eq]
    simp only [pure_bind, List.filterMap_nil, if_true, List.isEmpty_nil, List.zip_nil_right]
    exact lamL_make I TB hcode r hk (.inl ⟨h0, rfl⟩) fre fun f H1 s' I1 r1 k1 la => ⟨.ref f, H1, I1, rfl, f, rfl, r1, k1, la⟩
  | @cons1 params body scope pos p0 j es ds hd hkw fre h ih =>
    intro H r
    refine tail (by rfl) ih fun pins s I => PySem.W.kdv_lam (by rw [hd]; rfl) hkw ?_
    rw [hd]
    refine PySem.W.kdv_all1 (thn ((pe_int (X := X) (i := 0) (j := j) (pos := p0)).run pins s σ H (fun v H1 => v = .int 0 ∧ H1 = H) I ⟨rfl, rfl⟩) fun u s1 ⟨v, H1, I1, ru, ev, eH⟩ => PySem.W.kdv_all0 ?_)
    subst ev eH
    obtain ⟨tk, rfl⟩ := ru
    rw [makeFunction_eq]
    simp only [if_false, Bool.false_eq_true, List.isEmpty_cons, pure_bind, List.filterMap_nil, if_true, List.isEmpty_nil, List.zip_nil_right]
    refine wpAny_bind (wpAny_newTextTuple ?_)
    have nT : H1 s1.heap.objs.size = none := I1.hok.fresh (Nat.le_refl _)
    have J := I1.laid (h' := s1.heap.push (PySem.W.kdv_tup [.int 0 tk])) (t' := s1.toks) (a := s1.heap.objs.size) (fun b u e => Heap.get?_push_of_some _ e) (Nat.le_refl _) (funX_ok (Heap.get?_push_size _ rfl))
    have r1 := r.alloc (o := FunX s1.heap.objs.size (PySem.W.kdv_tup [.int 0 tk])) nT
    have k0 : Keep F ρ S H1 (upd H1 s1.heap.objs.size (FunX s1.heap.objs.size (PySem.W.kdv_tup [.int 0 tk]))) := fun a o e n => ⟨by rw [upd_ne (ne_of_none e nT)]; exact e, n⟩
    exact lamL_make J TB hcode r1 hk (.inr ⟨by rw [hd]; simp, _, tk, rfl, upd_same, r.fresh nT⟩) fre fun f H2 s' I2 r2 k2 la => ⟨.ref f, H2, I2, rfl, f, rfl, r2, fun a o e n => k2 a o (k0 a o e n).1 n, la⟩
end
def wLams (kt : Nat) (P : Addr) (q : Str) (Ls : List LamD) : WE := fun _ S _ Q => S[kt]? = some (.tab P q) ∧ ∀ fs : List Addr, fs.length = Ls.length → Q (.d (.lst (fs.map D.fn))) (S ++ [.fnl q fs Ls])
theorem reps_fns {K : PySem.W.Frag} {ci : Ci} {M : List Addr} {H : Hp} : ∀ fs : List Addr, Reps K ci M H (fs.map D.fn) (fs.map V.ref)
  | [] => .nil
  | f :: fs => .cons (by rw [Rep]) (reps_fns fs)
section
variable {ci : Ci} {X : Cx} {kt : Nat} {c P : Addr} {es : List Expr} {Ls : List LamD} {pos : Pos}
theorem re_lams (TB : LamX.TabB X.base X.mg c P) (hcode : X.env.code = .ref c) (hE : LamsE X es Ls) (hn : Nat.ble Ls.length 1000 = true) : RE ci X (.List es pos) (wLams kt P (X.env.qual ++ "<lambda>") Ls) := fun F ex xo T Γ S σ H Q ⟨ρ, r⟩ ⟨hk, q⟩ => by
  refine wpX_of (pe_lst pa_wp) (wpA_mono (lams_list TB hcode hk hE r) fun vs H1 ⟨fs, ev, hl, r1, k1, las⟩ => ?_)
  subst ev
  refine ⟨small_len (by rw [List.length_map]; exact hl) hn, fun p hp => ⟨_, _, ⟨_, ((r1.newL hp (reps_fns fs)).lay p (mo := .fnl (X.env.qual ++ "<lambda>") fs Ls) rfl (las.mono fun a o e n => ⟨by rw [upd_ne (ne_of_none e hp)]; exact e, n⟩))⟩, q fs hl⟩⟩
end
end LP
set_option maxHeartbeats 2000000
namespace LP
open PySem PySem.Spec PyProof.Rows L2
def fc_why (q : Str) (cs : List Nat) (G : FieldC) (Ls : List LamD) (W : List WE) (σ : L2.St) : FC := fun as S _ Q => ∃ (k1 k2 i : Nat) (fs : List Addr) (f : Addr) (Γ : Ga) (w : WE), as = [.d (.fn f)] ∧ S[k1]? = some (.fnl q fs Ls) ∧ S[k2]? = some (.slo σ Γ) ∧ fs[i]? = some f ∧ W[i]? = some w ∧
  w Γ S (fun er S1 => er.c ∈ cs ∧ ∃ t, whyT G er = some t ∧ Q (.d t) S1) fun a S1 => ∃ d S2, frz S1 a = some (d, S2) ∧ Q (.d (.tup [.str "value", d])) S2
theorem lamsAt_get {M : List Addr} {H : Hp} {q : Str} : ∀ {fs : List Addr} {ds : List LamD} {i : Nat} {f : Addr}, LamsAt M H q fs ds → fs[i]? = some f → ∃ d, ds[i]? = some d ∧ LamAt M H q f d
  | [], _, i, f, _, e => by simp at e
  | _ :: _, [], _, _, z, _ => z.elim
  | g :: fs, d :: ds, 0, f, ⟨a, b⟩, e => by simp at e; subst e; exact ⟨d, rfl, a⟩
  | g :: fs, d :: ds, i + 1, f, ⟨a, b⟩, e => by simpa using lamsAt_get b (by simpa using e)
section
variable {Y : Cx} {ci : Ci} {x : Str} {cs : List Nat} {G : FieldC} {k : Nat} {Ls : List LamD} {W : List WE} {σ : L2.St}
/-- what is known of the lambdas of a list -/
def LamsOk (Y : Cx) (ci : Ci) (k : Nat) (Ls : List LamD) (W : List WE) : Prop := ∀ (i : Nat) (d : LamD) (w : WE), Ls[i]? = some d → W[i]? = some w → LamL Y.env.scope Y.N d.scope ∧ BindL (Y.env.qual ++ "<lambda>") d.params d.body d.scope ∧ d.clos = cloFrom Y.env.cells d.scope.names [] ∧
  ∀ (A : Around) (outer : List Env) (s : Shared) (H : Hp) (E : XK) (f c' : Addr), Room k (A.deeper (LamX.lamEnv Y d.scope s.heap.objs.size f c')) → RE ci (LamX.lamCx Y A outer s H E d.scope f c') d.body w
theorem why_call (WS : WhyS Y.prog Y.w Y.K Y.mg Y.base ci cs x G) (C : Capt Y σ) (LO : LamsOk Y ci k Ls W) : CallP Y.prog Y.w Y.K Y.mg Y.base ci (k + 2) x [] (spOf Y.K ci (fc_why (Y.env.qual ++ "<lambda>") cs G Ls W σ)) := by
  obtain ⟨g, fdg, pa, bg, sg, t, C1, C2, C3, Fg, sc, hm, hbd, hW, la, le, da, da2, de, de2, df, n1, n2, n3, lf, FS, facts⟩ := WS.ex
  obtain ⟨j1, k1, k2, k3, q1, q2, q3, q4, q5, q6, q7, q8, q9, q10, q11, q12, q13, q14, q15, r1, r2, r3, rfl⟩ := hW
  refine ⟨g, fdg, [t.ask], [], ?_, hm, Fg.kp, hbd, .nil, rfl⟩
  refine Fg.ok sc (fun vs H Q E h => ?_) (fun cdv A outer s H vs Q E hr h => ?_)
  · obtain ⟨as, S, ρ, ex, Q', ex', h1, _, ⟨_, _, _, _, _, _, _, rfl, _⟩, _⟩ := h
    rw [← h1]; rfl
  · obtain ⟨as, S, ρ, ex, Q', ex', h1, R1, ⟨kf, ks, i, fs, f, Γ, w, rfl, hkf, hks, hfi, hwi, qq⟩, hQ, _⟩ := h
    match vs, h1, R1 with
    | [v], _, R1 =>
    have ev : v = .ref f := by
      have := R1.tl (.d (.fn f), v) (by simp)
      rw [ARep, Rep] at this; exact this
    subst ev
    obtain ⟨pf, hpf⟩ : ∃ p, ρ[kf]? = some p := ⟨_, List.getElem?_eq_getElem (by rw [R1.len]; exact (List.getElem?_eq_some_iff.mp hkf).1)⟩
    obtain ⟨pk, hpk⟩ : ∃ p, ρ[ks]? = some p := ⟨_, List.getElem?_eq_getElem (by rw [R1.len]; exact (List.getElem?_eq_some_iff.mp hks).1)⟩
    obtain ⟨d, hdi, LA⟩ := lamsAt_get (R1.st kf pf _ hpf hkf) hfi
    obtain ⟨sl1, sl2⟩ := R1.st ks pk _ hpk hks
    obtain ⟨LL, BL, hcl, hb⟩ := LO i d w hdi hwi
    have R2 := (R1.slots (Γ' := Γ) (σ' := σ) sl1 sl2).drop (T' := []) fun z hz => (by cases hz)
    let F : Fr Y.K ci := ⟨H, ρ, mutA ρ S, ex⟩
    let exB : EK := fun er S1 => er.c ∈ cs ∧ ∃ t, whyT G er = some t ∧ Q' (.d t) S1
    let E' : XK := fun cls d H => ExW F exB cls d H
    let QV : VK := fun v H' => ∃ a S', Rel F [(a, v)] [] S' [] H' ∧ Q' a S'
    let Z := (cxOf (L2.CX Y.prog Y.w) Y.prog Y.w Y.K Y.mg Y.base [t.ask, t.en] x sg g cdv A outer s H E).nox
    obtain ⟨dp, db, ds, dc⟩ := d
    have LA' : LamAt (mu F ρ S) H (Y.env.qual ++ "<lambda>") f ⟨dp, db, ds, cloFrom Y.env.cells ds.names []⟩ := by
      have e : dc = cloFrom Y.env.cells ds.names [] := hcl
      rw [← e]; exact LA
    let tbW : WX → TS := fun W D ς G' => (∀ cls d ς' G', E' cls d G' → W cls d ς' G') ∧ ς[0]? = some (some (.ref f)) ∧ G' = H ∧ ∀ v H', QV v H' → D.rt v H'
    have main : PS Z _ _ := ps_tryT (X := Z) (i := 1) (n := t.en) (kk := k2) (c1 := C1) (c2 := C2) (c3 := C3) (p1 := r1) (p2 := r2) (p3 := r3) (tp := q6) (hp := q14) (pos := q15) (body := [.Return (some (.Tuple [.Constant (.str "value") j1 q1, .Call (.Name t.ask q2) [] [] q3] k1 q4)) q5]) (b1 := .Return (some (.Tuple [.Attribute (.Name t.en q7) "code" q8, .Call (.Name t.fn q9) [.Name t.en q10] [] q11] k3 q12)) q13) (rest := [])
      (tb := tbW) (ts := fun a cls d D ς G' => (∃ ς0 : L2.St, ς = ς0.set 1 (some (.ref a))) ∧ E' cls d G' ∧ ∀ v H', QV v H' → D.rt v H')
      rfl rfl sc.nd rfl le ⟨n1.1, n1.2.1, .inl n1.2.2⟩ ⟨n2.1, n2.2.1, .inl n2.2.2⟩ ⟨n3.1, n3.2.1, .inl n3.2.2⟩ (fun W pn xe tk _ => ?_) (fun a oe cls d pn hz hd => ?_)
    · refine ⟨_, (pss_one main).nox, ?_⟩
      refine ⟨fun cls d ς' G' he => ?_, rfl, rfl, fun v H' h => hQ v H' h⟩
      obtain ⟨er, S1, ρ1, r1', er1, hc, _⟩ := id he
      refine ⟨?_, fun a _ => ⟨⟨ς', rfl⟩, he, fun v H' h => hQ v H' h⟩⟩
      rw [er1.1]
      exact (facts er.c hc).1
    · refine pss_one (ps_ret (te := fun ς G' QQ => (∀ cls d ς' G', E' cls d G' → W cls d ς' G') ∧ ς[0]? = some (some (.ref f)) ∧ G' = H ∧ ∀ v H', QV v H' → QQ v H') ⟨fun pz sz ς G' QQ Iz ⟨w1, w2, w3, w4⟩ => ?_⟩)
      obtain rfl := w3.symm
      have pc : PE (Z.tr pn xe) (.Call (.Name t.ask q2) [] [] q3) (fun ς G' QQ => ς[0]? = some (some (.ref f)) ∧ G' = H ∧ ∀ v H2, (∃ a S2, Rel F [(a, v)] Γ S2 σ H2 ∧ ∃ d S3, frz S2 a = some (d, S3) ∧ Q' (.d (.tup [.str "value", d])) S3) → QQ v H2) := ⟨fun pz sz ς G' QQ Iz ⟨v1, v2, v3⟩ => by
        obtain rfl := v2.symm
        refine wpAny_Call_Name_kw (thn ((pe_var (pos := q2) (i := 0) (x := t.ask) rfl (.inl la) da da2).run pz sz ς H (fun v H1 => v = .ref f ∧ H1 = H) Iz ⟨.ref f, v1, rfl, rfl⟩) fun u s1 ⟨v, H1, I1, r1, q1⟩ => ?_)
        obtain ⟨ev, eH⟩ := q1
        subst ev
        rw [eH] at I1
        obtain rfl : u = Value.ref f := r1
        obtain ⟨_, _, _, _, _, hF, _⟩ := id LA'
        obtain ⟨of1, _, _⟩ := I1.hok f _ hF
        refine PySem.W.callWith_F0 ⟨_, _, _, _, of1⟩ (wpAny_call (codeAny_mono (lamB_run (Y := Y) (A := (Z.tr pn xe).A) (outer := (Z.tr pn xe).stack) (s := s1) (H := H) (E := E') (Q := QQ) (tb := fun ς1 G1 Q1 => ς1 = σ ∧ G1 = H ∧ ∀ v H2, (∃ a S2, Rel F [(a, v)] Γ S2 σ H2 ∧ ∃ d S3, frz S2 a = some (d, S3) ∧ Q' (.d (.tup [.str "value", d])) S3) → Q1 v H2) C LL rfl BL I1.env0 hr LA' (fun c' hr2 => ⟨fun py sy ς1 G1 Q1 Iy ⟨y1, y2, y3⟩ => by
          obtain rfl := y1.symm
          obtain rfl := y2.symm
          have xo' : Xok (LamX.lamCx Y (Z.tr pn xe).A (Z.tr pn xe).stack s1 H E' ds f c') F exB := takes_of rfl rfl rfl rfl
          exact wpX_mono (hb (Z.tr pn xe).A (Z.tr pn xe).stack s1 H E' f c' hr2 F exB xo' [] Γ S σ H _ ⟨ρ, R2⟩ qq) (fun v H2 ⟨a, S2, r2, h2⟩ => y3 v H2 ⟨a, S2, r2, h2⟩) py sy Iy⟩) ⟨rfl, rfl, v3⟩) fun r s' hq => ?_))
        have hx : Passes (L2.CX Y.prog Y.w) (Z.tr pn xe) E' := passes_call tk fun cls d ς' G' h => w1 cls d ς' G' h
        cases r with
        | error e => exact hx pz ς H s1 e s' I1 hq
        | ok fl =>
          cases fl with
          | ret u => exact I1.after hq
          | next => exact False.elim hq
          | brk => exact False.elim hq
          | cont => exact False.elim hq⟩
      refine (pe_tup (pa_cons (X := Z.tr pn xe) (pe_str (x := "value") (j := j1) (pos := q1)) (pa_cons pc pa_nil rfl) rfl)).run pz sz ς H QQ Iz ?_
      refine ⟨w2, rfl, fun v H2 ⟨a, S2, r2, d, S3, e3, q3'⟩ => ⟨small_len (m := 2) rfl rfl, fun p hp => w4 _ _ ?_⟩⟩
      obtain ⟨ρ3, r3⟩ := r2.frz e3
      have R0 := r3.tl (.d d, v) (by simp)
      refine ⟨_, S3, ⟨ρ3, ((r3.newT (ds := [.str "value", d]) (vs := [.str "value", v]) hp (.cons (by rw [Rep]) (.cons R0 .nil))).bare).drop fun z hz => ?_⟩, q3'⟩
      rcases List.mem_cons.mp hz with rfl | hz
      · exact List.mem_cons_self
      · cases hz
    · refine ⟨fun pz sz ς G' D Iz ⟨⟨ς0, w1⟩, w2, w3⟩ => ?_⟩
      obtain ⟨er, S1, ρ1, R3, ⟨e0, dx, vs, e1, e2, e3, e4, e5⟩, hc, tt, ett, hQ2⟩ := w2
      subst e0 e1
      unfold whyT at ett
      split at ett
      · rename_i x0 y0 ex0 ey0
        cases ett
        have T2 : ExoC (Z.suite a ((a, oe) :: pn)) a dx (ci er.c).1 oe := ⟨(facts _ hc).2.1, List.mem_cons_self, hz, hd⟩
        have len := Iz.len
        have l2 : ς.length = 2 := len
        have rr := L2H.roomH_of (hr.mono (show 1 ≤ k + 1 by omega))
        have rh : L2H.RoomH 1 (Z.suite a ((a, oe) :: pn)).A := ⟨rr.dp, rr.un⟩
        have r0 : RelR (F.shut G' ρ1 S1) [a] [] [none, some (.loc 0)] [.exo a dx er.fs] ς G' := by
          refine ⟨List.nil_prefix, rfl, List.nodup_nil, fun j b o h1 h2 => ?_, by rw [l2]; rfl, fun i b z => ?_, fun z hz => (by cases hz), fun b o z _ => z, fun b z => (by cases z), fun b z => ⟨(by intro y; cases y), fun y => R3.fresh y z⟩⟩
          · cases j with
            | zero => cases h1; cases h2; exact ⟨rfl, vs, e2, e3, e4, e5⟩
            | succ j => simp at h1
          · match i, z with
            | 0, z => cases z
            | 1, z =>
              cases z
              refine ⟨.ref a, ?_, a, rfl, rfl⟩
              rw [w1] at l2 ⊢
              exact List.getElem?_set_self (by rw [List.length_set] at l2; omega)
        have nm : ∀ {ps : Pos}, RP ci (Z.suite a ((a, oe) :: pn)) (.Name t.en ps) (fV 1) := fun {ps} => rp_v 1 (x := t.en) rfl (.inl le) de de2
        have tup := rp_tup (x1 := k3) (pos := q12) (rps_cons (rp_xf (n := "code") (pos := q8) T2 (facts _ hc).2.2 (nm (ps := q7))) (rps_cons (rp_efl (x := t.fn) (q := q9) (pos := q11) FS hc T2 rh lf (nm (ps := q10)) df) rps_nil))
        have st := (rss_one (rs_ret (pos := q13) (re_p tup))) (F.shut G' ρ1 S1) { nx := fun _ _ => False, rt := fun b _ => b = .d (.tup [x0, y0]), ex := fun _ _ => False } ((LamX.takes0).imp fun c dd σ H' ⟨er, S', ρ', _, _, z⟩ => z) [] _ _ _ G' ⟨_, r0⟩ ⟨_, by simp [fTup, fCons, fNil, fXf, fEfl, fV, ex0, ey0, dataOf], rfl⟩
        refine thn (st pz sz Iz) fun fl s3 z => ?_
        cases fl with
        | next => obtain ⟨_, _, _, _, _, _, z⟩ := z; exact z.elim
        | brk => obtain ⟨_, _, _, _, _, _, z⟩ := z; exact z.elim
        | cont => obtain ⟨_, _, _, _, _, _, z⟩ := z; exact z.elim
        | ret u =>
          obtain ⟨v, σ', H', I', rv, a', S', ⟨ρ', r'⟩, e'⟩ := z
          subst e'
          exact ⟨v, σ', H', I', rv, w3 _ _ ⟨_, S1, ⟨_, R3.unshut r' List.mem_cons_self⟩, hQ2⟩⟩
      · cases ett
end
end LP
set_option maxHeartbeats 2000000
namespace LP
open PySem PySem.Spec PyProof.Rows L2
def whysL (cs : List Nat) (G : FieldC) (k1 k2 : Nat) : List WE → List D → Ga → So → AK → Prop
  | [], acc, _, S, Q => Q (.d (.lst acc)) S
  | w :: ws, acc, Γ, S, Q => ∀ K : AK, (∀ t S1, S1[k1]? = S[k1]? → S1[k2]? = S[k2]? → whysL cs G k1 k2 ws (acc ++ [t]) Γ S1 Q → K (.d t) S1) →
      w Γ S (fun er S1 => er.c ∈ cs ∧ ∃ t, whyT G er = some t ∧ K (.d t) S1) fun a S1 => ∃ d S2, frz S1 a = some (d, S2) ∧ K (.d (.tup [.str "value", d])) S2
def fc_whys (q : Str) (cs : List Nat) (G : FieldC) (Ls : List LamD) (W : List WE) (σ : L2.St) : FC := fun as S _ Q => ∃ (k1 k2 : Nat) (fs : List Addr) (Γ : Ga), as = [.d (.lst (fs.map D.fn))] ∧ S[k1]? = some (.fnl q fs Ls) ∧ S[k2]? = some (.slo σ Γ) ∧ fs.length = W.length ∧ whysL cs G k1 k2 W [] Γ S Q
/-- the wish of _law_whys's body, as it is derived -/
def wWhysB (fcw : FC) : WS := wRet (wLc (wI (iL (fV 0))) (tgN 1) [1] (fun _ S _ Q => Q true S) (wFnM [] fcw (wPs (fCons (fV 1) (fNil)))))
theorem v_whys {q : Str} {cs : List Nat} {G : FieldC} {Ls : List LamD} {W : List WE} {σ : L2.St} {N : List Str} (hN : N.length = 2) (as : List A) (S : So) (ex : EK) (Q : AK) (h : fc_whys q cs G Ls W σ as S ex Q) :
    wWhysB (fc_why q cs G Ls W σ) (stG N as) S { nx := fun _ S' => Q (.d .non) S', rt := Q, ex := ex } := by
  obtain ⟨k1, k2, fs, Γ, rfl, h1, h2, hl, hq⟩ := h
  have eN : stG N [.d (.lst (fs.map D.fn))] = [some (.d (.lst (fs.map D.fn))), none] := by simp [stG, hN]
  rw [eN]
  unfold wWhysB wRet wLc wI
  refine ⟨fun _ => some (fs.map D.fn), fs.map D.fn, by simp [iL, fV, viewL], rfl, ?_⟩
  refine lc_inv (fun acc r S' => r = (fs.drop acc.length).map D.fn ∧ S'[k1]? = some (.fnl q fs Ls) ∧ S'[k2]? = some (.slo σ Γ) ∧ whysL cs G k1 k2 (W.drop acc.length) acc Γ S' Q) ?_ ?_ _ _ _ ⟨rfl, h1, h2, hq⟩
  · rintro acc d r S' kk ⟨er, e1, e2, e3⟩ hk
    have hlt : acc.length < fs.length := by
      rcases Nat.lt_or_ge acc.length fs.length with z | z
      · exact z
      · rw [List.drop_eq_nil_of_le z] at er; cases er
    have hltW : acc.length < W.length := by rw [← hl]; exact hlt
    rw [List.drop_eq_getElem_cons hlt, List.map_cons] at er
    rw [List.drop_eq_getElem_cons hltW] at e3
    injection er with er1 er2
    subst er1 er2
    refine ⟨_, rfl, ?_⟩
    refine ⟨[.d (.fn fs[acc.length])], by simp [fCons, fNil, fV, wipeG], ?_⟩
    show fc_why q cs G Ls W σ ([A.d (D.fn (fs[acc.length]'hlt))] ++ []) S' noEx _
    rw [List.append_nil]
    refine ⟨k1, k2, acc.length, fs, _, Γ, W[acc.length], rfl, e1, e2, List.getElem?_eq_getElem hlt, List.getElem?_eq_getElem hltW, ?_⟩
    exact e3 (fun a S2 => ∃ x, a = .d x ∧ kk x S2) fun t S1 z1 z2 z3 => ⟨t, rfl, hk t S1 rfl ⟨by simp, by rw [z1]; exact e1, by rw [z2]; exact e2, by simpa using z3⟩⟩
  · rintro acc S' ⟨er, e1, e2, e3⟩
    have hge : fs.length ≤ acc.length := by
      rcases Nat.lt_or_ge acc.length fs.length with z | z
      · rw [List.drop_eq_getElem_cons z] at er; cases er
      · exact z
    rw [List.drop_eq_nil_of_le (by rw [← hl]; exact hge)] at e3
    exact e3
structure WhysS (P : Program) (w : World) (K : PySem.W.Frag) (mg : Str → Option Value) (ci : Ci) (cs : List Nat) (kw : Nat) (x xs : Str) (G : FieldC) : Prop where
  why : ∀ B : Heap, WhyS P w K mg B ci cs x G
  ex : ∃ (f : Addr) (fd : FuncData) (pa : Arguments) (body : List Stmt) (sc : Scope) (N : List Str) (pn : Str), FunD K xs xs pa body sc [] [] f fd ∧ FnScope N [pn] sc ∧ N.length = 2 ∧ mg xs = some (.ref f) ∧ Binds K fd [pn] [] ∧
    ∀ (B : Heap) (fcw : FC), CallP P w K mg B ci kw x [] (spOf K ci fcw) → Body P w K mg B ci N xs sc f (kw + 1) body (wWhysB fcw)
def wWhys (q : Str) (cs : List Nat) (G : FieldC) (Ls : List LamD) (W : List WE) (fo : QF) : WE := fun Γ S _ Q => ∃ (k1 : Nat) (fs : List Addr), fo Γ S = some (.d (.lst (fs.map D.fn))) ∧ S[k1]? = some (.fnl q fs Ls) ∧ fs.length = W.length ∧ ∀ m : MO, whysL cs G k1 S.length W [] Γ (S ++ [m]) Q
section
variable {ci : Ci} {X : Cx} {x xs : Str} {cs : List Nat} {G : FieldC} {k : Nat} {Ls : List LamD} {W : List WE} {fo : QF} {e : Expr} {p pos : Pos}
theorem capt_of {pins : List (Addr × Obj)} {σ : L2.St} {H : Hp} {s : Shared} (I : Inv X pins σ H s) (hfn : ∀ z, X.fn z = true) : Capt { X with base := frozen X H s } σ := by
  have far : ∀ {z : Str} {c : Addr}, X.env.cells.lookup z = some c → c ∉ frs X.stack := fun {z c} e hm => by
    have out : c ∉ frs X.outer := fun hm => by
      obtain ⟨_, o, ho, _⟩ := I.ok.funs.mem hm
      exact absurd (Heap.lt_size ho) (Nat.not_lt.mpr (I.ok.cab z c (hfn z) e))
    rcases I.ok.stk with q | ⟨q, hf⟩
    · rw [q] at hm; exact out hm
    · rw [q] at hm
      unfold frs at hm
      rw [List.filterMap_cons, hf] at hm
      rcases List.mem_cons.mp hm with z1 | z1
      · exact I.cne z c e z1
      · exact out z1
  have cellF : ∀ {z : Str} {c : Addr} {v : Option Value}, X.env.cells.lookup z = some c → s.heap.IsCell c v → (frozen X H s).IsCell c v := fun {z c v} e ⟨o, ho, hd⟩ => ⟨o, frozen_get ho (I.freeC z c e) (far e), hd⟩
  refine ⟨I.len, fun a b c h1 h2 => I.ok.inj a b c h1 h2, fun z hz => I.ok.has z hz, fun z c e => let ⟨v, hv⟩ := I.cell z c e; ⟨v, cellF e hv⟩, fun i z v e1 e2 kd => ?_⟩
  obtain ⟨m, hns, hl⟩ := I.loc
  have vis : Vis X.env.scope z := kd.elim (fun k => .inr (.inl k)) fun k => .inr (.inr k)
  obtain ⟨u, ru, lk⟩ := hl i z v e1 e2 vis
  rcases lk with ⟨k1, _⟩ | ⟨_, c, hc, hb⟩
  · have k1 : X.env.scope.names.lookup z = some .local := k1
    have kd : X.env.scope.names.lookup z = some .cell ∨ X.env.scope.names.lookup z = some .free := kd
    rw [k1] at kd
    rcases kd with kd | kd <;> cases kd
  · exact ⟨u, c, ru, hc, cellF hc hb⟩
theorem re_whys (WS : WhysS X.prog X.w X.K X.mg ci cs (k + 2) x xs G) (hg : Gl X xs) (hfn : ∀ z, X.fn z = true) (hr : Room (k + 4) X.A) (LO : ∀ B : Heap, Up X.K X.mg X.base B → LamsOk { X with base := B } ci k Ls W) (he : RP ci X e fo) (hdb : (xs == ("__debug__" : Str)) = false := by decide +kernel)
    (hst : starEach [e] X.env = (false, eval e X.env) :: starEach [] X.env := by kernel_rfl) (hpl : (backTo pos (starEach [] X.env)).any (·.1) = false := by kernel_rfl) :
    RE ci X (.Call (.Name xs p) [e] [] pos) (wWhys (X.env.qual ++ "<lambda>") cs G Ls W fo) := fun F ex xo T Γ S σ H Q r qq => by
  obtain ⟨k1, fs, e1, hk1, hl, hm⟩ := qq
  obtain ⟨f, fd, pa, body, sc, N, pn, Fw, scw, hN2, hmx, hbd, hbody⟩ := WS.ex
  intro pins s I
  refine wpAny_Call_Name_kw (ld_glob I hg hmx ?_ hdb)
  refine PySem.W.callWith_K (h₀ := X.base) I.ok.mod.kin Fw.kp ?_ hst hpl
  refine thn ((rps_cons he rps_nil hst).2 F T Γ S σ H [_] r (by simp [fCons, fNil, e1]; rfl) pos pins s I) fun us s1 hu => ?_
  obtain ⟨vs, H1, I1, rv, hlv, ⟨ρ, r1⟩⟩ := hu
  refine ⟨I1.kIn, ?_⟩
  let B := frozen X H1 s1
  have U : Up X.K X.mg X.base B := frozen_up I1
  have CW := why_call (Y := { X with base := B }) (k := k) (WS.why B) (capt_of I1 hfn) (LO B U)
  have FW := fnM (P := X.prog) (w0 := X.w) (base := B) (ci := ci) Fw scw (fc := fc_whys (X.env.qual ++ "<lambda>") cs G Ls W σ) (fun as S ex Q ⟨_, _, _, _, e, _⟩ => by rw [e]; rfl) (hbody B _ CW) (v_whys hN2)
  have r2 := r1.lay 0 (mo := .slo σ Γ) rfl ⟨r1.gs, r1.gl⟩
  have spw : spOf X.K ci (fc_whys (X.env.qual ++ "<lambda>") cs G Ls W σ) (vs ++ ([] : List D).map D.v) H1 (VEnd F T Γ σ Q) C8.E0 := by
    refine spOf_of (F := F) (T := ([A.d (.lst (fs.map D.fn))].zip vs) ++ T) (as := [.d (.lst (fs.map D.fn))]) (ex := fun _ _ => False) (Q' := Q) ⟨_, r2⟩ hlv (fun q hq => List.mem_append_left _ hq) rfl ?_ (fun a S' v H2 r3 h => ⟨a, S', r3.drop fun z hz => ?_, h⟩) (fun cls dd H2 ⟨_, _, _, _, _, z⟩ => z)
    · refine ⟨k1, S.length, fs, Γ, rfl, ?_, ?_, hl, hm _⟩
      · rw [List.getElem?_append_left (List.getElem?_eq_some_iff.mp hk1).1]; exact hk1
      · simp
    · rcases List.mem_cons.mp hz with rfl | hz
      · exact List.mem_cons_self
      · exact List.mem_cons_of_mem _ (List.mem_append_right _ hz)
  rw [List.map_nil, List.append_nil] at spw
  have bi := hbd s1 us I1.kIn (by rw [List.append_nil, ← rv.length, ← hlv]; rfl)
  rw [List.append_nil] at bi
  refine wpAny_call (codeAny_mono (FW.run X.A X.stack s1 H1 ⟨us, []⟩ us vs (VEnd F T Γ σ Q) C8.E0 hr (frozen_env0 I1) bi rv spw) fun r s' hq => ?_)
  cases r with
  | error er =>
    obtain ⟨_, _, _, _, _, _, _, _, _, _, _, _, z⟩ := hq
    exact z.elim
  | ok fl =>
    cases fl with
    | ret u => exact I1.after hq
    | next => exact False.elim hq
    | brk => exact False.elim hq
    | cont => exact False.elim hq
end
end LP
set_option maxHeartbeats 2000000
namespace LP
open PySem PySem.Spec PyProof.Rows L2
def lamDe (env : Env) : Expr → LamD
  | .Lambda p b s _ => ⟨p, b, s, cloFrom env.cells s.names []⟩
  | e => ⟨⟨[], [], none, [], [], none, []⟩, e, env.scope, []⟩
def forBody : Stmt → List Stmt
  | .For _ _ b _ _ => b
  | .While _ b _ _ => b
  | .If _ b _ _ => b
  | _ => []
def asgVal : Stmt → Expr
  | .Assign _ v _ => v
  | _ => .Constant .none 0 ⟨0, 0, 0, 0⟩
def lstEs : Expr → List Expr
  | .List es _ => es
  | _ => []
def stAt (l : List Stmt) (i : Nat) : Stmt := l.getD i (.Pass ⟨0, 0, 0, 0⟩)
section
variable {X : Cx} {params : Arguments} {body : Expr} {scope : Scope} {pos p0 : Pos} {j : Nat} {es : List Expr}
theorem lamsN : LamsE X [] (([] : List Expr).map (lamDe X.env)) := .nil
theorem lams0 (hd : defaultsOf params X.env = ([], [])) (h0 : params.defaults = []) (fre : ∀ y ∈ scope.names, y.2 = .free → ∃ c, X.env.cells.lookup y.1 = some c) (h : LamsE X es (es.map (lamDe X.env))) :
    LamsE X (.Lambda params body scope pos :: es) ((.Lambda params body scope pos :: es).map (lamDe X.env)) := .cons0 hd h0 fre h
theorem lams1 (hd : params.defaults = [.Constant (.int 0) j p0]) (hk : params.kw_defaults = []) (fre : ∀ y ∈ scope.names, y.2 = .free → ∃ c, X.env.cells.lookup y.1 = some c) (h : LamsE X es (es.map (lamDe X.env))) :
    LamsE X (.Lambda params body scope pos :: es) ((.Lambda params body scope pos :: es).map (lamDe X.env)) := .cons1 hd hk fre h
end
section
variable {Y : Cx} {ci : Ci} {k : Nat}
theorem losN : LamsOk Y ci k [] [] := fun i d w h => by simp at h
theorem losC {d : LamD} {w : WE} {Ls : List LamD} {W : List WE} (h1 : LamL Y.env.scope Y.N d.scope) (h2 : BindL (Y.env.qual ++ "<lambda>") d.params d.body d.scope) (h3 : d.clos = cloFrom Y.env.cells d.scope.names [])
    (h4 : ∀ (A : Around) (outer : List Env) (s : Shared) (H : Hp) (E : XK) (f c' : Addr), Room k (A.deeper (LamX.lamEnv Y d.scope s.heap.objs.size f c')) → RE ci (LamX.lamCx Y A outer s H E d.scope f c') d.body w) (r : LamsOk Y ci k Ls W) : LamsOk Y ci k (d :: Ls) (w :: W) := fun i d' w' e1 e2 => by
  cases i with
  | zero => cases e1; cases e2; exact ⟨h1, h2, h3, h4⟩
  | succ i => exact r i d' w' (by simpa using e1) (by simpa using e2)
end
section
variable {P : Program} {w0 : World} {K : PySem.W.Frag} {mg : Str → Option Value} {base : Heap} {ci : Ci} {x qual : Str} {params : Arguments} {body : List Stmt} {scope : Scope} {dvs : List V} {kws : List (Str × V)} {f : Addr} {fd : FuncData} {N ps : List Str} {k : Nat}
abbrev BodyL (P : Program) (w0 : World) (K : PySem.W.Frag) (mg : Str → Option Value) (base : Heap) (ci : Ci) (N : List Str) (qual : Str) (scope : Scope) (f : Addr) (k : Nat) (c : Addr) (body : List Stmt) (es : List Expr) (w : List LamD → WS) : Prop :=
  ∀ (A : Around) (outer : List Env) (s : Shared) (H : Hp) (E : XK), Room k (cxD P w0 K mg base N qual scope f (.ref c) A outer s H E).A → RSs ci (cxD P w0 K mg base N qual scope f (.ref c) A outer s H E) body (w (es.map (lamDe (cxD P w0 K mg base N qual scope f (.ref c) A outer s H E).env)))
theorem fnML (F : FunD K x qual params body scope dvs kws f fd) {c : Addr} (hcd : fd.code = .ref c) (sc : FnScope N ps scope) {fc : FC} {w : List LamD → WS} {es : List Expr} {n : Nat} (hn : es.length = n) (hlen : ∀ as S ex Q, fc as S ex Q → as.length = ps.length) (hb : BodyL P w0 K mg base ci N qual scope f k c body es w)
    (hv : ∀ Ls : List LamD, Ls.length = n → ∀ as S ex Q, fc as S ex Q → w Ls (stG N as) S { nx := fun _ S' => Q (.d .non) S', rt := Q, ex := ex }) : FnOk P w0 K mg base (L2.CX P w0) (k + 1) f fd ps (spOf K ci fc) := by
  obtain ⟨oc, od, dV, kV, doc, pm, an, cdv, ct, osl, rfl, lk, hci, _, _⟩ := F.ex
  have ec : cdv = .ref c := hcd
  subst ec
  refine L2.fn_of lk hci sc (fun vs H Q E ⟨as, S, ρ, ex, Q', ex', h1, _, h3, _⟩ => by rw [← h1, hlen _ _ _ _ h3]) fun A outer s H vs Q E hr ⟨as, S, ρ, ex, Q', ex', h1, h2, h3, h4, h5⟩ => ?_
  have tk : Takes (cxD P w0 K mg base N qual scope f (.ref c) A outer s H E) (fun cls d _ H => E cls d H) := takes_of rfl rfl rfl rfl
  have res := hb A outer s H E hr _ { nx := fun _ S' => Q' (.d .non) S', rt := Q', ex := ex' } (tk.imp fun c dd σ H' z => h5 _ _ _ z) [] _ S _ H ⟨ρ, rel_start (N := N) h2 h1⟩ (hv _ (by rw [List.length_map]; exact hn) as S ex' Q' h3)
  refine ⟨_, pss_wp, fun pins s' I => thn (res pins s' I) fun fl s2 z => ?_⟩
  cases fl with
  | next => obtain ⟨σ', H', I', Γ', S', r', e⟩ := z; exact ⟨σ', H', I', h4 _ _ ⟨_, S', r'.non.bare, e⟩⟩
  | ret u => obtain ⟨v, σ', H', I', rv, a, S', r', e⟩ := z; exact ⟨v, σ', H', I', rv, h4 _ _ ⟨a, S', r', e⟩⟩
  | brk => obtain ⟨_, _, _, _, _, _, z⟩ := z; exact z.elim
  | cont => obtain ⟨_, _, _, _, _, _, z⟩ := z; exact z.elim
end
theorem fre_of {N ps : List Str} {sc scope : Scope} {n : Addr} (S : FnScope N ps sc) (L : LamL sc N scope) : ∀ y ∈ scope.names, y.2 = .free → ∃ c, (cellsFrom n sc.names []).lookup y.1 = some c := fun y hy e => by
  rcases L.free y hy e with z | z
  · exact cell_has z
  · exact absurd rfl (S.nofree _ (PySem.mem_of_lookup z))
end LP
set_option maxHeartbeats 2000000
namespace LP
open PySem PySem.Spec PyProof.Rows L2
end LP
set_option maxHeartbeats 2000000
namespace LP
open PySem PySem.Spec PyProof.Rows L2 He
end LP
set_option maxHeartbeats 2000000
namespace LP
open PySem PySem.Spec PyProof.Rows L2
end LP
set_option maxHeartbeats 2000000
namespace LP
open PySem PySem.Spec PyProof.Rows L2
end LP
set_option maxHeartbeats 2000000
namespace LP
open PySem PySem.Spec PyProof.Rows L2
end LP
set_option maxHeartbeats 2000000
namespace LP
open PySem PySem.Spec PyProof.Rows L2
end LP
set_option maxHeartbeats 4000000
namespace LP
open PySem PySem.Spec PyProof.Rows L2
end LP
set_option maxHeartbeats 2000000
namespace LP
open PySem PySem.Spec PyProof.Rows L2
end LP
set_option maxHeartbeats 2000000
namespace LP
open PySem PySem.Spec PyProof.Rows L2
end LP
set_option maxHeartbeats 2000000
namespace LP
open PySem PySem.Spec PyProof.Rows L2
structure MethSt (P : Program) (w : World) (K : PySem.W.Frag) (mg : Str → Option Value) (base : Heap) (ci : Ci) (k : Nat) (c : Nat) (m : Str) (sp : Sp) : Prop where
  ex : ∃ (f : Addr), FnR P w K mg base (L2.CX P w) k f sp ∧ Cls K (ci c).1 ∧ Meth K (ci c).1 m f ∧ m ∉ (ci c).2
theorem fnR_up {P : Program} {w : World} {K : PySem.W.Frag} {mg : Str → Option Value} {b b' : Heap} (u : Up K mg b b') {k c : Nat} {m : Str} {ci : Ci} {sp : Sp} (C : MethSt P w K mg b ci k c m sp) : MethSt P w K mg b' ci k c m sp := let ⟨f, h, r⟩ := C.ex; ⟨f, upR u h, r⟩
theorem MethSt.up {P : Program} {w : World} {K : PySem.W.Frag} {mg : Str → Option Value} {b b' : Heap} {k c : Nat} {m : Str} {ci : Ci} {sp : Sp} (C : MethSt P w K mg b ci k c m sp) (u : Up K mg b b') : MethSt P w K mg b' ci k c m sp := fnR_up u C
end LP
set_option maxHeartbeats 2000000
namespace LP
open PySem PySem.Spec PyProof.Rows L2
end LP
set_option maxHeartbeats 2000000
namespace LP
open PySem PySem.Spec PyProof.Rows L2
inductive LQ where
  | v (i : Nat) | c (x : D) | t (l : List LQ) | l (l : List LQ) | plus (x y : LQ) | sub (x y : LQ) | pow (x y : LQ) | ix (x y : LQ)
mutual
def evQ : LQ → QF
  | .v i => fV i
  | .c x => fC x
  | .t l => fTup (evQs l)
  | .l l => fLst (evQs l)
  | .plus x y => fOp gPlus (evQ x) (evQ y)
  | .sub x y => fOp gSub (evQ x) (evQ y)
  | .pow x y => fOp gPow (evQ x) (evQ y)
  | .ix x y => fOp gIx (evQ x) (evQ y)
def evQs : List LQ → QFs
  | [] => fNil
  | q :: l => fCons (evQ q) (evQs l)
end
def nameAt (N : List Str) (sc : Scope) (x : Str) : Option Nat := match N.findIdx? (fun y => decide (y = x)) with
  | some i => if (N[i]? = some x) ∧ (visB sc x && ((x == ("__debug__" : Str)) == false && (x == ("__classdict__" : Str)) == false)) = true then some i else none
  | none => none
mutual
def toQ (N : List Str) (sc : Scope) : Expr → Option LQ
  | .Name x _ => (nameAt N sc x).map .v
  | .Constant .none _ _ => some (.c .non)
  | .Constant (.bool y) _ _ => some (.c (.bl y))
  | .Constant (.int y) _ _ => some (.c (.int y))
  | .Constant (.str y) _ _ => some (.c (.str y))
  | .Tuple es _ _ => if Nat.ble es.length 1000 = true then (toQs N sc es).map .t else none
  | .List es _ => if Nat.ble es.length 1000 = true then (toQs N sc es).map .l else none
  | .BinOp a .Add b _ => (toQ N sc a).bind fun x => (toQ N sc b).map fun y => .plus x y
  | .BinOp a .Sub b _ => (toQ N sc a).bind fun x => (toQ N sc b).map fun y => .sub x y
  | .BinOp a .Pow b _ => (toQ N sc a).bind fun x => (toQ N sc b).map fun y => .pow x y
  | .Subscript a b _ => (toQ N sc a).bind fun x => (toQ N sc b).map fun y => .ix x y
  | _ => none
def toQs (N : List Str) (sc : Scope) : List Expr → Option (List LQ)
  | [] => some []
  | e :: es => (toQ N sc e).bind fun q => (toQs N sc es).map fun l => q :: l
end
section
variable {ci : Ci} {X : Cx}
theorem two_q {a b : Option LQ} {f : LQ → LQ → LQ} {q : LQ} (h : (a.bind fun x => b.map fun y => f x y) = some q) : ∃ x y, a = some x ∧ b = some y ∧ q = f x y := by
  cases a with
  | none => cases h
  | some x =>
    cases b with
    | none => cases h
    | some y => cases h; exact ⟨x, y, rfl, rfl, rfl⟩
def GoodQ (ci : Ci) (X : Cx) (e : Expr) (q : LQ) : Prop := RP ci X e (evQ q) ∧ (∀ es, starEach (e :: es) X.env = (false, eval e X.env) :: starEach es X.env) ∧ (∀ t n, swapsWith e t n X.env = pure false) ∧ PlainIx e
mutual
theorem rp_lq0 : ∀ (e : Expr) {q : LQ}, toQ X.N X.env.scope e = some q → GoodQ ci X e q
  | .Name x _, q, h => by
    unfold toQ at h
    cases e1 : nameAt X.N X.env.scope x with
    | none => rw [e1] at h; cases h
    | some i =>
      rw [e1] at h; cases h
      unfold nameAt at e1
      split at e1
      · split at e1
        · rename_i hh
          cases e1
          obtain ⟨h1, h2⟩ := hh
          simp only [Bool.and_eq_true, beq_iff_eq] at h2
          exact ⟨by unfold evQ; exact rp_v _ h1 (vis_of h2.1) h2.2.1 h2.2.2, fun _ => rfl, fun _ _ => rfl, fun _ _ => rfl⟩
        · cases e1
      · cases e1
  | .Constant c _ _, q, h => by
    cases c <;> cases h
    all_goals first
      | exact ⟨by unfold evQ; exact rp_non, fun _ => rfl, fun _ _ => rfl, fun _ _ => rfl⟩
      | exact ⟨by unfold evQ; exact rp_bl, fun _ => rfl, fun _ _ => rfl, fun _ _ => rfl⟩
      | exact ⟨by unfold evQ; exact rp_int, fun _ => rfl, fun _ _ => rfl, fun _ _ => rfl⟩
      | exact ⟨by unfold evQ; exact rp_str, fun _ => rfl, fun _ _ => rfl, fun _ _ => rfl⟩
  | .Tuple es _ _, q, h => by
    unfold toQ at h
    split at h
    · rename_i hl
      cases e1 : toQs X.N X.env.scope es with
      | none => rw [e1] at h; cases h
      | some l =>
        rw [e1] at h; cases h
        exact ⟨by unfold evQ; exact rp_tup (rps_lq0 es e1) hl, fun _ => rfl, fun _ _ => rfl, fun _ _ => rfl⟩
    · cases h
  | .List es _, q, h => by
    unfold toQ at h
    split at h
    · rename_i hl
      cases e1 : toQs X.N X.env.scope es with
      | none => rw [e1] at h; cases h
      | some l =>
        rw [e1] at h; cases h
        exact ⟨by unfold evQ; exact rp_lst (rps_lq0 es e1) hl, fun _ => rfl, fun _ _ => rfl, fun _ _ => rfl⟩
    · cases h
  | .BinOp a o b _, q, h => by
    cases o <;> first | cases h | skip
    · unfold toQ at h
      obtain ⟨x, y, h1, h2, rfl⟩ := two_q h
      exact ⟨by unfold evQ; exact rp_op o_plus (rp_lq0 a h1).1 (rp_lq0 b h2).1, fun _ => rfl, fun _ _ => rfl, fun _ _ => rfl⟩
    · unfold toQ at h
      obtain ⟨x, y, h1, h2, rfl⟩ := two_q h
      exact ⟨by unfold evQ; exact rp_op o_sub (rp_lq0 a h1).1 (rp_lq0 b h2).1, fun _ => rfl, fun _ _ => rfl, fun _ _ => rfl⟩
    · unfold toQ at h
      obtain ⟨x, y, h1, h2, rfl⟩ := two_q h
      exact ⟨by unfold evQ; exact rp_op o_pow (rp_lq0 a h1).1 (rp_lq0 b h2).1, fun _ => rfl, fun _ _ => rfl, fun _ _ => rfl⟩
  | .BoolOp .., q, h => by cases h
  | .NamedExpr .., q, h => by cases h
  | .UnaryOp .., q, h => by cases h
  | .Lambda .., q, h => by cases h
  | .IfExp .., q, h => by cases h
  | .Dict .., q, h => by cases h
  | .Set .., q, h => by cases h
  | .ListComp .., q, h => by cases h
  | .SetComp .., q, h => by cases h
  | .DictComp .., q, h => by cases h
  | .GeneratorExp .., q, h => by cases h
  | .Await .., q, h => by cases h
  | .Yield .., q, h => by cases h
  | .YieldFrom .., q, h => by cases h
  | .Compare .., q, h => by cases h
  | .Call .., q, h => by cases h
  | .FormattedValue .., q, h => by cases h
  | .JoinedStr .., q, h => by cases h
  | .Attribute .., q, h => by cases h
  | .Subscript a b _, q, h => by
    unfold toQ at h
    obtain ⟨x, y, h1, h2, rfl⟩ := two_q h
    exact ⟨by unfold evQ; exact rp_ix (rp_lq0 a h1).1 (rp_lq0 b h2).1 (rp_lq0 b h2).2.2.2, fun _ => rfl, fun _ _ => rfl, fun _ _ => rfl⟩
  | .Starred .., q, h => by cases h
  | .Slice .., q, h => by cases h
theorem rps_lq0 : ∀ (es : List Expr) {l : List LQ}, toQs X.N X.env.scope es = some l → RPs ci X es (evQs l)
  | [], l, h => by cases h; unfold evQs; exact rps_nil
  | e :: es, l, h => by
    unfold toQs at h
    cases e1 : toQ X.N X.env.scope e with
    | none => rw [e1] at h; cases h
    | some q =>
      rw [e1, Option.bind_some] at h
      cases e2 : toQs X.N X.env.scope es with
      | none => rw [e2] at h; cases h
      | some r =>
        rw [e2] at h; cases h
        unfold evQs
        exact rps_cons (rp_lq0 e e1).1 (rps_lq0 es e2) ((rp_lq0 e e1).2.1 es)
end
/-- in the wish's own words -/
theorem rp_lqW {q : LQ} {e : Expr} {f : QF} (h : toQ X.N X.env.scope e = some q) (hf : evQ q = f) : RP ci X e f := hf ▸ (rp_lq0 e h).1
def asgQ (N : List Str) (fn : Str → Bool) (sc : Scope) : Stmt → Option (Nat × LQ)
  | .Assign [.Name x _] e _ => (nameAt N sc x).bind fun i => if (locB sc x && fnB (fn x) sc x) = true then (toQ N sc e).map fun q => (i, q) else none
  | _ => none
/-- a whole assignment, a whole return -/
theorem rs_asgQ {i : Nat} {q : LQ} {st : Stmt} (hN : X.N.Nodup) (h : asgQ X.N X.fn X.env.scope st = some (i, q)) : RS ci X st (wAsg i (wP (evQ q))) := by
  unfold asgQ at h
  split at h
  · rename_i x p e pos
    cases e1 : nameAt X.N X.env.scope x with
    | none => rw [e1] at h; cases h
    | some j =>
      rw [e1, Option.bind_some] at h
      split at h
      · rename_i hh
        cases e2 : toQ X.N X.env.scope e with
        | none => rw [e2] at h; cases h
        | some q' =>
          rw [e2] at h; cases h
          obtain ⟨h3, h4⟩ := Bool.and_eq_true_iff.mp hh
          have hi : X.N[i]? = some x := by
            unfold nameAt at e1
            split at e1
            · split at e1
              · rename_i hz
                cases e1
                exact hz.1
              · cases e1
            · cases e1
          exact rs_asg i hN (re_p (rp_lq0 e e2).1) hi (loc_of h3) ((rp_lq0 (ci := ci) e e2).2.2.1 _ _) (fn_of h4)
      · cases h
  · cases h
end
end LP
set_option maxHeartbeats 2000000
namespace LP
open PySem PySem.Spec PyProof.Rows L2
end LP
set_option maxHeartbeats 2000000
namespace LP
open PySem PySem.Spec PyProof.Rows L2
end LP
set_option maxHeartbeats 2000000
namespace LP
open PySem PySem.Spec PyProof.Rows L2
end LP
set_option maxHeartbeats 2000000
namespace LP
open PySem PySem.Spec PyProof.Rows L2
end LP
set_option maxHeartbeats 0
namespace LP
open PySem PySem.Spec PyProof.Rows L2
end LP
set_option maxHeartbeats 2000000
namespace LP
open PySem PySem.Spec PyProof.Rows L2
section
variable {ci : Ci} {X : Cx}
theorem rs_asgQW {i : Nat} {q : LQ} {st : Stmt} {f : QF} (hN : X.N.Nodup) (h : asgQ X.N X.fn X.env.scope st = some (i, q)) (hf : evQ q = f) : RS ci X st (wAsg i (wP f)) := hf ▸ rs_asgQ hN h
end
end LP
set_option maxHeartbeats 2000000
namespace LP
open PySem PySem.Spec PyProof.Rows L2
end LP
set_option maxHeartbeats 2000000
namespace LP
open PySem PySem.Spec PyProof.Rows L2
end LP
set_option maxHeartbeats 2000000
namespace LP.DS
open PySem PySem.W PySem.Calls PyProof.Rows PyProof.V PySem.Spec
end LP.DS
namespace LP
open PySem PySem.Spec PyProof.Rows L2
end LP
set_option maxHeartbeats 2000000
namespace LP
open PySem PySem.Spec PyProof.Rows L2
end LP
set_option maxHeartbeats 2000000
namespace LP
open PySem PySem.Spec PyProof.Rows L2
end LP
set_option maxHeartbeats 2000000
namespace LP
open PySem PySem.Spec PyProof.Rows L2
end LP
set_option maxHeartbeats 4000000
namespace LP
open PySem PySem.Spec PyProof.Rows L2
def keyT (e : Int × Value) : Str := match e.2 with | .str k _ => k | _ => ""
def GoodT (w : World) (e : Int × Value) : Prop := ∃ k tk, e.2 = Value.str k tk ∧ e.1 = hashStr w k
def TSet (w : World) (h : Heap) (a : Addr) (S : Str → Bool) (n : Nat) : Prop :=
  ∃ o es ep t, h.get? a = some o ∧ o.ExactSet ∧ o.data = .set es ep t ∧ (∀ e ∈ es.toList, GoodT w e) ∧ (es.toList.map keyT).Nodup ∧ (∀ k, S k = true ↔ k ∈ es.toList.map keyT) ∧
    es.size < scanBound ∧ t.fits es.size = true ∧ es.size = n ∧ Ris t.place.toList ∧ (w.params.followText "set-order" = true ∨ t.led = true)
section
variable {P : Program} {w : World} {h h' : Heap} {a : Addr} {S : Str → Bool} {n : Nat}
theorem TSet.at (R : TSet w h a S n) (k : ∀ o, h.get? a = some o → h'.get? a = some o) : TSet w h' a S n := by
  obtain ⟨o, es, ep, t, ho, r⟩ := R
  exact ⟨o, es, ep, t, k o ho, r⟩
end
end LP
set_option maxHeartbeats 1000000
namespace LP
open PySem PySem.Spec PyProof.Rows L2
section
variable {ci : Ci} {X : Cx}
theorem rs_parC2 {i j : Nat} {x y : Str} {a b : Expr} {ws : WAs} {px py pt pos : Pos} {kt k2 pt2} (hc : X.calm = true) (hN : X.N.Nodup) (ha : RA ci X [a, b] ws) (hi : X.N[i]? = some x := by rfl) (hj : X.N[j]? = some y := by rfl)
    (hx : Loc X.env.scope x := by exact loc_of (by kernel_rfl)) (hy : Loc X.env.scope y := by exact loc_of (by kernel_rfl))
    (hfx : X.fn x = true ∨ X.env.scope.names.lookup x = some .local := by exact fn_of (by kernel_rfl)) (hfy : X.fn y = true ∨ X.env.scope.names.lookup y = some .local := by exact fn_of (by kernel_rfl))
    (hs : swapsWithSole [.Tuple [.Name x px, .Name y py] kt pt] (.Tuple [a, b] k2 pt2) pos.line X.env = pure false := by kernel_rfl)
    (hw : swappedStores [.Tuple [.Name x px, .Name y py] kt pt] (.Tuple [a, b] k2 pt2) X.env = pure none := by kernel_rfl)
    (h1 : (assignEach [.Tuple [.Name x px, .Name y py] kt pt] X.env).map (·.2) = [assign (.Tuple [.Name x px, .Name y py] kt pt) X.env] := by kernel_rfl)
    (e1 : (assignEach [.Name x px, .Name y py] X.env).map (·.2) = assign (.Name x px) X.env :: (assignEach [.Name y py] X.env).map (·.2) := by rfl)
    (e2 : (assignEach [.Name y py] X.env).map (·.2) = assign (.Name y py) X.env :: (assignEach [] X.env).map (·.2) := by rfl)
    (hn : (assignEach [.Name x px, .Name y py] X.env).length = 2 := by kernel_rfl) (hst : (assignEach [.Name x px, .Name y py] X.env).findIdx? (·.1) = none := by kernel_rfl) :
    RS ci X (.Assign [.Tuple [.Name x px, .Name y py] kt pt] (.Tuple [a, b] k2 pt2) pos) (wPar [i, j] ws) := fun F D xo T Γ S σ H r q => by
  refine wpS_of (ps_asg (g := gWp X (.Tuple [.Name x px, .Name y py] kt pt)) pe_wp pg_wp hs hw h1) ?_
  refine wpX_of (pe_tup pa_wp) (wpA_mono (ha F D.ex xo T Γ S σ H _ r q) fun vs H1 ⟨as, S1, hz, hnn, r1, q1⟩ => ?_)
  match as, vs, hz, hnn with
  | [a, b], [v, u], _, _ =>
    refine ⟨by show 2 ≤ sizeLine; decide, fun p hp => ?_⟩
    refine gWp_of (pg_tup (n := 2) hc (pgs_cons (pg_name hN hi hx hfx) (pgs_cons (pg_name hN hj hy hfy) pgs_nil e2) e1) hn hst) ⟨p, [v, u], rfl, .inl (.inl upd_same), rfl, v, [u], rfl, ?_⟩
    obtain ⟨ρ, r1⟩ := r1
    have r2 := r1.alloc (o := .tup [v, u]) hp
    refine ⟨u, [], rfl, rfl, ?_⟩
    exact ⟨_, S1, (((Rel.put (a := a) (v := v) ⟨ρ, r2⟩ i (by simp)).put j (a := b) (v := u) (by simp))).drop fun q hq => by simp [hq], q1⟩
end
end LP
set_option maxHeartbeats 1000000
namespace LP
open PySem PySem.Spec PyProof.Rows L2
end LP
set_option maxHeartbeats 1000000
namespace LP
open PySem PySem.Spec PyProof.Rows L2
/-- what is walked -/
inductive Sc where
  | lst (a : Addr) | tup (a : Addr) | txt (x : Str)
def Sc.v : Sc → V
  | .lst a => .ref a | .tup a => .ref a | .txt x => .str x
def Sc.at (K : PySem.W.Frag) : Sc → Hp → List V → Prop
  | .lst a, H, xs => SqL K H a xs
  | .tup a, H, xs => SqT K H a xs
  | .txt x, _, xs => xs = x.cps.toList.map fun c => V.str ⟨#[c]⟩
def Sc.base : Sc → List Addr
  | .lst a => [a] | .tup a => [a] | .txt _ => []
def Sc.fp (it : Addr) (S : Sc) : List Addr := it :: S.base
def Sc.tn (it : Addr) : Sc → Nat → Heap → Prop
  | .lst a, i, h => h.IsListIter it a i
  | .tup a, i, h => h.IsTupleIter it a i
  | .txt x, i, h => ∃ t, h.IsStrIter it (strIterType x) x t i
theorem Sc.mem (it : Addr) (S : Sc) : it ∈ S.fp it := List.mem_cons_self
theorem Sc.keep {it : Addr} {i : Nat} {h h' : Heap} (k : ∀ o, h.get? it = some o → h'.get? it = some o) : ∀ {S : Sc}, S.tn it i h → S.tn it i h'
  | .lst _, st => Heap.IsListIter.at st k
  | .tup _, st => Heap.IsTupleIter.at st k
  | .txt _, ⟨t, o, e, r⟩ => ⟨t, o, k o e, r⟩
section
variable {X : Cx} {pins : List (Addr × Obj)} {σ : L2.St} {H : Hp} {s : Shared}
theorem Sc.inj (I : Inv X pins σ H s) : ∀ {S : Sc} {xs ys : List V}, S.at X.K H xs → S.at X.K H ys → xs = ys
  | .lst _, _, _, h1, h2 => I.list_inj h1 h2
  | .tup _, _, _, h1, h2 => I.tuple_inj h1 h2
  | .txt _, _, _, h1, h2 => h1.trans h2.symm
end
def Sc.of : A → V → Sc
  | .d (.tup _), .ref p => .tup p
  | .d (.str _), .str x => .txt x
  | _, .ref p => .lst p
  | _, _ => .txt ""
end LP
set_option maxHeartbeats 1000000
namespace LP
open PySem PySem.Spec PyProof.Rows L2
end LP
set_option maxHeartbeats 2000000
namespace LP
open PySem PySem.Spec PyProof.Rows L2
end LP
set_option maxHeartbeats 4000000
namespace PySem
end PySem
namespace LP
open PySem PySem.Spec PyProof.Rows L2
abbrev leTail : List Value := [.type "LookupError", .type "Exception", .type "BaseException", .type "object"]
/-- own classes, then those of LookupError -/
def refsLE : List Value → Bool
  | [] => false
  | v :: r => match v with
    | .ref _ => refsLE r
    | _ => decide (v :: r = leTail)
theorem le_split : ∀ l : List Value, refsLE l = true → ∃ cs : List Addr, l = cs.map Value.ref ++ leTail
  | [], h => by cases h
  | v :: r, h => by
    cases v with
    | ref c =>
      obtain ⟨cs, e⟩ := le_split r h
      exact ⟨c :: cs, by rw [e]; rfl⟩
    | _ => exact ⟨[], of_decide_eq_true h⟩
theorem le_pass (self : Value) (l : List Value) (h : refsLE l = true) : PySem.refuseLoop self "__setattr__" l = pure () := by
  obtain ⟨cs, rfl⟩ := le_split l h
  clear h
  induction cs with
  | nil => exact F.store_LookupError.passes self
  | cons c cs ih =>
    show PySem.refuseLoop self "__setattr__" (.ref c :: (cs.map Value.ref ++ leTail)) = _
    rw [refuseLoop_ref]; exact ih
theorem le_has (Y : String) (l : List Value) (h : refsLE l = true) : l.contains (.type Y) = leTail.contains (.type Y) := by
  obtain ⟨cs, rfl⟩ := le_split l h
  clear h
  induction cs with
  | nil => rfl
  | cons c cs ih =>
    show (Value.ref c :: (cs.map Value.ref ++ leTail)).contains (.type Y) = _
    rw [List.contains_cons, ih]; rfl
/-- what the written part says of such a class -/
structure OexL (K : PySem.W.Frag) (C : Addr) : Prop where
  cls : ∃ nm q N bs bm sn sub ab col dd k0 k1 k2 k3 k5, K.lookup C = some (excClassObj nm q C N bs bm true sn sub ab col dd k0 k1 k2 k3 k5 "LookupError.__new__") ∧ refsLE bm = true
  sa : PySem.W.findIn K (.ref C) "__setattr__" = some (some (.builtin "object.__setattr__"))
  exC : PySem.W.subIn K (.ref C) (.type "BaseException") = some true
  tyC : PySem.W.typeIn K (.ref C) = some (.type "type")
  kC : PySem.W.keepIn K (.ref C) = true
theorem OexL.data {K : PySem.W.Frag} {C : Addr} (T : OexL K C) : ∃ cd, PySem.W.clsIn K C = some cd ∧ cd.mro.isEmpty = false ∧ cd.mro.contains (.type "object") = true ∧ (∀ self, PySem.refuseLoop self "__setattr__" cd.mro = pure ()) ∧ cd.hasDict = true := by
  obtain ⟨nm, q, N, bs, bm, sn, sub, ab, col, dd, k0, k1, k2, k3, k5, hC, hbm⟩ := T.cls
  have h2 : refsLE (.ref C :: bm) = true := hbm
  refine ⟨{ name := nm, bases := bs, mro := .ref C :: bm, ns := N, qualname := q, hasDict := true, slotNames := sn, subclasses := sub, abstract := ab, collection := col, hasDel := false }, ?_, rfl, (le_has "object" _ h2).trans (by decide +kernel), fun self => le_pass self _ h2, rfl⟩
  unfold PySem.W.clsIn
  rw [hC] <;> rfl
end LP
namespace LP
open PySem PySem.Spec PyProof.Rows L2 He
end LP
set_option maxHeartbeats 2000000
namespace LP
open PySem PySem.Spec PyProof.Rows L2
end LP
set_option maxHeartbeats 2000000
namespace LP
open PySem PySem.Spec PyProof.Rows L2
end LP
namespace LP
open PySem PySem.Spec PyProof.Rows L2
end LP
namespace LP
open PySem PySem.Spec PyProof.Rows L2
end LP
set_option maxHeartbeats 2000000
namespace LP
open PySem PySem.Spec PyProof.Rows L2
end LP
namespace LP
open PySem PySem.Spec PyProof.Rows L2
end LP
set_option maxHeartbeats 2000000
namespace LP
open PySem PySem.Spec PyProof.Rows L2
end LP
set_option maxHeartbeats 2000000
namespace LP
open PySem PySem.Spec PyProof.Rows L2
end LP
set_option maxHeartbeats 1000000
namespace LP
open PySem PySem.Spec PyProof.Rows L2
end LP
set_option maxHeartbeats 1000000
namespace LP
open PySem PySem.Spec PyProof.Rows L2
end LP
set_option maxHeartbeats 1000000
namespace LP
open PySem PySem.Spec PyProof.Rows L2
end LP
set_option maxHeartbeats 1000000
namespace LP
open PySem PySem.Spec PyProof.Rows L2
end LP
set_option maxHeartbeats 1000000
namespace LP
open PySem PySem.Spec PyProof.Rows L2
section
variable {K : PySem.W.Frag} {ci : Ci} {M M' : List Addr} {H H' : Hp} {ρ ρ' : List Addr}
/-- from one heap to another, d alone told anew -/
structure Lk (d : Addr) (M M' : List Addr) (H H' : Hp) : Prop where
  out : ∀ a o, H a = some o → a ∉ M → a ∉ M' ∧ (a ≠ d → H' a = some o)
  at_ : ∃ kvs, (H d = some (.dK kvs) ∨ ∃ o, H d = some (.frz o (.dK kvs))) ∧ Rd H' d (.dK kvs)
theorem Lk.rd {d p : Addr} {u : HO} (L : Lk d M M' H H') (hu : ∀ o w, u ≠ .frz o w) (hp : p ∉ M) (r : Rd H p u) : Rd H' p u ∧ p ∉ M' := by
  by_cases e : p = d
  · subst e
    obtain ⟨kvs, h1, h2⟩ := L.at_
    rcases h1 with h1 | ⟨o, h1⟩
    · have := (L.out _ _ h1 hp).1
      rcases r with r | ⟨o, r⟩
      · rw [h1] at r; cases r; exact ⟨h2, this⟩
      · rw [h1] at r; cases r
    · have := (L.out _ _ h1 hp).1
      rcases r with r | ⟨o', r⟩
      · rw [h1] at r; cases r; exact absurd rfl (hu _ _)
      · rw [h1] at r; cases r; exact ⟨h2, this⟩
  · rcases r with r | ⟨o, r⟩
    · exact ⟨.inl ((L.out _ _ r hp).2 e), (L.out _ _ r hp).1⟩
    · exact ⟨.inr ⟨o, (L.out _ _ r hp).2 e⟩, (L.out _ _ r hp).1⟩
end
end LP
set_option maxHeartbeats 1000000
namespace LP
open PySem PySem.Spec PyProof.Rows L2
end LP
set_option maxHeartbeats 1000000
namespace L2
open PySem PySem.Spec PyProof.Rows
end L2
namespace LP
open PySem PySem.Spec PyProof.Rows L2
end LP
set_option maxHeartbeats 1000000
namespace LP
open PySem PySem.Spec PyProof.Rows L2
section
variable {ci : Ci} {X : Cx}
theorem MutL.or {id : String} {g g' : So → List A → List A → Option (List A × A)} (h : MutL ci X id g) (h' : MutL ci X id g') : MutL ci X id (fun S l as => (g S l as).or (g' S l as)) := by
  obtain ⟨r, h1, h2⟩ := h
  obtain ⟨r', h1', h2'⟩ := h'
  refine ⟨fun x vs H Q => r x vs H Q ∨ r' x vs H Q, fun pins s σ H x vs v us Q I rx rv h => ?_, fun F ρ T Γ S σ H k l as vs l' res p rr hp hs hl hT e Q kk => ?_⟩
  · rcases h with h | h
    · exact h1 pins s σ H x vs v us Q I rx rv h
    · exact h1' pins s σ H x vs v us Q I rx rv h
  · have e : (g S l as).or (g' S l as) = some (l', res) := e
    cases e1 : g S l as with
    | some z => rw [e1] at e; cases e; exact .inl (h2 F ρ T Γ S σ H k l as vs _ _ p rr hp hs hl hT e1 Q kk)
    | none => rw [e1] at e; exact .inr (h2' F ρ T Γ S σ H k l as vs _ _ p rr hp hs hl hT e Q kk)
end
end LP
set_option maxHeartbeats 1000000
namespace LP
open PySem PySem.Spec PyProof.Rows L2
end LP
set_option maxHeartbeats 1000000
namespace LP
open PySem PySem.Spec PyProof.Rows L2
end LP
set_option maxHeartbeats 1000000
namespace LP
open PySem PySem.Spec PyProof.Rows L2
end LP
set_option maxHeartbeats 1000000
namespace LP
open PySem PySem.Spec PyProof.Rows L2
end LP
set_option maxHeartbeats 1000000
namespace LP
open PySem PySem.Spec PyProof.Rows L2
end LP
set_option maxHeartbeats 1000000
namespace LP
open PySem PySem.Spec PyProof.Rows L2 GenW
section
variable {M : Model} {A : Around} {R : GenEnd} {Y : Protocol} {n : Nat} {s₀ : Shared} {c : Code} {fs : List Frame} {s : Shared} {env : Env}
  {K : Flow → Sem PySem.Fin} {J : Value → Sem PySem.Fin} {gd : Bool → Bool} {lv : List Value → List Value}
theorem seg_For {target iter : Expr} {body : List Stmt} {pos : Pos}
    (h : wpAny M (A.over c fs) (eval iter env) (fun x s1 => wpAny M (A.over c fs) (pyIter x) (fun it s2 => ∀ p, Seg M A R Y n s₀ (.forLoop target it body [] env) (M.den (.forLoop target it body [] env))
      (.ret (fun r => ((match r with | .ok f => (.pure f : Sem Flow) | .error e => .raise e).onRaise (cameBack env)).wrap K J gd lv) none (gd false) (lv []) c p [] :: fs) s2) (fun x s' => Seg M A R Y n s₀ c (J x) fs s') s1) (fun x s' => Seg M A R Y n s₀ c (J x) fs s') s)
    (hs : ∀ x, foldedSetIterable iter env x = pure x) :
    Seg M A R Y n s₀ c ((exec (.For target iter body [] pos) env).wrap K J gd lv) fs s := by
  rw [exec_For]
  refine seg_bind_wrap (wpAny_standAt ?_)
  refine seg_bind_wrap (wpAny_mono h (fun x s1 h1 => ?_) fun _ _ z => z)
  refine seg_bind_wrap (wpAny_of_eq (hs x) ?_)
  refine seg_bind_wrap (wpAny_standAt ?_)
  refine seg_bind_wrap (wpAny_holding (wpAny_mono h1 (fun it s2 h2 => ?_) fun _ _ z => z))
  exact seg_call h2
end
section
variable {prog : Program} {w : World} {A : Around} {R : GenEnd} {Y : Protocol} {n : Nat} {s₀ : Shared} {fs : List Frame} {s : Shared} {env : Env}
/-- a turn of the loop -/
theorem seg_forLoop {x : Str} {px : Pos} {it : Value} {body : List Stmt}
    (h : wpAny (model prog w) (A.over (.forLoop (.Name x px) it body [] env) fs) (pyNext it) (fun r s1 => match r with
        | none => Seg (model prog w) A R Y n s₀ (.forLoop (.Name x px) it body [] env) (.pure (.again (.block [] env))) fs s1
        | some v => wpAny (model prog w) (A.over (.forLoop (.Name x px) it body [] env) fs) (assign (.Name x px) env v) (fun _ s2 =>
            Seg (model prog w) A R Y n s₀ (.forLoop (.Name x px) it body [] env) ((execs body env).wrap (fun f => match f with
              | .next | .cont => .pure (.again (.forLoop (.Name x px) it body [] env))
              | .brk => .pure (.done .next)
              | .ret v => .pure (.done (.ret v))) (fun e => (do noteFrame e env; theTreesLotGoes e : Sem Unit).wrap (fun _ => .raise e) .raise id id) id id) fs s2)
            (fun x' s' => Seg (model prog w) A R Y n s₀ (.forLoop (.Name x px) it body [] env) ((do noteFrame x' env; theTreesLotGoes x' : Sem Unit).wrap (fun _ => .raise x') .raise id id) fs s') s1)
      (fun x' s' => Seg (model prog w) A R Y n s₀ (.forLoop (.Name x px) it body [] env) ((do noteFrame x' env; theTreesLotGoes x' : Sem Unit).wrap (fun _ => .raise x') .raise id id) fs s') s) :
    Seg (model prog w) A R Y n s₀ (.forLoop (.Name x px) it body [] env) ((model prog w).den (.forLoop (.Name x px) it body [] env)) fs s := by
  show Seg _ A R Y n s₀ _ ((forTurn (.Name x px) it body [] env).onRaise (fun x => do noteFrame x env; theTreesLotGoes x)) fs s
  unfold forTurn
  have cc : ∀ e : Value, ((do noteFrame e env; theTreesLotGoes e : Sem Unit).bind fun _ => (.raise e : Sem PySem.Fin)) = (do noteFrame e env; theTreesLotGoes e : Sem Unit).wrap (fun _ => .raise e) .raise id id := fun e => Sem.bind_eq_wrap _ _
  rw [Sem.onRaise_eq_wrap]
  refine seg_bind_wrap (wpAny_standAt ?_)
  refine seg_bind_wrap (wpAny_onRaise (wpAny_mono h (fun r s1 h1 => ?_) fun x' s' hx => wpAny_standAt ?_))
  · cases r with
    | none => exact h1
    | some v =>
      refine seg_bind_wrap (wpAny_of_eq (a := ()) (by rfl) ?_)
      refine seg_bind_wrap (wpAny_mono h1 (fun _ s2 h2 => ?_) fun x' s' hx => ?_)
      · show Seg _ A R Y n s₀ _ (Sem.wrap _ _ _ _ (execs body env >>= _)) fs s2
        rw [Sem.bind_eq_wrap', Sem.wrap_wrap]
        rw [Sem.wrap_congr (execs body env) _ _ (K' := fun f => match f with
              | .next | .cont => .pure (.again (.forLoop (.Name x px) it body [] env))
              | .brk => .pure (.done .next)
              | .ret v => .pure (.done (.ret v))) (H' := (fun e => (do noteFrame e env; theTreesLotGoes e : Sem Unit).wrap (fun _ => .raise e) .raise id id))
          (fun f => by cases f <;> rfl) (fun e => by first | exact cc e | rfl)]
        exact h2
      · first | exact hx | (rw [← cc] at hx; exact hx)
  · first | exact hx | (rw [← cc] at hx; exact hx)
end
end LP
set_option maxHeartbeats 2000000
namespace LP
open PySem PySem.Spec PyProof.Rows L2 GenW
/-- the consumer's changes while the generator sleeps -/
structure SleptW (C D : Addr) (s s' : Shared) : Prop where
  os : s'.os = s.os
  bare : AllBare s'.gens
  keep : ∀ b o, b ≠ C → b ≠ D → s.heap.get? b = some o → s'.heap.get? b = some o
/-- the generator's changes from its waking to its next rest: its frame's names at L, its iterator -/
structure KpI (L it : Addr) (os : OsState) (h : Heap) (s : Shared) : Prop where
  os : s.os = os
  bare : AllBare s.gens
  keep : ∀ b o, b ≠ L → b ≠ it → h.get? b = some o → s.heap.get? b = some o
  at_ : ∃ o, s.heap.get? L = some o
/-- .. an iterator behind z -/
def KpG (L z : Addr) (os : OsState) (h : Heap) (s : Shared) : Prop := ∃ it, z ≤ it ∧ KpI L it os h s
/-- the j-th of xs is handed out; n: how many more there are -/
def GYw (C D L z : Addr) (xs : List V) : Protocol := fun n s₀ v s kap => ∃ j x, j + 1 + n = xs.length ∧ xs[j]? = some x ∧ RelV x v ∧ KpG L z s₀.os s₀.heap s ∧ ∀ s', SleptW C D s s' → kap (.send .none) s'
def GEw (L z : Addr) : GenEnd := fun n s₀ r s => ((r = .ok (.ret .none) ∨ r = .ok .next) ∧ n = 0 ∧ KpG L z s₀.os s₀.heap s) ∨ ∃ e, r = .error e ∧ False
/-- the generator's context: no exception leaves it -/
abbrev gcw (P : Program) (w : World) (K : PySem.W.Frag) (mg : Str → Option Value) (base : Heap) (N : List Str) (qual : Str) (scope : Scope) (f : Addr) (cd : Value) (A : Around) (outer : List Env) (s : Shared) (H : Hp) : Cx :=
  { cxOf (L2.CX P w) P w K mg base N qual scope f cd A outer s H (fun _ _ _ => False) with pn := [], xe := fun _ _ => False }
section
variable {X : Cx} {pins : List (Addr × Obj)} {σ : L2.St} {H : Hp} {s s' : Shared} {C D : Addr}
/-- woken again: nothing of the frame's has changed -/
theorem inv_woken (hC : H C = none ∧ X.s_0.heap.objs.size ≤ C ∧ C ≠ X.env.locals ∧ (∀ x c, X.env.cells.lookup x = some c → c ≠ C) ∧ ∀ p ∈ X.pn ++ pins, p.1 ≠ C) (hD : H D = none ∧ X.s_0.heap.objs.size ≤ D ∧ D ≠ X.env.locals ∧ (∀ x c, X.env.cells.lookup x = some c → c ≠ D) ∧ ∀ p ∈ X.pn ++ pins, p.1 ≠ D)
    (I : Inv X pins σ H s) (z : SleptW C D s s') : Inv X pins σ H s' := by
  obtain ⟨z1, z2, z3⟩ := z
  obtain ⟨hh, g, d, t, o⟩ := s'
  have ho : o = s.os := z1
  subst ho
  have nc : ∀ b, b ∉ [C, D] → b ≠ C ∧ b ≠ D := fun b hb => ⟨fun e => hb (by rw [e]; simp), fun e => hb (by rw [e]; simp)⟩
  have nt : ∀ b u, H b = some u → b ≠ C ∧ b ≠ D := fun b u q => ⟨fun e => (by rw [e, hC.1] at q; cases q), fun e => (by rw [e, hD.1] at q; cases q)⟩
  refine I.step (g' := g) (t' := t) (d' := d) (ch := [C, D]) (fun b hb => ?_)
    (fun b ob _ _ hc q _ => z3 b ob (nc b hc).1 (nc b hc).2 q) (fun b ob _ _ hc q _ => ⟨ob.slots, z3 b ob (nc b hc).1 (nc b hc).2 q⟩) (fun _ _ _ _ n => n) (fun b ob hc q => ⟨ob, z3 b ob (nc b hc).1 (nc b hc).2 q⟩)
    (fun _ _ q => q) (fun _ _ _ q => q) (fun b ps q => ⟨#[], by rw [q]; simp⟩) (fun m hm => ?_) (fun b u q => ?_) z2
  · have : b = C ∨ b = D := by simpa using hb
    rcases this with rfl | rfl
    · exact ⟨.inr hC.2.1, hC.2.2⟩
    · exact ⟨.inr hD.2.1, hD.2.2⟩
  · obtain ⟨ob, es, ep, ho, r⟩ := hm
    exact ⟨ob, es, ep, z3 _ ob (Ne.symm hC.2.2.1) (Ne.symm hD.2.2.1) ho, r⟩
  · refine (I.hok b u q).stay (fun c v hc y => ?_) (fun _ y => y) fun _ _ y => y
    rcases hc with y' | y'
    · subst y'; exact z3 c v (nt c u q).1 (nt c u q).2 y
    · exact z3 c v (nt c _ y').1 (nt c _ y').2 y
/-- a local name is stored: the state, exactly -/
theorem store_ok3 {M : Model} {A : Around} {E : Value → Shared → Prop} {i : Nat} {x : Str} {v : V} {u : Value} {Q : Unit → Shared → Prop} (I : Inv X pins σ H s) (hN : X.N.Nodup) (hi : X.N[i]? = some x) (hk : X.env.kindOf x = some .local) (r : RelV v u)
    (h : ∀ h' tk m', Inv X pins (σ.set i (some v)) H { s with heap := h', toks := tk } → Heap.SameBut X.env.locals s.heap h' → h'.Ns X.env.locals m' → m' x = some u → Q () { s with heap := h', toks := tk }) : wpAny M A (storeName X.env x u) Q E s := by
  obtain ⟨m, hn, hl⟩ := id I.loc
  have hcls : (X.env.scope.kind == .class || (X.env.scope.kind == .module && X.env.locals != X.env.globals)) = false := by rw [I.ok.kind]; rfl
  have hiσ : i < σ.length := by rw [I.len]; exact (List.getElem?_eq_some_iff.mp hi).1
  have cne := I.cne
  have tracked : ∀ {a : Addr} {h' : Heap}, (∃ o, s.heap.get? a = some o ∧ H a = none) → Heap.SameBut a s.heap h' → HOk X.prog X.w H h' := fun {a h'} ha hs b ob e => by
    obtain ⟨_, _, hfree⟩ := ha
    refine (I.hok b ob e).stay (fun c w' hc q => (hs.2 c ?_).trans q) (fun _ q => q) fun _ _ q => q
    rintro rfl
    rcases hc with rfl | hc
    · rw [hfree] at e; cases e
    · rw [hfree] at hc; cases hc
  refine wpAny_storeName_local hk hn (fun h' hn' hs => ?_) hcls
  obtain ⟨oL, _, _, hoL, _⟩ := id hn
  refine h h' _ _ ⟨I.ok, I.os, I.bare, ⟨fun b o e n hb hx => ?_, fun b o e n hb hx => ?_, I.base.free, fun b o e hx => ?_, I.base.tups, I.base.frzs, I.base.tbls⟩, ⟨_, hn', fun j y v' e1 e2 e3 => ?_⟩, fun y c e => ?_, I.free, I.freeC, fun p hp => ?_, tracked ⟨oL, hoL, I.free⟩ hs, by simpa using I.len⟩ hs hn' (by simp)
  · exact (hs.2 b (Nat.ne_of_lt (Nat.lt_of_lt_of_le (Heap.lt_size e) I.ok.above))).trans (I.base.keep b o e n hb hx)
  · obtain ⟨sl, e1⟩ := I.base.slot b o e n hb hx
    exact ⟨sl, (hs.2 b (Nat.ne_of_lt (Nat.lt_of_lt_of_le (Heap.lt_size e) I.ok.above))).trans e1⟩
  · obtain ⟨o', e1⟩ := I.base.there b o e hx
    exact ⟨o', (hs.2 b (Nat.ne_of_lt (Nat.lt_of_lt_of_le (Heap.lt_size e) I.ok.above))).trans e1⟩
  · by_cases hj : j = i
    · subst hj
      rw [hi] at e1; cases e1
      rw [List.getElem?_set_self hiσ] at e2
      cases e2
      exact ⟨u, r, .inl ⟨hk, by simp⟩⟩
    · rw [List.getElem?_set_ne (Ne.symm hj)] at e2
      obtain ⟨u', r', q⟩ := hl j y v' e1 e2 e3
      refine ⟨u', r', ?_⟩
      rcases q with ⟨k, e⟩ | ⟨k, c, e, z⟩
      · refine .inl ⟨k, ?_⟩
        have : y ≠ x := fun e => hj (nodup_ix hN e1 (e ▸ hi))
        simp [this, e]
      · exact .inr ⟨k, c, e, z.sameBut hs (cne y c e)⟩
  · obtain ⟨w', z⟩ := I.cell y c e
    exact ⟨w', z.sameBut hs (cne y c e)⟩
  · obtain ⟨e, n, ne, nf, d⟩ := I.pin p hp
    exact ⟨(hs.2 p.1 ne).trans e, n, ne, nf, d⟩
end
section
variable {X : Cx} {A : Around} {C D z it l : Addr} {x : Str} {px py yp pos : Pos} {i : Nat} {xs : List V} {H : Hp}
/-- the loop: what is left of the list is handed out -/
theorem walk_loop {k : Result → Sem PySem.Fin} {g : Bool} {lv : List Value} {c : Code} {p : Pos} (hN : X.N.Nodup) (hi : X.N[i]? = some x) (hk : X.env.kindOf x = some .local) (hdb : (x == ("__debug__" : Str)) = false) (hco : X.env.scope.isCoroutine = false) (hin : interactive X.env = false) (hpn : X.pn = [])
    (hov : A.over (.forLoop (.Name x px) (.ref it) [.Expr (.Yield (some (.Name x py)) yp) pos] [] X.env) [.ret k none g lv c p []] = X.A) (hgd : g = false) (hhd : X.A.handled = none) (hq : SqL X.K H l xs)
    (hit : H it = none ∧ X.s_0.heap.objs.size ≤ it ∧ it ≠ X.env.locals ∧ (∀ y c, X.env.cells.lookup y = some c → c ≠ it)) (hz : z ≤ it) (hiC : it ≠ C) (hiD : it ≠ D)
    (hC : H C = none ∧ X.s_0.heap.objs.size ≤ C ∧ C ≠ X.env.locals ∧ (∀ x c, X.env.cells.lookup x = some c → c ≠ C)) (hD : H D = none ∧ X.s_0.heap.objs.size ≤ D ∧ D ≠ X.env.locals ∧ (∀ x c, X.env.cells.lookup x = some c → c ≠ D))
    (hend : ∀ s₀ s, KpI X.env.locals it s₀.os s₀.heap s → Seg (model X.prog X.w) A (GEw X.env.locals z) (GYw C D X.env.locals z xs) 0 s₀ c (k (.ok .next)) [] s) :
    ∀ (r j : Nat) (s₀ s : Shared) (σ : L2.St), j + r = xs.length → Inv X [] σ H s → s.heap.IsListIter it l j → KpI X.env.locals it s₀.os s₀.heap s →
      Seg (model X.prog X.w) A (GEw X.env.locals z) (GYw C D X.env.locals z xs) r s₀ (.forLoop (.Name x px) (.ref it) [.Expr (.Yield (some (.Name x py)) yp) pos] [] X.env) ((model X.prog X.w).den (.forLoop (.Name x px) (.ref it) [.Expr (.Yield (some (.Name x py)) yp) pos] [] X.env)) [.ret k none g lv c p []] s := by
  subst hgd
  have nopin : ∀ {Z : Addr}, ∀ q ∈ X.pn ++ [], q.1 ≠ Z := fun q hq => by rw [hpn] at hq; cases hq
  obtain ⟨f0, f1, f2, f3⟩ := hit
  intro r
  induction r with
  | zero =>
    intro j s₀ s σ hj I st kp
    obtain ⟨its, rv, pl, _⟩ := I.list hq
    have hl := rv.length
    refine seg_forLoop ?_
    rw [hov]
    refine wpAny_pyNext_list_end hhd st pl.isList (by simp; omega) fun h' eb => ?_
    refine seg_again rfl ?_
    refine seg_leaf (.ok .next) (hend s₀ _ ⟨kp.os, kp.bare, fun b o n1 n2 e => eb b o n2 (kp.keep b o n1 n2 e), ?_⟩)
    obtain ⟨o, e⟩ := kp.at_
    exact ⟨o, eb _ _ (Ne.symm f2) e⟩
  | succ r ih =>
    intro j s₀ s σ hj I st kp
    obtain ⟨its, rv, pl, _⟩ := I.list hq
    have hjl : j < xs.length := by omega
    obtain ⟨x0, hx⟩ : ∃ x0, xs[j]? = some x0 := ⟨xs[j], List.getElem?_eq_getElem hjl⟩
    obtain ⟨u, hu, ru⟩ := rv.get hx
    refine seg_forLoop ?_
    rw [hov]
    refine wpAny_pyNext_list_item st pl.isList (x := u) (by simpa using hu) fun h' st' sb => ?_
    have I1 : Inv X [] σ H { s with heap := h' } := I.turned (t' := s.toks) (fun b o hb e => (sb.2 b hb).trans e) f0 f2 (.inr f1) f3 nopin
    refine wpAny_assign_Name (store_ok3 I1 hN hi hk ru fun h2 tk m' I2 sb2 hn2 hm2 => ?_)
    have st2 : h2.IsListIter it l (j + 1) := st'.at fun o e => (sb2.2 it f2).trans e
    refine seg_execs_cons ?_
    refine seg_Expr_Yield rfl rfl rfl ?_ hco hin
    rw [hov]
    refine wpAny_Name (wpAny_loadName_local I.ok.kind hk hn2 hm2 ?_) hdb
    intro kap hkap
    have kp2 : KpI X.env.locals it s₀.os s₀.heap { s with heap := h2, toks := tk } := by
      refine ⟨kp.os, kp.bare, fun b o n1 n2 e => (sb2.2 b n1).trans ((sb.2 b n2).trans (kp.keep b o n1 n2 e)), ?_⟩
      obtain ⟨o, _, _, ho, _⟩ := hn2
      exact ⟨o, ho⟩
    refine ⟨j, x0, by omega, hx, ru, ⟨it, hz, kp2⟩, fun s'' zz => hkap .none s'' ?_⟩
    have I3 := inv_woken ⟨hC.1, hC.2.1, hC.2.2.1, hC.2.2.2, nopin⟩ ⟨hD.1, hD.2.1, hD.2.2.1, hD.2.2.2, nopin⟩ I2 zz
    refine seg_execs_nil ?_
    refine seg_again rfl (ih (j + 1) s'' s'' _ (by omega) I3 (st2.at fun o e => zz.keep it o hiC hiD e) ⟨rfl, zz.bare, fun _ _ _ _ e => e, ?_⟩)
    obtain ⟨m, ⟨o, _, _, ho, _⟩, _⟩ := I3.loc
    exact ⟨o, ho⟩
end
end LP
set_option maxHeartbeats 4000000
namespace LP
open PySem PySem.Spec PyProof.Rows L2 GenW
/-- what the call gives: a generator that has not begun, and what it hands out -/
def GMadeW (P : Program) (w : World) (k : Nat) (outer : List Env) (s : Shared) (xs : List V) (u : Value) (s' : Shared) : Prop :=
  ∃ (a L : Addr) (g : Nat) (c : Code), u = .ref a ∧ s.heap.objs.size ≤ a ∧ s.heap.objs.size ≤ L ∧ L ≠ a ∧ a < s'.heap.objs.size ∧ L < s'.heap.objs.size ∧ s'.heap.IsGen a g ∧ s'.gens[g]? = some (.fresh c) ∧ s'.os = s.os ∧ AllBare s'.gens ∧ s'.heap.NoLimit ∧ (∀ b o, s.heap.get? b = some o → s'.heap.get? b = some o) ∧
    ∀ (A : Around) (C D : Addr) (s2 : Shared), Room k A → A.frames = some outer → s'.heap.objs.size ≤ C → s'.heap.objs.size ≤ D → C < s2.heap.objs.size → D < s2.heap.objs.size → (∀ b o, s'.heap.get? b = some o → s2.heap.get? b = some o) → s2.os = s.os → AllBare s2.gens →
      Seg (model P w) A (GEw L s2.heap.objs.size) (GYw C D L s2.heap.objs.size xs) xs.length s2 c ((model P w).den c) [] s2
/-- the text of such a def -/
abbrev walkBody (x sf attr : Str) (p1 p2 p3 p4 p5 p6 p7 : Pos) : List Stmt := [.For (.Name x p1) (.Attribute (.Name sf p2) attr p3) [.Expr (.Yield (some (.Name x p4)) p5) p6] [] p7]
theorem inv_gcw {P : Program} {w : World} {K : PySem.W.Frag} {mg : Str → Option Value} {base : Heap} {N : List Str} {qual : Str} {scope : Scope} {f : Addr} {cd : Value} {A : Around} {outer : List Env} {s s1 : Shared} {H H' : Hp} {E : XK} {σ : L2.St}
    (I : Inv (gcxOf P w K mg base N qual scope f cd A outer s H E []) [] σ H' s1) : Inv (gcw P w K mg base N qual scope f cd A outer s H) [] σ H' s1 :=
  ⟨⟨I.ok.mod, I.ok.kind, I.ok.glob, I.ok.blt, I.ok.above, I.ok.inj, I.ok.has, I.ok.cab, I.ok.hd, I.ok.frames, I.ok.stk, I.ok.exf, I.ok.bs, I.ok.bsz, I.ok.noex, I.ok.exfs, I.ok.funs, I.ok.frf⟩, I.os, I.bare, I.base, I.loc, I.cell, I.free, I.freeC, (fun p hp => nomatch hp), I.hok, I.len⟩
theorem gmade_walk {P : Program} {w : World} {K : PySem.W.Frag} {mg : Str → Option Value} {base : Heap} {k : Nat} {f : Addr} {name qual : Str} {params : Arguments} {scope : Scope} {dV kV doc pm cdv ct oc : Value} {an od : Option Addr} {x sf attr : Str} {p1 p2 p3 p4 p5 p6 p7 : Pos}
    {osl : Array (Option Value)} (lk : K.lookup f = some ⟨oc, od, .func (PySem.W.fnOf name qual params (walkBody x sf attr p1 p2 p3 p4 p5 p6 p7) scope dV kV doc pm an cdv ct), osl⟩) (hcd : PySem.W.codeIn K cdv qual = true) (S : GScope [sf, x] [sf] scope)
    (hx : scope.names.lookup x = some .local) (hsf : scope.names.lookup sf = some .local) (hdb : (x == ("__debug__" : Str)) = false) (hdb2 : (sf == ("__debug__" : Str)) = false) (hab : ∀ env : Env, attributeBase (.Name sf p2) attr env (eval (.Name sf p2) env) = eval (.Name sf p2) env)
    (hfi : ∀ (env : Env) (v : Value), foldedSetIterable (.Attribute (.Name sf p2) attr p3) env v = pure v)
    {A : Around} {outer : List Env} {s : Shared} {H : Hp} {args : Args} {a0 C0 dx l : Addr} {fs : List (Str × V)} {xs : List V} (hr : Room (k + 1) A) (e0 : Env0 P w K mg base A outer s H) (hb : BindsTo s (PySem.W.fnOf name qual params (walkBody x sf attr p1 p2 p3 p4 p5 p6 p7) scope dV kV doc pm an cdv ct) args [(sf, .ref a0)])
    (ha : H a0 = some (.ins C0 dx fs)) (hc : Cls K C0) (hn : NoAttr K C0 attr) (hl : fs.lookup attr = some (.ref l)) (hq : SqL K H l xs) :
    codeAny (model P w) A (.call (.ref f) args) (fun r s' => match r with | .ok (.ret u) => GMadeW P w (k + 1) outer s xs u s' | _ => False) s := by
  have KX : K.In s.heap := e0.mod.kin.keeps fun b o e => (e0.bs b o e).1
  have lim : s.heap.NoLimit := e0.mod.nolimit.keeps fun b o e => (e0.bs b o e).1
  have hkind : ∀ y ∈ ([sf].zip [Value.ref a0]), scope.names.lookup y.1 = some .local ∨ (scope.names.lookup y.1 = some .cell ∧ ((cellsFrom (s.heap.objs.size + 1) scope.names []).lookup y.1).isSome = true) := fun y hy => by
    have e : y = (sf, Value.ref a0) := by simpa using hy
    subst e
    exact .inl hsf
  refine codeAny_call_generator hr.depth (KX _ _ lk) rfl S.co S.gen rfl (PySem.W.codeRec_of KX hcd) (hb _ _ _ _ ?_)
  refine wpAny_newFunctionEnv_cells S.kind hkind fun env he s1 x1 => ?_
  subst he
  have lim1 : s1.heap.NoLimit := lim.keeps x1.toInCall.keep
  refine ⟨lim1, ?_⟩
  obtain ⟨h1, tk, es1, hk1⟩ := x1.done
  have os1 : s1.os = s.os := by rw [es1]
  have gen1 : s1.gens = s.gens := by rw [es1]
  have lt1 : s.heap.objs.size < s1.heap.objs.size := x1.toInCall.ns.lt
  have sz1 : s.heap.objs.size ≤ s1.heap.objs.size := Nat.le_of_lt lt1
  have kp1 : ∀ b o, s.heap.get? b = some o → s1.heap.get? b = some o := x1.toInCall.keep
  have main : ∀ (go : Obj) (nm qn : Value) (tk2 : Nat), go.cls = .type "generator" → go.data = .fields #[.int s1.gens.size 0, nm, qn] → go.slots = #[] → (∀ h : Heap, (h.push go).get? h.objs.size = some go) →
      GMadeW P w (k + 1) outer s xs (.ref s1.heap.objs.size) { s1 with gens := s1.gens.push (.fresh (.func (walkBody x sf attr p1 p2 p3 p4 p5 p6 p7) (envOfC qual scope s.heap.objs.size f cdv))), toks := tk2, heap := s1.heap.push go } := by
    intro go nm qn tk2 hgc hgd0 hgs hgp
    have hgen : ∀ h : Heap, h.get? s1.heap.objs.size = some go → h.IsGen s1.heap.objs.size s1.gens.size := fun h e => ⟨go, nm, qn, e, hgc, hgd0, hgs⟩
    have hpushed : (s1.heap.push go).get? s1.heap.objs.size = some go := hgp _
    refine ⟨s1.heap.objs.size, s.heap.objs.size, s1.gens.size, _, rfl, sz1, Nat.le_refl _, Nat.ne_of_lt lt1, ?_, ?_, hgen _ hpushed, Array.getElem?_push_size .., os1, ?_, lim1.keeps fun b o e => Heap.get?_push_of_some _ e, fun b o e => Heap.get?_push_of_some _ (kp1 b o e), ?_⟩
    · show _ < (s1.heap.push _).objs.size
      rw [Heap.size_push]; exact Nat.lt_succ_self _
    · show _ < (s1.heap.push _).objs.size
      rw [Heap.size_push]; exact Nat.lt_succ_of_lt lt1
    · exact AllBare.push (by rw [gen1]; exact e0.bare) rfl
    intro Aw C D s2 hrw hfr hC hD hC2 hD2 hk2 hos hba
    have e0w : Env0 P w K mg base Aw outer s H := ⟨hfr, e0.mod, e0.bs, e0.bsz, e0.funs, e0.frf, e0.hok, e0.bare⟩
    have I1 : Inv (gcxOf P w K mg base [sf, x] qual scope f cdv Aw outer s H (fun _ _ _ => False) []) [] (start [sf, x] [.ref a0]) H s1 := inv_startG S hrw.hd e0w rfl (us := [.ref a0]) (.cons rfl .nil) x1
    have kp2 : ∀ b o, s1.heap.get? b = some o → s2.heap.get? b = some o := fun b o e => hk2 b o (Heap.get?_push_of_some _ e)
    have I2' : Inv (gcxOf P w K mg base [sf, x] qual scope f cdv Aw outer s H (fun _ _ _ => False) []) [] (start [sf, x] [.ref a0]) H s2 :=
      I1.call' (ch := []) (hos.trans os1.symm) (Un.kept kp2) (I1.hok.kept kp2) hba fun b z => by simp at z
    have I2 := inv_gcw I2'
    have young : ∀ b, s1.heap.objs.size ≤ b → H b = none ∧ s.heap.objs.size ≤ b ∧ b ≠ s.heap.objs.size ∧ ∀ y c, (cellsFrom (s.heap.objs.size + 1) scope.names []).lookup y = some c → c ≠ b := fun b hb => by
      refine ⟨I1.hok.fresh hb, Nat.le_trans sz1 hb, Nat.ne_of_gt (Nat.lt_of_lt_of_le lt1 hb), fun y c e z => ?_⟩
      obtain ⟨v, ob, ho, _⟩ := I1.cell y c e
      have := Heap.lt_size ho
      rw [z] at this
      exact absurd (Nat.lt_of_lt_of_le this hb) (Nat.lt_irrefl _)
    have szg : s1.heap.objs.size ≤ (s1.heap.push go).objs.size := by rw [Heap.size_push]; exact Nat.le_succ _
    have yC := young C (Nat.le_trans szg hC)
    have yD := young D (Nat.le_trans szg hD)
    have sz2 : s1.heap.objs.size ≤ s2.heap.objs.size := Nat.le_of_lt (Nat.lt_of_le_of_lt (Nat.le_trans szg hC) hC2)
    have yI := young s2.heap.objs.size sz2
    -- the body
    refine seg_func ?_
    refine seg_execs_cons ?_
    refine seg_For ?_ (hfi _)
    rw [over_func]
    obtain ⟨m, hnm, hlk⟩ := id I2.loc
    obtain ⟨u, ru, lu⟩ := hlk 0 sf (.ref a0) rfl rfl (.inl hsf)
    obtain rfl : u = Value.ref a0 := ru
    have hms : m sf = some (.ref a0) := by
      rcases lu with ⟨_, e⟩ | ⟨e, _⟩
      · exact e
      · have e' : scope.names.lookup sf = some .cell ∨ scope.names.lookup sf = some .free := e
        rw [hsf] at e'
        rcases e' with z | z <;> cases z
    refine attr_of (hab _) (wpAny_Name (wpAny_loadName_local I2.ok.kind hsf hnm hms ?_) hdb2)
    obtain ⟨mA, O, r, _, _, _⟩ := ins_get I2.hok ha
    obtain ⟨u, hu, ru⟩ := RelO.some_of (v := .ref l) (o := mA attr) (by rw [← hl]; exact r attr)
    obtain rfl : u = Value.ref l := ru
    refine get_map I2.kIn O (hc.get attr) hc.hd hn hu (handed_of (v := .ref l) rfl) ?_
    obtain ⟨its, rv, pl, _⟩ := I2.list hq
    refine wpAny_pyIter_list (s := { s2 with toks := s2.toks + 1 }) pl.isList ?_
    intro p
    have hin : interactive (envOfC qual scope s.heap.objs.size f cdv) = false := by
      show (scope.kind == .module && _) = false
      rw [S.kind]
      rfl
    have kpush : ∀ b o, s2.heap.get? b = some o → (s2.heap.push { cls := .type "list_iterator", data := .fields #[.ref l, .int 0 0] }).get? b = some o := fun b o e => Heap.get?_push_of_some _ e
    have I3 : Inv (gcw P w K mg base [sf, x] qual scope f cdv Aw outer s H) [] (start [sf, x] [.ref a0]) H { s2 with toks := s2.toks + 1, heap := s2.heap.push { cls := .type "list_iterator", data := .fields #[.ref l, .int 0 0] } } := I2.kept (t' := s2.toks + 1) kpush
    have hLs : ∃ o, s2.heap.get? s.heap.objs.size = some o := by
      obtain ⟨o, _, _, ho, _⟩ := hnm
      exact ⟨o, ho⟩
    exact walk_loop (X := gcw P w K mg base [sf, x] qual scope f cdv Aw outer s H) (H := H) (i := 1) (l := l) (it := s2.heap.objs.size) (z := s2.heap.objs.size) (C := C) (D := D) S.nd rfl hx hdb S.co hin rfl
      ((over_loop rfl rfl).trans over_func) rfl hrw.hd hq ⟨yI.1, yI.2.1, yI.2.2.1, yI.2.2.2⟩ (Nat.le_refl _) (Nat.ne_of_gt hC2) (Nat.ne_of_gt hD2) ⟨yC.1, yC.2.1, yC.2.2.1, yC.2.2.2⟩ ⟨yD.1, yD.2.1, yD.2.2.1, yD.2.2.2⟩
      (fun s₀ s' kp => seg_end (.ok (.ret .none)) (.inl ⟨.inl rfl, rfl, _, Nat.le_refl _, kp⟩)) xs.length 0 s2 _ _ (Nat.zero_add _) I3 ⟨_, Heap.get?_push_size _ rfl, rfl, rfl⟩
      ⟨rfl, hba, fun b o _ _ e => kpush b o e, hLs.elim fun o e => ⟨o, kpush _ _ e⟩⟩
  exact main _ _ _ _ rfl rfl rfl fun h => Heap.get?_push_size _ rfl
end LP
set_option maxHeartbeats 4000000
namespace LP
open PySem PySem.Spec PyProof.Rows L2 GenW
section
variable {X : Cx} {pins : List (Addr × Obj)} {σ : L2.St} {H : Hp} {s s' : Shared}
/-- the generator ran from a waking to its rest: the consumer's own -/
theorem inv_kpg {L z : Addr} (I : Inv X pins σ H s) (hz : X.s_0.heap.objs.size ≤ z) (hzl : X.env.locals < z) (hzc : ∀ x c, X.env.cells.lookup x = some c → c < z) (hzH : ∀ b u, H b = some u → b < z) (hzp : ∀ p ∈ X.pn ++ pins, p.1 < z)
    (hL : (L ∈ X.ex ∨ X.s_0.heap.objs.size ≤ L) ∧ H L = none ∧ L ≠ X.env.locals ∧ (∀ x c, X.env.cells.lookup x = some c → c ≠ L) ∧ ∀ p ∈ X.pn ++ pins, p.1 ≠ L) (k : KpG L z s.os s.heap s') : Inv X pins σ H s' := by
  obtain ⟨it, hit, k1, k2, k3, _⟩ := k
  obtain ⟨hh, g, d, t, o⟩ := s'
  have ho : o = s.os := k1
  subst ho
  have nc : ∀ b, b ∉ [L, it] → b ≠ L ∧ b ≠ it := fun b hb => ⟨fun e => hb (by rw [e]; simp), fun e => hb (by rw [e]; simp)⟩
  have nt : ∀ b u, H b = some u → b ≠ L ∧ b ≠ it := fun b u q => ⟨fun e => (by rw [e, hL.2.1] at q; cases q), Nat.ne_of_lt (Nat.lt_of_lt_of_le (hzH b u q) hit)⟩
  have hl : X.env.locals ≠ it := Nat.ne_of_lt (Nat.lt_of_lt_of_le hzl hit)
  refine I.step (g' := g) (t' := t) (d' := d) (ch := [L, it]) (fun b hb => ?_)
    (fun b ob _ _ hc q _ => k3 b ob (nc b hc).1 (nc b hc).2 q) (fun b ob _ _ hc q _ => ⟨ob.slots, k3 b ob (nc b hc).1 (nc b hc).2 q⟩) (fun _ _ _ _ n => n) (fun b ob hc q => ⟨ob, k3 b ob (nc b hc).1 (nc b hc).2 q⟩)
    (fun _ _ q => q) (fun _ _ _ q => q) (fun b ps q => ⟨#[], by rw [q]; simp⟩) (fun m hm => ?_) (fun b u q => ?_) k2
  · have : b = L ∨ b = it := by simpa using hb
    rcases this with rfl | rfl
    · exact ⟨hL.1, hL.2.2⟩
    · exact ⟨.inr (Nat.le_trans hz hit), Ne.symm hl, fun x c e => Nat.ne_of_lt (Nat.lt_of_lt_of_le (hzc x c e) hit), fun p hp => Nat.ne_of_lt (Nat.lt_of_lt_of_le (hzp p hp) hit)⟩
  · obtain ⟨ob, es, ep, ho, r⟩ := hm
    exact ⟨ob, es, ep, k3 _ ob (Ne.symm hL.2.2.1) hl ho, r⟩
  · refine (I.hok b u q).stay (fun c v hc y => ?_) (fun _ y => y) fun _ _ y => y
    rcases hc with y' | y'
    · subst y'; exact k3 c v (nt c u q).1 (nt c u q).2 y
    · exact k3 c v (nt c _ y').1 (nt c _ y').2 y
/-- an item appended to a tracked list: the state, exactly -/
theorem app_ok3 {E : Value → Shared → Prop} {D : Addr} {xs : List V} {y : V} {v : Value} {Q : Value → Shared → Prop} (I : Inv X pins σ H s) (hD : H D = some (.lst xs)) (hz : xs.length < sizeLine) (r : RelV y v)
    (h : ∀ h', Inv X pins σ (upd H D (.lst (xs ++ [y]))) { s with heap := h' } → Heap.SameBut D s.heap h' → Q .none { s with heap := h' }) : wpAny (model X.prog X.w) X.A (call (.builtin "list.append") [.ref D, v]) Q E s := by
  obtain ⟨hz', its, n, ri, e⟩ := I.hok D _ hD
  have hl := ri.length
  refine append_at (hsz := by rw [List.size_toArray]; omega) e fun h' sb ho' => ?_
  refine h h' (I.write (t' := s.toks) (by rw [hD]; trivial) (.inl rfl) (fun b u hb q => (sb.2 b hb).trans q) ⟨_, ho'⟩ ⟨by rw [List.length_append]; exact hz, its ++ [v], n + 1, ri.append (.cons r .nil), ?_⟩) sb
  rw [ho']
  simp
end
section
variable {X : Cx} {pins : List (Addr × Obj)} {σ : L2.St} {s : Shared} {Q : VK} {y : Str} {pt pe pos : Pos} {iter : Expr} {scope : Scope} {own : List (Str × Nat)} {iy k : Nat}
theorem gl_core (hX : X.Ok) (hc : X.calm = true) (hN : X.N.Nodup) (hi : wpAny (model X.prog X.w) X.A (eval iter X.env) (fun u s1 => ∃ (H : Hp) (sc : Shared) (xs : List V) (l : Addr), Inv X pins σ H sc ∧ SqL X.K H l xs ∧ GMadeW X.prog X.w k X.stack sc xs u s1 ∧ ∀ D, H D = none → Q (.ref D) (upd H D (.lst xs))) X.xe s) (hr : Room (k + 1) X.A) (ok : BlkOk X.N X.env.scope scope own)
    (hy : scope.names.lookup y = some .local) (hiy : X.N[iy]? = some y) (hown : iy ∈ own.map (·.2)) (hdb : (y == ("__debug__" : Str)) = false) (hs : ∀ x, foldedSetIterable iter X.env x = pure x) :
    wpAny (model X.prog X.w) X.A (eval (.ListComp (.Name y pe) [⟨.Name y pt, iter, [], 0⟩] scope pos) X.env) (EP X pins σ Q) X.xe s := by
  rw [eval_ListComp]
  refine wpAny_comprehension_free (use := none) (cl := cloFrom X.env.cells scope.names []) rfl hs (closure_ok fun y' hy' e => ?_) ok.kind (fun y' hy' e => by rw [ok.uniq y' hy', e]) (thn hi fun u s1 ⟨H, sc, xs, l0, I0, hq0, hG, hQ⟩ => ?_)
  · rcases ok.free y' hy' e with k | k
    · exact hX.has _ (.inl k)
    · exact hX.has _ (.inr k)
  obtain ⟨_, _, _, hz⟩ := I0.list hq0
  obtain ⟨a, L, g, c, rfl, ha0, hL0, hLa, ha1, hL1, hgen, hgs, hos, hb, hlim, hkp, wake⟩ := hG
  have I1 : Inv X pins σ H s1 := I0.call' (ch := []) hos (Un.kept hkp) (I0.hok.kept hkp) hb fun b z => by simp at z
  refine wpAny_pyIter_gen hgen ?_
  refine wpAny_newObj_type (newEnv_comp ?_) (by show 0 ≤ sizeLine; decide)
  generalize hD : s1.heap.objs.size = D
  have hDn : H D = none := I1.hok.fresh (Nat.le_of_eq hD)
  have FL : FpOk X pins H L := I0.fpOk hL0 (I0.hok.fresh hL0)
  -- the new list
  generalize hs3 : ({ s1 with heap := s1.heap.push { cls := .type "list", data := .seq ([] : List Value).toArray } } : Shared) = s3
  have I3 : Inv X pins σ (upd H D (.lst [])) s3 := by
    rw [← hs3]
    refine I1.laid (t' := s1.toks) (fun b o e => Heap.get?_push_of_some _ e) (Nat.le_of_eq hD) ⟨Nat.zero_le _, [], 0, .nil, ?_⟩
    rw [← hD]
    exact Heap.get?_push_size _ rfl
  have h3 : s3.heap = s1.heap.push { cls := .type "list", data := .seq ([] : List Value).toArray } := by rw [← hs3]
  have k3 : ∀ b o, s1.heap.get? b = some o → s3.heap.get? b = some o := fun b o e => by rw [h3]; exact Heap.get?_push_of_some _ e
  have sz3 : s1.heap.objs.size < s3.heap.objs.size := by rw [h3, Heap.size_push]; exact Nat.lt_succ_self _
  have f3 : ∀ b ∈ [L], FpOk X pins (upd H D (.lst [])) b ∧ b < s3.heap.objs.size := fun b hb => by
    have e : b = L := by simpa using hb
    subst e
    refine ⟨⟨?_, FL.2⟩, Nat.lt_trans hL1 sz3⟩
    rw [upd_ne (by rw [← hD]; exact Nat.ne_of_lt hL1)]
    exact FL.1
  have I4 := block_start I3 ok hN f3
  show codeAny _ _ (.compStart (.ListComp (.Name y pe) [⟨.Name y pt, iter, [], 0⟩] scope pos) 0 (.ref a) (.ref D) (compEnvC scope (cellsFrom (s3.heap.objs.size + 1) scope.names (cloFrom X.env.cells scope.names [])) s3.heap.objs.size X.env)) (compPost (model X.prog X.w) X.A X.xe none (EP X pins σ Q) (.ref D) s3.heap.objs.size) { s3 with heap := pushCells (s3.heap.push { cls := .type "dict", data := .dict #[] }) scope.names }
  generalize hce : compEnvC scope (cellsFrom (s3.heap.objs.size + 1) scope.names (cloFrom X.env.cells scope.names [])) s3.heap.objs.size X.env = ce at I4 ⊢
  have cL : ce.locals = s3.heap.objs.size := by subst hce; rfl
  have cK : ce.kindOf y = some .local := by
    subst hce
    exact lookup_relS_keep (by decide) hy
  generalize hH3 : upd H D (.lst []) = H3 at I3 I4 f3
  generalize hs4 : ({ s3 with heap := pushCells (s3.heap.push { cls := .type "dict", data := .dict #[] }) scope.names } : Shared) = s4 at I4 ⊢
  have k4 : ∀ b o, s3.heap.get? b = some o → s4.heap.get? b = some o := fun b o e => by rw [← hs4]; exact pushCells_keeps _ _ _ _ (Heap.get?_push_of_some _ e)
  have sz4 : s3.heap.objs.size < s4.heap.objs.size := by
    rw [← hs4]
    refine Nat.lt_of_lt_of_le ?_ (pushCells_size scope.names _)
    rw [Heap.size_push]; exact Nat.lt_succ_self _
  have gens4 : s4.gens = s1.gens := by rw [← hs4, ← hs3]
  have os4 : s4.os = s1.os := by rw [← hs4, ← hs3]
  have kk : ∀ b o, s1.heap.get? b = some o → s4.heap.get? b = some o := fun b o e => k4 b o (k3 b o e)
  have hgl : g < s1.gens.size := (Array.getElem?_eq_some_iff.mp hgs).1
  -- the generator, ready
  have ready : (GenState.fresh c).Goes (model X.prog X.w) X.A.in1 (GEw L s4.heap.objs.size) (GYw s3.heap.objs.size D L s4.heap.objs.size xs) xs.length (.send .none) (s4.setGen g .running) := by
    refine ⟨rfl, ?_⟩
    exact wake X.A.in1 s3.heap.objs.size D (s4.setGen g .running) hr.in1 I0.ok.frames (Nat.le_of_lt sz3) (Nat.le_of_eq hD) sz4 (by rw [← hD]; exact Nat.lt_trans sz3 sz4) kk (os4.trans hos) (allBare_setGen (by rw [gens4]; exact hb) rfl)
  have I4 : Inv (X.blk s3 H3 scope ce [L]) [] (wipe σ (own.map (·.2))) (upd H D (.lst (xs.take 0))) s4 := by
    rw [List.take_zero, hH3]
    exact I4
  have tk1 : ∀ {j : Nat} {x : V}, xs[j]? = some x → upd (upd H D (.lst (xs.take j))) D (.lst (xs.take j ++ [x])) = upd H D (.lst (xs.take (j + 1))) := fun {j x} hx => by
    rw [List.take_add_one, hx]
    funext b
    by_cases hb : b = D
    · rw [hb, upd_same, upd_same]; rfl
    · rw [upd_ne hb, upd_ne hb, upd_ne hb]
  have hDz : D < s4.heap.objs.size := by rw [← hD]; exact Nat.lt_trans sz3 sz4
  have hHz : ∀ (l : List V) b u, (upd H D (.lst l)) b = some u → b < s4.heap.objs.size := fun l b u e => by
    by_cases hb : b = D
    · rw [hb]; exact hDz
    · rw [upd_ne hb] at e
      refine Nat.lt_of_not_le fun z => ?_
      have : H b = none := I1.hok.fresh (Nat.le_trans (Nat.le_of_lt (Nat.lt_trans sz3 sz4)) z)
      rw [this] at e; cases e
  have hcz : ∀ x' c', ce.cells.lookup x' = some c' → c' < s4.heap.objs.size := fun x' c' e => by
    obtain ⟨v, o, ho, _⟩ := I4.cell x' c' e
    exact Heap.lt_size ho
  have hLn : ∀ l : List V, (upd H D (.lst l)) L = none := fun l => by
    rw [upd_ne (by rw [← hD]; exact Nat.ne_of_lt hL1)]
    exact FL.1
  have hLC : L ≠ s3.heap.objs.size := Nat.ne_of_lt (Nat.lt_trans hL1 sz3)
  have hLe : ∀ x' c', ce.cells.lookup x' = some c' → c' ≠ L := fun x' c' e => (I4.ok.exf L List.mem_cons_self).2 x' c' e
  have kpg : ∀ {l : List V} {σ' : L2.St} {s5 s6 : Shared}, Inv (X.blk s3 H3 scope ce [L]) [] σ' (upd H D (.lst l)) s5 → KpG L s4.heap.objs.size s5.os s5.heap s6 → Inv (X.blk s3 H3 scope ce [L]) [] σ' (upd H D (.lst l)) s6 := fun {l σ' s5 s6} I5 kp =>
    inv_kpg (X := X.blk s3 H3 scope ce [L]) I5 (Nat.le_of_lt sz4) (by show ce.locals < _; rw [cL]; exact sz4) hcz (hHz l) (fun p hp => nomatch hp) ⟨.inl List.mem_cons_self, hLn l, by show L ≠ ce.locals; rw [cL]; exact hLC, hLe, fun p hp => nomatch hp⟩ kp
  have loop : codeAny (model X.prog X.w) X.A (.compLoop (.ListComp (.Name y pe) [⟨.Name y pt, iter, [], 0⟩] scope pos) 0 (.ref a) (.ref D) ce) (compPost (model X.prog X.w) X.A X.xe none (EP X pins σ Q) (.ref D) s3.heap.objs.size) s4 := by
    refine compLoop_any (fun n s' => ∃ j gs, j + n = xs.length ∧ Inv (X.blk s3 H3 scope ce [L]) [] (wipe σ (own.map (·.2))) (upd H D (.lst (xs.take j))) s' ∧ s'.gens[g]? = some gs ∧ gs.Goes (model X.prog X.w) X.A.in1 (GEw L s4.heap.objs.size) (GYw s3.heap.objs.size D L s4.heap.objs.size xs) n (.send .none) (s'.setGen g .running) ∧ s'.heap.IsGen a g) ?_ xs.length
      ⟨0, .fresh c, Nat.zero_add _, I4, by rw [gens4]; exact hgs, ready, hgen.keeps kk⟩
    rintro n s5 ⟨j, gs, hj, I5, hgs5, hgo, hgen5⟩
    have hgl5 : g < s5.gens.size := (Array.getElem?_eq_some_iff.mp hgs5).1
    refine wpAny_gsz (n := g + 1) hgl5 (next_genG (A := X.A) (F := fun n s₀ s₁ => n = 0 ∧ KpG L s4.heap.objs.size s₀.os s₀.heap s₁) (Er := fun _ _ => False) hr.hd I5.nolimit hr.depth hgen5 hgs5 hgo (fun v s₁ gs' hbare hv => ?_) (fun s₁ hp h' hk => ?_) fun e s₁ he => he.elim)
    · intro hsz
      obtain ⟨j', x, hj', hx, rv, ⟨it, hit, kpi⟩, hk⟩ := hv
      cases n with
      | zero => exact (hk s₁ ⟨rfl, kpi.bare, fun _ _ _ _ e => e⟩).elim
      | succ m =>
        obtain rfl : j' = j := by omega
        have hsz1 : g < s₁.gens.size := by
          have q : (s₁.setGen g gs').gens.size = s₁.gens.size := setGen_size _ _ _
          have hsz' : g + 1 ≤ (s₁.setGen g gs').gens.size := hsz
          omega
        have b6 : AllBare (s₁.setGen g gs').gens := allBare_setGen kpi.bare hbare
        have I6 := kpg (s6 := s₁.setGen g gs') I5 ⟨it, hit, kpi.os, b6, kpi.keep, kpi.at_⟩
        show wpAny _ _ (letOwnedTupleGo (.Name y pt) (.ref a) v) _ _ _
        refine wpAny_of_eq (a := ()) rfl ?_
        refine wpAny_assign_Name (store_ok3 I6 hN hiy cK rv fun h7 tk m7 I7 sb7 hn7 hm7 => ?_)
        refine wpAny_tests_nil ?_
        rw [if_pos rfl]
        refine wpAny_Name (wpAny_loadName_local I6.ok.kind cK hn7 hm7 ?_) hdb
        refine app_ok3 (X := X.blk s3 H3 scope ce [L]) I7 upd_same (by rw [List.length_take]; omega) rv fun h8 I8 sb8 => ?_
        have sb7 : Heap.SameBut s3.heap.objs.size s₁.heap h7 := by rw [← cL]; exact sb7
        rw [tk1 hx] at I8
        have I9 : Inv (X.blk s3 H3 scope ce [L]) [] (wipe σ (own.map (·.2))) (upd H D (.lst (xs.take (j' + 1)))) { s₁.setGen g gs' with heap := h8, toks := tk } := by
          refine I8.weak (by rw [List.length_set]) fun i v' e => ?_
          have := (wipe_some e).2
          rw [List.getElem?_set_ne (fun z => this (by rw [← z]; exact hown))]
          exact e
        have haz : a < s4.heap.objs.size := Nat.lt_trans ha1 (Nat.lt_trans sz3 sz4)
        refine ⟨m, Nat.lt_succ_self _, j' + 1, gs', by omega, I9, setGen_at hsz1, ?_, ?_⟩
        · exact hk _ ⟨rfl, allBare_setGen b6 rfl, fun b o n1 n2 e => (sb8.2 b n2).trans ((sb7.2 b n1).trans e)⟩
        · obtain ⟨o, nm, qn, ho, r⟩ := hgen5
          exact ⟨o, nm, qn, (sb8.2 a (by rw [← hD]; exact Nat.ne_of_lt ha1)).trans ((sb7.2 a (Nat.ne_of_lt (Nat.lt_trans ha1 sz3))).trans (kpi.keep a o (Ne.symm hLa) (Nat.ne_of_lt (Nat.lt_of_lt_of_le haz hit)) ho)), r⟩
    · intro _
      obtain ⟨rfl, it, hit, kpi⟩ := hp
      obtain rfl : j = xs.length := by omega
      rw [List.take_length] at I5
      have I6 := kpg (s6 := { s₁.setGen g .finished with heap := h' }) I5 ⟨it, hit, kpi.os, allBare_setGen kpi.bare rfl, fun b o n1 n2 e => hk b o (kpi.keep b o n1 n2 e), kpi.at_.elim fun o e => ⟨o, hk _ _ e⟩⟩
      have I7 : Inv X pins σ (upd H D (.lst xs)) { s₁.setGen g .finished with heap := h' } := I3.call' (ch := [L]) I6.os I6.base I6.hok I6.bare fun b hb => ⟨(f3 b hb).1.2.2.2.1, (f3 b hb).1.2.1, (f3 b hb).1.2.2.2.2.1, (f3 b hb).1.2.2.2.2.2⟩
      have nC : (upd H D (.lst xs)) s3.heap.objs.size = none := by
        have z : (upd H D (.lst xs)) ce.locals = none := I6.free
        rw [cL] at z
        exact z
      obtain ⟨m, hn, _⟩ := I6.loc
      have hn : h'.Ns ce.locals m := hn
      rw [cL] at hn
      obtain ⟨f0, f1, f2, f3', f4, f5⟩ := I3.fpOk (H' := upd H D (.lst xs)) (Nat.le_refl _) nC
      exact ⟨m, hn, fun h'' sb => ⟨.ref D, _, I7.turned (t' := s₁.toks) (fun b o hb e => (sb.2 b hb).trans e) f0 f1 f3' f4 f5, rfl, hQ D hDn⟩⟩
  exact codeAny_compStart_list loop (wpAny_pyIter_gen (hgen.keeps kk) loop)
end
end LP
set_option maxHeartbeats 2000000
namespace LP
open PySem PySem.Spec PyProof.Rows L2 GenW
/-- such a method of class c: it walks the attribute f, the j-th -/
structure GenP (K : PySem.W.Frag) (ci : Ci) (c : Nat) (m : Str) (j : Nat) : Prop where
  ex : ∃ (f : Addr) (fd : FuncData) (qual : Str) (params : Arguments) (scope : Scope) (x sf attr : Str) (p1 p2 p3 p4 p5 p6 p7 : Pos), FunD K m qual params (walkBody x sf attr p1 p2 p3 p4 p5 p6 p7) scope [] [] f fd ∧ GScope [sf, x] [sf] scope ∧ scope.names.lookup x = some .local ∧ scope.names.lookup sf = some .local ∧
    (x == ("__debug__" : Str)) = false ∧ (sf == ("__debug__" : Str)) = false ∧ (∀ env : Env, attributeBase (.Name sf p2) attr env (eval (.Name sf p2) env) = eval (.Name sf p2) env) ∧ (∀ (env : Env) (v : Value), foldedSetIterable (.Attribute (.Name sf p2) attr p3) env v = pure v) ∧
    Meth K (ci c).1 m f ∧ Binds K fd [sf] [] ∧ AttrOk K ci c attr j ∧ m ∉ (ci c).2
def fGl (c j : Nat) (fo : QF) : QF := fun Γ S => (fo Γ S).bind fun a => match a with
  | .d (.ins c' fs) => if c' = c then (match fs[j]? with
    | some (.lst l) => some (.d (.lst l))
    | _ => none) else none
  | _ => none
section
variable {X : Cx} {ci : Ci} {c j : Nat} {m y : Str} {pt pe pos apos pos' : Pos} {o : Expr} {fo : QF} {scope : Scope}
theorem rp_gl (iy : Nat) {pl : Sem Bool} (G : GenP X.K ci c m j) (hr : Room 2 X.A) (hc : X.calm = true) (hN : X.N.Nodup) (ho : RP ci X o fo) (ok : blkC X.N X.env.scope scope [(y, iy)] = true) (hy : scope.names.lookup y = some .local) (hiy : X.N[iy]? = some y := by rfl) (hdb : (y == ("__debug__" : Str)) = false := by decide +kernel)
    (ht : eval (.Call (.Attribute o m apos) [] [] pos') X.env = (do
      let ov ← eval o X.env
      standAt apos.atName
      let (f, first) ← holding [ov] (getMethod ov m pl)
      callWith pos' f first (backTo pos' (starEach [] X.env)) (backToKw pos' (keywordEach [] X.env))) := by rfl) (hs : ∀ x, foldedSetIterable (.Call (.Attribute o m apos) [] [] pos') X.env x = pure x := by intro _; rfl) :
    RP ci X (.ListComp (.Name y pe) [⟨.Name y pt, .Call (.Attribute o m apos) [] [] pos', [], 0⟩] scope pos) (fGl c j fo) := fun F T Γ S σ H b r q => by
  unfold fGl at q
  cases e1 : fo Γ S with
  | none => rw [e1] at q; cases q
  | some a =>
    rw [e1, Option.bind_some] at q
    split at q
    · rename_i c' fs
      split at q
      · rename_i hcc
        subst hcc
        split at q
        · rename_i l hl
          cases q
          obtain ⟨f, fd, qual, params, sc, x, sf, attr, p1, p2, p3, p4, p5, p6, p7, FD, GS, g1, g2, g3, g4, g5, g6, hm, hB, hA, hno⟩ := G.ex
          obtain ⟨oc, od, dV, kV, doc, pm, an, cdv, ct, osl, rfl, lk, hcd, _, _⟩ := FD.ex
          intro pins s I
          refine gl_core (k := 1) (own := [(y, iy)]) (iy := iy) I.ok hc hN ?_ hr (blkOk_by ok) hy hiy (by simp) hdb hs
          refine PySem.W.methodCall_KW (pl := pl) (thn (ho F T Γ S σ H _ r e1 pins s I) fun u s1 ⟨v, H1, I1, rv, r1⟩ => ?_) ht
          obtain ⟨ρ, r1⟩ := r1
          have R : Rep X.K ci (mu F ρ S) H1 (.ins c' fs) v := r1.top (a := .d (.ins c' fs)) List.mem_cons_self
          have R0 := R
          rw [Rep] at R
          obtain ⟨a, dx, vs, rfl, ha, hna, hlen, R⟩ := R
          obtain rfl : u = Value.ref a := rv
          obtain ⟨wl, hwl, Rl⟩ := R.getD hl
          rw [Rep] at Rl
          obtain ⟨pl', ys, rfl, ⟨hpl, hnp⟩, Ry⟩ := Rl
          refine getmeth_ok I1 ha hA.cl hm (zip_lookup_none hno) ?_
          refine PySem.W.callWith_K0 (first := [.ref a]) I1.kIn hm.kp ?_
          refine wpAny_call (codeAny_mono (gmade_walk (k := 0) lk hcd GS g1 g2 g3 g4 g5 g6 (hr.mono (by omega)) I1.env0 (hB s1 [.ref a] I1.kIn rfl) ha hA.cl hA.no (by rw [zip_lookup hA.nd hA.at_ (List.getElem?_eq_some_iff.mp hwl).1, hwl]) (.inl (.inl hpl))) fun z s2 hz => ?_)
          cases z with
          | error e => exact hz.elim
          | ok fl =>
            cases fl with
            | ret u =>
              refine ⟨H1, s1, ys, pl', I1, .inl (.inl hpl), hz, fun D hD => ?_⟩
              have hmu : D ∉ mu F ρ S := fun hm => by
                rcases List.mem_append.mp hm with hm | hm
                · exact r1.freshM hD hm
                · obtain ⟨n1, n2⟩ := r1.fo _ hm
                  cases eo : F.H D with
                  | none => exact n2 eo
                  | some o => have := r1.ext _ _ eo n1; rw [hD] at this; cases this
              refine ⟨ρ, ((r1.drop fun z hz => List.mem_cons_of_mem _ hz).alloc (o := .lst ys) hD).push (a := .d (.lst l)) ?_⟩
              show Rep X.K ci (mu F ρ S) _ (.lst l) _
              rw [Rep]
              exact ⟨D, ys, rfl, ⟨upd_same, hmu⟩, Reps.mono (fun b o eo n => ⟨by rw [upd_ne (ne_of_none eo hD)]; exact eo, n⟩) _ _ Ry⟩
            | next => exact hz.elim
            | brk => exact hz.elim
            | cont => exact hz.elim
        · cases q
      · cases q
    · cases q
end
end LP
set_option maxHeartbeats 2000000
namespace LP
open PySem PySem.Spec PyProof.Rows L2 StX
def fNotO (c : Nat) (G : PC) (f : QF) : QF := fun Γ S => (f Γ S).bind fun a => match a with
  | .d (.ins c' fs) => if c' = c then (match G [.ins c' fs] with
    | some (.ok (.bl b)) => some (.d (.bl (!b)))
    | _ => none) else none
  | _ => none
section
variable {ci : Ci} {X : Cx}
theorem re_makeS {k c : Nat} {x : Str} {p pos : Pos} {e : Expr} {es : List Expr} {G : PI'} {ws : WAs} (C : MakeS X.prog X.w X.K X.mg X.base ci k x c G) (hr : Room (k + 1) X.A) (hg : Gl X x) (ha : RA ci X (e :: es) ws)
    (hdb : (x == ("__debug__" : Str)) = false := by decide +kernel) (he : starEach (e :: es) X.env = (false, eval e X.env) :: starEach es X.env := by rfl) (hpl : (backTo pos (starEach es X.env)).any (·.1) = false := by kernel_rfl) : RE ci X (.Call (.Name x p) (e :: es) [] pos) (wMake c [] G ws) := fun F ex xo T Γ S σ H Q r q => by
  obtain ⟨f, h1, h2, h3⟩ := C.ex
  refine wpX_of (pe_makeR (E := fun cls d H => ExW F ex cls d H) h2 h1 hr hg h3 (passX xo) pa_wp hdb he hpl) (wpA_mono (ha F ex xo T Γ S σ H _ r q) fun vs H' ⟨as, S1, hz, _, r1, l, o, e1, e2, q1⟩ x dx hx hdx hne => ?_)
  rw [dataOf_eq e1] at r1 hz
  have := make_of (dfl := []) (Q := VEnd F T Γ σ Q) (E := fun cls d H => ExW F ex cls d H) r1 (by simpa using hz) (fun q hq => List.mem_append_left _ hq) rfl e2 hx hdx hne (fun fs ef => by subst ef; exact C.len _ _ e2) (fun d' ed H2 r2 => by subst ed; exact ⟨_, S1, r2.drop dropA, q1⟩) fun er ee cls dd H2 ⟨ρ, r2, hE⟩ => by
    subst ee; exact ⟨er, S1, ρ, (r2.bare).drop (fun x hx => by cases hx), hE, q1⟩
  rw [List.map_nil, List.append_nil] at this
  exact this
theorem rp_notO {k c : Nat} {G : PC} {a : Expr} {fo : QF} {pos : Pos} (M : MethP X.prog X.w X.K X.mg X.base ci k c "__bool__" [] (spP X.K ci G)) (hr : Room k X.A) (ha : RP ci X a fo) : RP ci X (.UnaryOp .Not a pos) (fNotO c G fo) := fun F T Γ S σ H b r q => by
  unfold fNotO at q
  cases e1 : fo Γ S with
  | none => rw [e1] at q; cases q
  | some y =>
    rw [e1, Option.bind_some] at q
    split at q
    · rename_i c' fs
      split at q
      · rename_i hcc
        subst hcc
        split at q
        · rename_i bb hG
          cases q
          obtain ⟨f, fd, ps, ds, h1, h2, h3, h4, h5, h6, h7⟩ := M.ex
          cases h6
          intro pins s I
          refine UnaryOp_ (thn (ha F T Γ S σ H _ r e1 pins s I) fun u s1 ⟨v, H1, I1, rv, r1⟩ => ?_)
          obtain ⟨ρ1, q1⟩ := id r1
          obtain ⟨p, dx, vs, rfl, hp⟩ := ins_at (q1.top (a := .d (.ins c' fs)) List.mem_cons_self)
          obtain rfl : u = Value.ref p := rv
          obtain ⟨mA, J, _⟩ := ins_get I1.hok hp
          obtain ⟨od, J, _⟩ := J.look
          obtain ⟨m, hF⟩ := I1.fr
          have hsp : spP X.K ci G [.ref p] H1 (fun v H' => v = .bl bb ∧ Rel F T Γ S σ H') (fun _ _ _ => False) := spP_of (l := [.ins c' fs]) (vs := [.ref p]) (dfl := []) (o := .ok (.bl bb)) r1 rfl (fun q hq => by simp at hq; simp [hq]) rfl (by simpa using hG) (fun d' ed v H3 r3 => by
            cases ed
            exact ⟨r3.asBl List.mem_cons_self, r3.drop fun z hz => List.mem_cons_of_mem _ (List.mem_cons_of_mem _ hz)⟩) fun er z => by cases z
          refine not_of (PySem.W.truthy_K hF I1.ok.mod.kin J h3.at_ h3.fn (wpAny_call (codeAny_mono (h1.run X.A X.stack s1 H1 ⟨[.ref p], []⟩ [.ref p] [.ref p] _ _ hr I1.env0 (by
            have := h5 s1 [.ref p] I1.kIn (by simpa using h1.len _ _ _ _ hsp)
            simpa using this) (.cons rfl .nil) hsp) fun z s2 hz => ?_)))
          cases z with
          | error e => exact passL pins σ H1 s1 e s2 I1 hz
          | ok fl =>
            cases fl with
            | ret w =>
              obtain ⟨v', H2, I2, rv, rfl, r2⟩ := I1.after hz
              cases (show w = Value.bool bb from rv)
              exact ⟨.bl (!bb), H2, I2, rfl, r2.bl _⟩
            | next => cases hz
            | brk => cases hz
            | cont => cases hz
        · cases q
      · cases q
    · cases q
end
end LP
set_option maxHeartbeats 2000000
namespace LP
open PySem PySem.Spec PyProof.Rows L2 He
def bitM (m a : Nat) : Bool := Nat.beq (Nat.land (Nat.shiftRight m a) 1) 1
/-- the new ones of some addresses, and the mask with them -/
def addM (m : Nat) (acc : List Addr) : List Addr → Nat × List Addr
  | [] => (m, acc)
  | b :: bs => match bitM m b with
    | true => addM m acc bs
    | false => addM (Nat.lor m (Nat.shiftLeft 1 b)) (b :: acc) bs
def refsM (g : Addr → Option Obj) : List Addr → List Addr
  | [] => []
  | a :: as => match g a with
    | some o => refsD o ++ refsM g as
    | none => refsM g as
def growM (g : Addr → Option Obj) : Nat → Nat → List Addr → List Addr
  | 0, _, fr => fr
  | n + 1, m, fr => match addM m [] (refsM g fr) with
    | (m', new) => fr ++ growM g n m' new
def asM (g : Addr → Option Obj) (n : Nat) : List Addr := match addM 0 [] [cStatics, mainGlobals] with
  | (m, fr) => growM g n m fr
end LP
set_option maxHeartbeats 2000000
namespace LP
open PySem PySem.Spec PyProof.Rows L2 He
def fragTM (n : Nat) (g : Addr → Option Obj) : PySem.W.Frag := frG g (asM g n)
def obsTMG (n : Nat) (fa : List FaE) (fn : List DefE) (g : Addr → Option Obj) : AlD :=
  let K0 := fragTM n g
  let cT := codT K0 "law"
  let K := without cT.2 K0
  let r := LP.obsE fa fn K
  (emptyT (g cT.2) && (PySem.W.codeHdIn K cT.1 cT.2 && funC K "law" cT.1) && r.1, r.2)
theorem obsTMG_says {n : Nat} {fa : List FaE} {fn : List DefE} {h : Heap} (e : obsTMG n fa fn h.get? = LP.valE fn) : ∃ K c T, SaysT fa fn h K c T := by
  have e1 : (emptyT (h.get? (codT (fragTM n h.get?) "law").2) && (PySem.W.codeHdIn (without (codT (fragTM n h.get?) "law").2 (fragTM n h.get?)) (codT (fragTM n h.get?) "law").1 (codT (fragTM n h.get?) "law").2 && funC (without (codT (fragTM n h.get?) "law").2 (fragTM n h.get?)) "law" (codT (fragTM n h.get?) "law").1) && (LP.obsE fa fn (without (codT (fragTM n h.get?) "law").2 (fragTM n h.get?))).1) = true := congrArg (fun z : AlD => z.1) e
  have e2 : (LP.obsE fa fn (without (codT (fragTM n h.get?) "law").2 (fragTM n h.get?))).2 = fn.map DefE.val := congrArg (fun z : AlD => z.2) e
  obtain ⟨e3, e4⟩ := ba e1
  obtain ⟨e5, e6⟩ := ba e3
  obtain ⟨e7, e8⟩ := ba e6
  refine ⟨without (codT (fragTM n h.get?) "law").2 (fragTM n h.get?), (codT (fragTM n h.get?) "law").1, (codT (fragTM n h.get?) "law").2, fun a o z => frG_in a o (without_look z).1, ?_, ?_, emptyT_ok e5, e7, e8⟩
  · show LP.obsE fa fn _ = (true, fn.map DefE.val)
    rw [← e4, ← e2]
  · cases z : (without (codT (fragTM n h.get?) "law").2 (fragTM n h.get?)).lookup (codT (fragTM n h.get?) "law").2 with
    | none => rfl
    | some o => exact absurd rfl (without_look z).2
def hookTM (n : Nat) (fa : List FaE) (fn : List DefE) : PySem.W.Hook where
  α := AlD
  obs := fun s => obsTMG n fa fn s.heap.get?
  val := fun _ => LP.valE fn
  says := fun _ h => ∃ K c T, SaysT fa fn h K c T
  of := fun _ _ e => obsTMG_says e
  keeps := fun _ _ _ ⟨K, c, T, h1, h2, h3, h4, h5, h6⟩ k => ⟨K, c, T, PySem.W.Frag.In.keeps h1 k, h2, h3, k _ _ h4, h5, h6⟩
theorem obsTMG_eq {n : Nat} {fa : List FaE} {fn : List DefE} {g : Addr → Option Obj} {s : Shared} (h : ∀ a, g a = s.heap.get? a) : obsTMG n fa fn g = (hookTM n fa fn).obs s := by
  have e : g = s.heap.get? := funext h
  rw [e] <;> rfl
end LP
set_option maxHeartbeats 0
namespace K
open PySem PySem.Spec PyProof.Rows L2 LP
def topS (i : Nat) : Stmt := PySem.Challenge.pw_lumplooks_k03_letters_by_membership.main.body.getD i (.Pass ⟨0, 0, 0, 0⟩)
end K
namespace Hd
open PySem PySem.Spec PyProof.Rows L2 LP K
def d0 : DefE := ⟨.fn ("InvalidSpan", some "__init__"), "__init__", "InvalidSpan.__init__", defArgs (inClass (topS 4) 0), defBody (inClass (topS 4) 0), defScope (inClass (topS 4) 0), [], true⟩
def d1 : DefE := ⟨.fn ("is_number", none), "is_number", "is_number", defArgs (topS 11), defBody (topS 11), defScope (topS 11), [.int 0, .int 999999999999999999], false⟩
def d2 : DefE := ⟨.fn ("is_span", none), "is_span", "is_span", defArgs (topS 14), defBody (topS 14), defScope (topS 14), [], false⟩
def d3 : DefE := ⟨.fn ("joined", none), "joined", "joined", defArgs (topS 15), defBody (topS 15), defScope (topS 15), [], false⟩
def d4 : DefE := ⟨.fn ("span_text", none), "span_text", "span_text", defArgs (topS 16), defBody (topS 16), defScope (topS 16), [], false⟩
def d5 : DefE := ⟨.fn ("Letter", some "__init__"), "__init__", "Letter.__init__", defArgs (inClass (topS 20) 1), defBody (inClass (topS 20) 1), defScope (inClass (topS 20) 1), [], false⟩
def d6 : DefE := ⟨.fn ("Letter", some "runs"), "runs", "Letter.runs", defArgs (inClass (topS 20) 2), defBody (inClass (topS 20) 2), defScope (inClass (topS 20) 2), [], false⟩
def d7 : DefE := ⟨.fn ("Letter", some "walk"), "walk", "Letter.walk", defArgs (inClass (topS 20) 3), defBody (inClass (topS 20) 3), defScope (inClass (topS 20) 3), [], false⟩
def d8 : DefE := ⟨.prop "Letter" "many", "many", "Letter.many", defArgs (inClass (topS 20) 4), defBody (inClass (topS 20) 4), defScope (inClass (topS 20) 4), [], false⟩
def d9 : DefE := ⟨.fn ("Letter", some "text"), "text", "Letter.text", defArgs (inClass (topS 20) 7), defBody (inClass (topS 20) 7), defScope (inClass (topS 20) 7), [], false⟩
def d10 : DefE := ⟨.fn ("Letter", some "__contains__"), "__contains__", "Letter.__contains__", defArgs (inClass (topS 20) 10), defBody (inClass (topS 20) 10), defScope (inClass (topS 20) 10), [], false⟩
def d11 : DefE := ⟨.fn ("Letter", some "__bool__"), "__bool__", "Letter.__bool__", defArgs (inClass (topS 20) 15), defBody (inClass (topS 20) 15), defScope (inClass (topS 20) 15), [], false⟩
def d12 : DefE := ⟨.fn ("Letter", some "__repr__"), "__repr__", "Letter.__repr__", defArgs (inClass (topS 20) 16), defBody (inClass (topS 20) 16), defScope (inClass (topS 20) 16), [], false⟩
def d13 : DefE := ⟨.fn ("_law_bag", none), "_law_bag", "_law_bag", defArgs (topS 22), defBody (topS 22), defScope (topS 22), [], false⟩
def d14 : DefE := ⟨.fn ("_law_pull", none), "_law_pull", "_law_pull", defArgs (topS 23), defBody (topS 23), defScope (topS 23), [], false⟩
def d15 : DefE := ⟨.fn ("_law_pick", none), "_law_pick", "_law_pick", defArgs (topS 24), defBody (topS 24), defScope (topS 24), [], false⟩
def d16 : DefE := ⟨.fn ("_law_same", none), "_law_same", "_law_same", defArgs (topS 25), defBody (topS 25), defScope (topS 25), [], false⟩
def d17 : DefE := ⟨.fn ("_law_field", none), "_law_field", "_law_field", defArgs (topS 26), defBody (topS 26), defScope (topS 26), [], false⟩
def d18 : DefE := ⟨.fn ("_law_why", none), "_law_why", "_law_why", defArgs (topS 27), defBody (topS 27), defScope (topS 27), [], false⟩
def d19 : DefE := ⟨.fn ("_law_whys", none), "_law_whys", "_law_whys", defArgs (topS 28), defBody (topS 28), defScope (topS 28), [], false⟩
def d20 : DefE := ⟨.fn ("_law_odd", none), "_law_odd", "_law_odd", defArgs (topS 29), defBody (topS 29), defScope (topS 29), [], false⟩
def d21 : DefE := ⟨.fn ("_law_in", none), "_law_in", "_law_in", defArgs (topS 30), defBody (topS 30), defScope (topS 30), [], false⟩
def d22 : DefE := ⟨.fn ("_law_runs", none), "_law_runs", "_law_runs", defArgs (topS 31), defBody (topS 31), defScope (topS 31), [], false⟩
def d23 : DefE := ⟨.fn ("_law_letter", none), "_law_letter", "_law_letter", defArgs (topS 32), defBody (topS 32), defScope (topS 32), [], false⟩
def d24 : DefE := ⟨.fn ("_law_span", none), "_law_span", "_law_span", defArgs (topS 33), defBody (topS 33), defScope (topS 33), [], false⟩
def d25 : DefE := ⟨.fn ("_law_spans", none), "_law_spans", "_law_spans", defArgs (topS 34), defBody (topS 34), defScope (topS 34), [], false⟩
def d26 : DefE := ⟨.fn ("_law_near", none), "_law_near", "_law_near", defArgs (topS 35), defBody (topS 35), defScope (topS 35), [], false⟩
def d27 : DefE := ⟨.fn ("_law_span_text", none), "_law_span_text", "_law_span_text", defArgs (topS 36), defBody (topS 36), defScope (topS 36), [], false⟩
def d28 : DefE := ⟨.fn ("_law_runs_text", none), "_law_runs_text", "_law_runs_text", defArgs (topS 37), defBody (topS 37), defScope (topS 37), [], false⟩
def d29 : DefE := ⟨.fn ("law", none), "law", "law", defArgs (topS 38), defBody (topS 38), defScope (topS 38), [], false⟩
def fn : List DefE := [d0, d1, d2, d3, d4, d5, d6, d7, d8, d9, d10, d11, d12, d13, d14, d15, d16, d17, d18, d19, d20, d21, d22, d23, d24, d25, d26, d27, d28, d29]
def at0 : List Str := ["own_runs"]
def fa : List FaE := [.fa (.glo "is_number"), .fa (.glo "is_span"), .fa (.glo "joined"), .fa (.glo "span_text"), .fa (.glo "_law_bag"), .fa (.glo "_law_pull"), .fa (.glo "_law_pick"), .fa (.glo "_law_same"), .fa (.glo "_law_field"), .fa (.glo "_law_why"), .fa (.glo "_law_whys"), .fa (.glo "_law_odd"), .fa (.glo "_law_in"), .fa (.glo "_law_runs"), .fa (.glo "_law_letter"), .fa (.glo "_law_span"), .fa (.glo "_law_spans"), .fa (.glo "_law_near"), .fa (.glo "_law_span_text"), .fa (.glo "_law_runs_text"), .fa (.glo "law"), .fa (.glo "LumpError"), .fa (.glo "Missing"), .fa (.glo "NothingLeft"), .fa (.glo "InvalidSpan"), .ex (errB "InvalidSpan" "at"), .ex (exoB "InvalidSpan"), .ex (fun K => supOkB "/claim/cut.py" "self" K (d0.at_.ad K) (He.ga K "InvalidSpan")), .fa (.free "all"), .fa (.free "any"), .fa (.free "bool"), .fa (.free "enumerate"), .fa (.free "int"), .fa (.free "isinstance"), .fa (.free "len"), .fa (.free "list"), .fa (.free "max"), .fa (.free "range"), .fa (.free "repr"), .fa (.free "sorted"), .fa (.free "str"), .fa (.free "sum"), .fa (.free "super"), .fa (.free "tuple"), .fa (.free "zip"), .fa (.glo "Letter"), .fa (.cls "Letter"), .fa (.mkr "Letter"), .fa (.noat "Letter" "own_runs"), .fa (.meth "Letter" "runs"), .fa (.meth "Letter" "walk"), .prop "Letter" "many", .fa (.meth "Letter" "text"), .fa (.meth "Letter" "__contains__"), .fa (.meth "Letter" "__bool__"), .fa (.meth "Letter" "__repr__"), .ex (cvalB "Letter" "GREATEST" 999999999999999999)]
abbrev R : PySem.W.OpenRow := PySem.W.OpenLaw.row PySem.Challenge.rw_lumplooks_k03_letters_by_membership
abbrev hk : PySem.W.Hook := hookTM 6 fa fn
def ob (s : PySem.W.SharedT) : He.AlD := obsTMG 6 fa fn (HandSHeadRun.getT s)
theorem ob_eq (s : PySem.W.SharedT) : ob s = hk.obs s.abs := obsTMG_eq (HandSHeadRun.getT_eq s)
def loose0 : List Str := ["_wall", "LumpError", "Missing", "InvalidSpan", "InvalidText", "NothingLeft", "GREATEST", "MOST_FIGURES", "FIGURES", "is_number", "number_in", "is_span", "joined", "span_text", "read_span", "read_term", "outside", "Letter", "_law_bag", "_law_pull", "_law_pick", "_law_same", "_law_field", "_law_why", "_law_whys"]
def loose25 : List Str := ["_law_odd", "_law_in", "_law_runs", "_law_letter", "_law_span", "_law_spans", "_law_near", "_law_span_text", "_law_runs_text"]
abbrev loose : List Str := loose0 ++ loose25
theorem opt3 {α β γ δ : Type} {o : Option α} {f : α → β} {g : α → γ} {h : α → δ} {x : β} {y : γ} {z : δ} (h1 : o.map f = some x) (h2 : o.map g = some y) (h3 : o.map h = some z) : o.map (fun s => (f s, g s, h s)) = some (x, y, z) := by
  cases o with
  | none => cases h1
  | some s => cases h1; cases h2; cases h3; rfl
open HandSHeadRun PySem PySem.W PySem.Calls PyProof.Rows in
theorem qC (w : World) (os : OsState) : (endF (stepQ (denQ tabQ) R.prog w) 6000 R.prog w os).map (fun s => ob s) = some (hk.val w) := by kernel_rfl
open HandSHeadRun PySem PySem.W PySem.Calls PyProof.Rows in
theorem qA (w : World) (os : OsState) : (endF (stepQ (denQ tabQ) R.prog w) 6000 R.prog w os).map (fun s => looksF R.prog (boot_heap w.params) s.abs) = some true := by kernel_rfl
open HandSHeadRun PySem PySem.W PySem.Calls PyProof.Rows in
theorem qB (w : World) (os : OsState) : (endF (stepQ (denQ tabQ) R.prog w) 6000 R.prog w os).map (fun s => seenQ (PySem.W.view R.prog [38]) loose (importedModules R.prog.main.body) (fun s => xlAt (PySem.W.view R.prog [38]) [] s && recOk R.toRowW.records s) s.abs) = some (openGood (PySem.W.view R.prog [38]) loose) := by kernel_rfl
theorem run (w : World) : HandSHeadRun.RunEq R (PySem.W.view R.prog [38]) hk ob 6000 loose w := by
  intro os
  exact opt3 (qA w os) (qB w os) (qC w os)
end Hd
set_option maxHeartbeats 0
namespace K
open PySem PySem.Spec PyProof.Rows L2 LP
/-- alike, n deep -/
def D.sam : Nat → D → Bool
  | _, .non => true | _, .bl _ => true | _, .int _ => true | _, .str _ => true
  | n + 1, .lst l => l.all fun x => D.sam n x
  | n + 1, .tup l => l.all fun x => D.sam n x
  | _, _ => false
open Classical in
noncomputable def G_same (n : Nat) : PC := fun ds => match ds with
  | [x, y] => if x = y ∧ D.sam n x = true then some (.ok (.bl true)) else none
  | _ => none
/-- the bag: cells, place, pool, state, count -/
def bagMO (cs : List Int) (at_ : Nat) (pool st n : Int) : MO := .lst [.d (.lst (cs.map .int)), .d (.int at_), .d (.int pool), .d (.int st), .d (.int n)]
def Bag (m : MO) : Prop := ∃ cs at_ pool st n, m = bagMO cs at_ pool st n ∧ 0 ≤ st ∧ st < 2147483579 ∧ cs.length ≤ 63
noncomputable def G_prev : Nat → PC
  | 0 => fun _ => none
  | n + 1 => G_same n
def fc_bag : FC := fun as S _ Q => ∃ (k : Nat) (cs : List Int), as = [.loc k] ∧ S[k]? = some (.scr (cs.map .int)) ∧ cs.length ≤ 63 ∧ ∀ m, Bag m → Q (.loc S.length) (S ++ [m])
def fc_pull : FC := fun as S _ Q => ∃ k m many, as = [.loc k, .d (.int many)] ∧ S[k]? = some m ∧ Bag m ∧ 0 < many ∧ many < 1152921504606846976 ∧ ∀ r m', Bag m' → 0 ≤ r → r < many → Q (.d (.int r)) (S.set k m')
/-- the rows of a list or a text -/
def rowsOf : D → Option (List D)
  | .lst l => some l
  | .str s => some (s.cps.toList.map fun c => .str ⟨#[c]⟩)
  | _ => none
def fc_pick : FC := fun as S _ Q => ∃ k m rows l, as = [.loc k, .d rows] ∧ S[k]? = some m ∧ Bag m ∧ rowsOf rows = some l ∧ 0 < l.length ∧ l.length < 1000 ∧ ∀ d m', Bag m' → d ∈ l → Q (.d d) (S.set k m')
abbrev GR : Int := 999999999999999999
def okP (p : PZ) : Bool := decide (0 ≤ p.1 ∧ p.1 ≤ p.2 ∧ p.2 ≤ GR)
def jstep (acc : List PZ) (p : PZ) : List PZ := match acc.getLast? with
  | some q => if p.1 ≤ q.2 + 1 then acc.dropLast ++ [(q.1, max q.2 p.2)] else acc ++ [p]
  | none => [p]
def joinL (l : List PZ) : List PZ := (sortP l).foldl jstep []
def inL (x : Int) (l : List PZ) : Bool := l.any fun p => decide (p.1 ≤ x ∧ x ≤ p.2)
def lenL (l : List PZ) : Int := (l.map fun p => p.2 - p.1 + 1).sum
def oks (n : Nat) (l : List PZ) : Bool := l.all okP && decide (l.length ≤ n)
/-- a letter with these runs -/
def ltr (rs : List PZ) : D := .ins 0 [.lst (rs.map pzD)]
def runsOf : D → Option (List PZ)
  | .ins 0 [.lst l] => (pairsOf l).bind fun rs => if oks 60 rs = true then some rs else none
  | _ => none
def spansOf : D → Option (List PZ)
  | .lst l => (pairsOf l).bind fun rs => if oks 60 rs = true then some rs else none
  | .tup l => (pairsOf l).bind fun rs => if oks 60 rs = true then some rs else none
  | _ => none
def isNumD : D → Option Bool
  | .int n => some (decide (0 ≤ n ∧ n ≤ GR))
  | .ins _ _ => none
  | .fn _ => none
  | .exc _ _ _ => none
  | _ => some false
def G_is_number : PC := fun ds => match ds with
  | [v, .int lo, .int hi] => match v with
    | .int n => some (.ok (.bl (decide (lo ≤ n ∧ n ≤ hi))))
    | .ins _ _ => none
    | .fn _ => none
    | .exc _ _ _ => none
    | _ => some (.ok (.bl false))
  | _ => none
def leD : D → D → Bool
  | .int i, .int j => decide (i ≤ j)
  | _, _ => false
def spanB : D → Option Bool
  | .tup [a, b] => (isNumD a).bind fun x => (isNumD b).map fun y => x && (y && leD a b)
  | .tup l => if l.length ≤ 100 then some false else none
  | .non => some false | .bl _ => some false | .int _ => some false | .str _ => some false | .lst _ => some false
  | _ => none
def G_is_span : PC := fun ds => match ds with
  | [d] => (spanB d).map fun b => .ok (.bl b)
  | _ => none
def G_joined : PC := fun ds => match ds with
  | [d] => (spansOf d).map fun ps => .ok (.lst ((joinL ps).map pzD))
  | _ => none
def eSpan (i : Nat) : Er := ⟨1, [("at", .int i), ("code", .str "InvalidSpan")]⟩
/-- the first that is no span -/
def badAt : List D → Nat → Option Nat
  | [], _ => none
  | d :: l, i => match spanB d with
    | some true => badAt l (i + 1)
    | some false => some i
    | none => none
def G_init : PI' := fun ds => match ds with
  | [.tup l] => match spansOf (.tup l) with
    | some ps => some (.ok [.lst ((joinL ps).map pzD)])
    | none => (badAt l 0).map fun i => .error (eSpan i)
  | _ => none
def G_Letter : PI' := packI G_init
def G_runs : PC := fun ds => match ds with
  | [d] => (runsOf d).map fun rs => .ok (.lst (rs.map pzD))
  | _ => none
def fc_runsN : FC := fun as S _ Q => ∃ rs, as = [.d (ltr rs)] ∧ oks 60 rs = true ∧ Q (.loc S.length) (S ++ [.lst ((rs.map pzD).map A.d)])
def mt_runsN : Nat → Option (List D × FC)
  | 0 => some ([], fc_runsN)
  | _ => none
def G_many : PC := fun ds => match ds with
  | [d] => (runsOf d).map fun rs => .ok (.int (lenL rs))
  | _ => none
def pt_many : Nat → Option PC
  | 0 => some G_many
  | _ => none
def G_contains : PC := fun ds => match ds with
  | [d, v] => (runsOf d).bind fun rs => match v with
    | .int x => some (.ok (.bl (decide (0 ≤ x ∧ x ≤ GR) && inL x rs)))
    | v => (isNumD v).map fun _ => .ok (.bl false)
  | _ => none
def G_bool : PC := fun ds => match ds with
  | [d] => (runsOf d).map fun rs => .ok (.bl (!rs.isEmpty))
  | _ => none
noncomputable def gBoolK (S : So) (as : List A) : Option D := match as with
  | [.d (.ins c fs)] => gOwnBool 0 G_bool S [.d (.ins c fs)]
  | as => gBoolL S as
theorem c_boolK {ci : Ci} {X : Cx} (M : MethP X.prog X.w X.K X.mg X.base ci 1 0 "__bool__" [] (spP X.K ci G_bool)) {j : Nat} (hr : Room j X.A) (hj : 3 ≤ j := by omega) : CallG ci X (.type "bool") gBoolK := c_boolL.or (cg_bool M (hr.mono hj)) fun S as d e => by
  unfold gBoolK at e
  split at e
  · exact .inr e
  · exact .inl e
def itos (i : Int) : Str := toString i
def stext (a b : Int) : Str := if a = b then itos a else itos a ++ "-" ++ itos b
def rtext (rs : List PZ) : Str := if rs = [] then "none" else Str.join "; " (rs.map fun p => stext p.1 p.2)
def big (i : Int) : Bool := decide (-1000000000000000000000 < i ∧ i < 1000000000000000000000)
def bigP (p : PZ) : Bool := big p.1 && big p.2
def G_stext : PC := fun ds => match ds with
  | [.int a, .int b] => if (big a && big b) = true then some (.ok (.str (stext a b))) else none
  | _ => none
def G_text : PC := fun ds => match ds with
  | [d] => (runsOf d).map fun rs => .ok (.str (rtext rs))
  | _ => none
def reprS (rs : List PZ) : Str := "Letter(" ++ rtext rs ++ ")"
def G_repr : PC := fun ds => match ds with
  | [d] => (runsOf d).map fun rs => .ok (.str (reprS rs))
  | _ => none
def mt_text : Nat → Option (List D × PC)
  | 0 => some ([], G_text)
  | _ => none
def mt_runs : Nat → Option (List D × PC)
  | 0 => some ([], G_runs)
  | _ => none
noncomputable def gReprK : So → List A → Option D := gOwnS 0 G_repr
theorem c_reprK {ci : Ci} {X : Cx} (M : MethP X.prog X.w X.K X.mg X.base ci 4 0 "__repr__" [] (spP X.K ci G_repr)) {j : Nat} (hr : Room j X.A) (hj : 5 ≤ j := by omega) : CallG ci X (.builtin "repr") gReprK := cg_repr M (hr.mono hj)
def prs (n : Nat) (l : List D) : Option (List PZ) := (pairsOf l).bind fun ps => if (ps.all bigP && decide (ps.length ≤ n)) = true then some ps else none
def G_rtext : PC := fun ds => match ds with
  | [.lst l] => (prs 60 l).map fun rs => .ok (.str (rtext rs))
  | _ => none
def G_in : PC := fun ds => match ds with
  | [.int x, .lst l] => (spansOf (.lst l)).map fun ps => .ok (.bl (inL x ps))
  | _ => none
def G_letter : PC := fun ds => match ds with
  | [.lst l] => (spansOf (.lst l)).bind fun ps => if ps.length ≤ 3 then some (.ok (ltr (joinL ps))) else none
  | _ => none
def nearL (ps : List PZ) : List Int := (0 :: GR :: ps.flatMap fun p => [p.1 - 1, p.1, p.2, p.2 + 1]).filter fun x => decide (0 ≤ x ∧ x ≤ GR)
def G_near : PC := fun ds => match ds with
  | [.lst l] => (spansOf (.lst l)).bind fun ps => if ps.length ≤ 3 then some (.ok (.lst ((nearL ps).map .int))) else none
  | _ => none
/-- a span near base -/
def near (base : Int) (p : PZ) : Prop := base ≤ p.1 ∧ p.1 ≤ p.2 ∧ p.2 ≤ base + 16
def fc_span : FC := fun as S _ Q => ∃ k m base, as = [.loc k, .d (.int base)] ∧ S[k]? = some m ∧ Bag m ∧ ∀ p m', Bag m' → near base p → Q (.d (pzD p)) (S.set k m')
def fc_spans : FC := fun as S _ Q => ∃ k m, as = [.loc k] ∧ S[k]? = some m ∧ Bag m ∧ ∀ (ps : List PZ) m', Bag m' → (∀ p ∈ ps, okP p = true) → ps.length ≤ 3 → Q (.d (.lst (ps.map pzD))) (S.set k m')
def oddL : List D := [.non, .bl true, .int (-1), .int 1000000000000000000, .str "", .str "A", .str "abcdefghi", .lst [.int 1], .tup [.int 1, .str "a"], .str "1 "]
def fc_odd : FC := fun as S _ Q => ∃ k m, as = [.loc k] ∧ S[k]? = some m ∧ Bag m ∧ ∀ d m', Bag m' → d ∈ oddL → Q (.d d) (S.set k m')
/-- errors by their attribute and code -/
def errL : List (Str × Str) := [("at", "InvalidSpan"), ("at", "InvalidSeat"), ("at", "InvalidRecord"), ("at", "Clash"), ("at", "Contradiction"), ("at", "InvalidCommand"), ("name", "DuplicateName"), ("name", "NotAThing"), ("name", "UnknownName"), ("most", "TooMany"), ("limit", "Full"), ("line", "InvalidPage"),
  ("given", "InvalidNumber"), ("given", "InvalidName"), ("given", "InvalidText"), ("given", "DuplicateNumber"), ("given", "InvalidRule"), ("given", "InvalidLimit")]
def G_field : FieldC := fun fs => match fs with
  | [(f, d), (c, .str x)] => if c = "code" ∧ (f, x) ∈ errL then some (.tup [d]) else none
  | _ => none
theorem hu_of {A : Around} (h : L2H.RoomH 0 A) : A.units + 64 < cLine := by have := h.un; omega
end K
set_option maxHeartbeats 400000
namespace K
open PySem PySem.Spec PyProof.Rows L2 LP
/-- runs behind one another, apart, the ends in order -/
def Canon : List PZ → Prop
  | [] => True
  | [p] => p.1 ≤ p.2
  | p :: q :: r => p.1 ≤ p.2 ∧ p.2 + 1 < q.1 ∧ Canon (q :: r)
/-- x is in one -/
def mem (x : Int) (l : List PZ) : Prop := ∃ p ∈ l, p.1 ≤ x ∧ x ≤ p.2
theorem inL_iff {x : Int} {l : List PZ} : inL x l = true ↔ mem x l := by
  unfold inL mem
  rw [List.any_eq_true]
  constructor
  · rintro ⟨p, hp, h⟩; exact ⟨p, hp, of_decide_eq_true h⟩
  · rintro ⟨p, hp, h⟩; exact ⟨p, hp, decide_eq_true h⟩
theorem mem_append {x : Int} {a b : List PZ} : mem x (a ++ b) ↔ mem x a ∨ mem x b := by
  unfold mem
  constructor
  · rintro ⟨p, hp, h⟩
    rcases List.mem_append.mp hp with hp | hp
    · exact .inl ⟨p, hp, h⟩
    · exact .inr ⟨p, hp, h⟩
  · rintro (⟨p, hp, h⟩ | ⟨p, hp, h⟩)
    · exact ⟨p, List.mem_append_left _ hp, h⟩
    · exact ⟨p, List.mem_append_right _ hp, h⟩
theorem mem_perm {x : Int} {a b : List PZ} (h : a.Perm b) : mem x a ↔ mem x b := by
  unfold mem
  constructor
  · rintro ⟨p, hp, e⟩; exact ⟨p, h.mem_iff.mp hp, e⟩
  · rintro ⟨p, hp, e⟩; exact ⟨p, h.mem_iff.mpr hp, e⟩
theorem mem_cons {x : Int} {p : PZ} {l : List PZ} : mem x (p :: l) ↔ (p.1 ≤ x ∧ x ≤ p.2) ∨ mem x l := by
  unfold mem
  constructor
  · rintro ⟨q, hq, e⟩
    rcases List.mem_cons.mp hq with rfl | hq
    · exact .inl e
    · exact .inr ⟨q, hq, e⟩
  · rintro (e | ⟨q, hq, e⟩)
    · exact ⟨p, List.mem_cons_self, e⟩
    · exact ⟨q, List.mem_cons_of_mem _ hq, e⟩
theorem mem_nil {x : Int} : ¬ mem x [] := by rintro ⟨p, hp, _⟩; cases hp
theorem canon_tl {p : PZ} {l : List PZ} (h : Canon (p :: l)) : Canon l := by
  cases l with
  | nil => trivial
  | cons q r => exact h.2.2
theorem canon_hd {p : PZ} {l : List PZ} (h : Canon (p :: l)) : p.1 ≤ p.2 := by
  cases l with
  | nil => exact h
  | cons q r => exact h.1
/-- what stands behind the first run lies apart -/
theorem canon_far {p : PZ} : ∀ {l : List PZ}, Canon (p :: l) → ∀ x, mem x l → p.2 + 1 < x
  | [], _, x, h => (mem_nil h).elim
  | q :: r, h, x, hx => by
    have h1 := canon_hd h.2.2
    rcases mem_cons.mp hx with e | e
    · have := h.2.1; omega
    · have := canon_far h.2.2 x e
      have := h.2.1
      omega
/-- the runs are told by the numbers -/
theorem canon_uniq : ∀ {a b : List PZ}, Canon a → Canon b → (∀ x, mem x a ↔ mem x b) → a = b
  | [], [], _, _, _ => rfl
  | [], q :: b, _, hb, h => by
    have := (h q.1).mpr (mem_cons.mpr (.inl ⟨Int.le_refl _, canon_hd hb⟩))
    exact (mem_nil this).elim
  | p :: a, [], ha, _, h => by
    have := (h p.1).mp (mem_cons.mpr (.inl ⟨Int.le_refl _, canon_hd ha⟩))
    exact (mem_nil this).elim
  | p :: a, q :: b, ha, hb, h => by
    have hp := canon_hd ha
    have hq := canon_hd hb
    have fa := canon_far ha
    have fb := canon_far hb
    have e1 : p.1 = q.1 := by
      have i1 := (h p.1).mp (mem_cons.mpr (.inl ⟨Int.le_refl _, hp⟩))
      have i2 := (h q.1).mpr (mem_cons.mpr (.inl ⟨Int.le_refl _, hq⟩))
      rcases mem_cons.mp i1 with z | z <;> rcases mem_cons.mp i2 with w | w
      · omega
      · have := fa _ w; omega
      · have := fb _ z; omega
      · have := fa _ w; have := fb _ z; omega
    have e2 : p.2 = q.2 := by
      rcases Int.lt_trichotomy p.2 q.2 with c | c | c
      · have i := (h (p.2 + 1)).mpr (mem_cons.mpr (.inl ⟨by omega, by omega⟩))
        rcases mem_cons.mp i with z | z
        · omega
        · have := fa _ z; omega
      · exact c
      · have i := (h (q.2 + 1)).mp (mem_cons.mpr (.inl ⟨by omega, by omega⟩))
        rcases mem_cons.mp i with z | z
        · omega
        · have := fb _ z; omega
    have e : p = q := Prod.ext e1 e2
    subst e
    rw [canon_uniq (canon_tl ha) (canon_tl hb) fun x => ?_]
    constructor
    · intro hx
      have := fa x hx
      rcases mem_cons.mp ((h x).mp (mem_cons.mpr (.inr hx))) with z | z
      · omega
      · exact z
    · intro hx
      have := fb x hx
      rcases mem_cons.mp ((h x).mpr (mem_cons.mpr (.inr hx))) with z | z
      · omega
      · exact z
theorem canon_snoc {p : PZ} (hp : p.1 ≤ p.2) : ∀ {l : List PZ}, Canon l → (∀ q, l.getLast? = some q → q.2 + 1 < p.1) → Canon (l ++ [p])
  | [], _, _ => hp
  | [q], h, hl => ⟨h, hl q rfl, hp⟩
  | q :: r :: l, h, hl => ⟨h.1, h.2.1, canon_snoc hp (l := r :: l) h.2.2 fun z hz => hl z (by rw [List.getLast?_cons_cons]; exact hz)⟩
theorem canon_init : ∀ {l : List PZ} {q : PZ}, Canon (l ++ [q]) → Canon l ∧ q.1 ≤ q.2 ∧ ∀ z, l.getLast? = some z → z.2 + 1 < q.1
  | [], q, h => ⟨trivial, h, fun z hz => by cases hz⟩
  | [p], q, h => ⟨h.1, h.2.2, fun z hz => by cases hz; exact h.2.1⟩
  | p :: r :: l, q, h => by
    obtain ⟨h1, h2, h3⟩ := canon_init (l := r :: l) h.2.2
    exact ⟨⟨h.1, h.2.1, h1⟩, h2, fun z hz => h3 z (by rw [List.getLast?_cons_cons] at hz; exact hz)⟩
theorem last_split {l : List PZ} {q : PZ} (h : l.getLast? = some q) : l = l.dropLast ++ [q] := by
  have hne : l ≠ [] := by rintro rfl; cases h
  rw [List.getLast?_eq_some_getLast hne] at h
  cases h
  exact (List.dropLast_concat_getLast hne).symm
theorem jstep_canon {acc : List PZ} {p : PZ} (h : Canon acc) (hp : p.1 ≤ p.2) (hs : ∀ q, acc.getLast? = some q → q.1 ≤ p.1) : Canon (jstep acc p) := by
  unfold jstep
  split
  · rename_i q hq
    have hsp := last_split hq
    have h' := h
    rw [hsp] at h'
    obtain ⟨c1, c2, c3⟩ := canon_init h'
    split
    · rename_i hc
      refine canon_snoc (p := (q.1, max q.2 p.2)) (by show q.1 ≤ max q.2 p.2; omega) c1 c3
    · rename_i hc
      refine canon_snoc hp h fun z hz => ?_
      rw [hq] at hz
      cases hz
      omega
  · exact hp
theorem jstep_last {acc : List PZ} {p : PZ} (hs : ∀ q, acc.getLast? = some q → q.1 ≤ p.1) : ∃ q, (jstep acc p).getLast? = some q ∧ q.1 ≤ p.1 := by
  unfold jstep
  split
  · rename_i q hq
    split
    · exact ⟨_, List.getLast?_concat .., hs q hq⟩
    · exact ⟨_, List.getLast?_concat .., Int.le_refl _⟩
  · exact ⟨p, rfl, Int.le_refl _⟩
theorem jstep_mem {acc : List PZ} {p : PZ} (hp : p.1 ≤ p.2) (hl : ∀ q, acc.getLast? = some q → q.1 ≤ p.1 ∧ q.1 ≤ q.2) (x : Int) : mem x (jstep acc p) ↔ mem x acc ∨ (p.1 ≤ x ∧ x ≤ p.2) := by
  unfold jstep
  split
  · rename_i q hq
    have hsp := last_split hq
    obtain ⟨h1, h2⟩ := hl q hq
    split
    · rename_i hc
      rw [mem_append, mem_cons]
      have e : mem x acc ↔ mem x acc.dropLast ∨ (q.1 ≤ x ∧ x ≤ q.2) := by
        have e1 : mem x acc ↔ mem x (acc.dropLast ++ [q]) := by rw [← hsp]
        rw [e1, mem_append, mem_cons]
        simp [mem_nil]
      rw [e]
      simp only [mem_nil, or_false]
      constructor
      · rintro (z | z)
        · exact .inl (.inl z)
        · by_cases c : x ≤ q.2
          · exact .inl (.inr ⟨z.1, c⟩)
          · refine .inr ⟨by omega, ?_⟩
            have := z.2
            omega
      · rintro ((z | z) | z)
        · exact .inl z
        · exact .inr ⟨z.1, by omega⟩
        · exact .inr ⟨by omega, by omega⟩
    · rw [mem_append, mem_cons]
      simp [mem_nil]
  · rename_i hq
    have : acc = [] := by
      cases acc with
      | nil => rfl
      | cons a b => simp at hq
    subst this
    rw [mem_cons]
    simp [mem_nil]
theorem fold_join : ∀ {l acc : List PZ}, (∀ p ∈ l, p.1 ≤ p.2) → l.Pairwise (fun a b => leP a b = true) → Canon acc → (∀ q, acc.getLast? = some q → ∀ p ∈ l, q.1 ≤ p.1) → Canon (l.foldl jstep acc) ∧ ∀ x, mem x (l.foldl jstep acc) ↔ mem x acc ∨ mem x l
  | [], acc, _, _, hc, _ => ⟨hc, fun x => by simp [mem_nil]⟩
  | p :: l, acc, h, hp, hc, hl => by
    have h1 : p.1 ≤ p.2 := h p List.mem_cons_self
    have hs : ∀ q, acc.getLast? = some q → q.1 ≤ p.1 := fun q hq => hl q hq p List.mem_cons_self
    have c1 := jstep_canon hc h1 hs
    obtain ⟨p1, p2⟩ := List.pairwise_cons.mp hp
    have l2 : ∀ q, (jstep acc p).getLast? = some q → ∀ r ∈ l, q.1 ≤ r.1 := fun q hq r hr => by
      obtain ⟨q', e, k⟩ := jstep_last hs
      rw [hq] at e
      cases e
      have := leP_iff.mp (p1 r hr)
      omega
    obtain ⟨f1, f2⟩ := fold_join (l := l) (acc := jstep acc p) (fun r hr => h r (List.mem_cons_of_mem _ hr)) p2 c1 l2
    refine ⟨f1, fun x => ?_⟩
    have hl2 : ∀ q, acc.getLast? = some q → q.1 ≤ p.1 ∧ q.1 ≤ q.2 := fun q hq => ⟨hs q hq, by
      have hsp := last_split hq
      rw [hsp] at hc
      exact (canon_init hc).2.1⟩
    show mem x (l.foldl jstep (jstep acc p)) ↔ _
    rw [f2 x, jstep_mem h1 hl2, mem_cons, or_assoc]
theorem join_spec {l : List PZ} (h : ∀ p ∈ l, p.1 ≤ p.2) : Canon (joinL l) ∧ ∀ x, mem x (joinL l) ↔ mem x l := by
  obtain ⟨h1, h2⟩ := fold_join (l := sortP l) (acc := []) (fun p hp => h p ((sortP_perm l).mem_iff.mp hp)) (sortP_srt l) trivial (fun q hq => by cases hq)
  refine ⟨h1, fun x => ?_⟩
  show mem x ((sortP l).foldl jstep []) ↔ _
  rw [h2 x]
  simp only [mem_nil, false_or]
  exact mem_perm (sortP_perm l)
theorem jstep_len (acc : List PZ) (p : PZ) : (jstep acc p).length ≤ acc.length + 1 := by
  unfold jstep
  split
  · rename_i q hq
    split
    · have : acc ≠ [] := by rintro rfl; cases hq
      simp <;> omega
    · simp
  · simp
theorem fold_len : ∀ (l acc : List PZ), (l.foldl jstep acc).length ≤ acc.length + l.length
  | [], acc => by simp
  | p :: l, acc => by
    have := fold_len l (jstep acc p)
    have := jstep_len acc p
    simp only [List.foldl_cons, List.length_cons]
    omega
theorem join_len (l : List PZ) : (joinL l).length ≤ l.length := by
  have := fold_len (sortP l) []
  have e := (sortP_perm l).length_eq
  unfold joinL
  simp only [List.length_nil] at this
  omega
theorem canon_ok {l : List PZ} (h : Canon l) (hb : ∀ x, mem x l → 0 ≤ x ∧ x ≤ GR) : ∀ p ∈ l, okP p = true := by
  intro p hp
  have hle : ∀ {l : List PZ}, Canon l → ∀ p ∈ l, p.1 ≤ p.2 := by
    intro l
    induction l with
    | nil => intro _ p hp; cases hp
    | cons q r ih =>
      intro h p hp
      rcases List.mem_cons.mp hp with rfl | hp
      · exact canon_hd h
      · exact ih (canon_tl h) p hp
  have h1 := hle h p hp
  have a := hb p.1 ⟨p, hp, Int.le_refl _, h1⟩
  have b := hb p.2 ⟨p, hp, h1, Int.le_refl _⟩
  exact decide_eq_true ⟨a.1, h1, b.2⟩
theorem ok_le {l : List PZ} (h : ∀ p ∈ l, okP p = true) : ∀ p ∈ l, p.1 ≤ p.2 := fun p hp => (of_decide_eq_true (h p hp)).2.1
theorem ok_mem {l : List PZ} (h : ∀ p ∈ l, okP p = true) (x : Int) (hx : mem x l) : 0 ≤ x ∧ x ≤ GR := by
  obtain ⟨p, hp, e⟩ := hx
  have := of_decide_eq_true (h p hp)
  omega
theorem join_ok {l : List PZ} (h : ∀ p ∈ l, okP p = true) : ∀ p ∈ joinL l, okP p = true := by
  obtain ⟨h1, h2⟩ := join_spec (ok_le h)
  exact canon_ok h1 fun x hx => ok_mem h x ((h2 x).mp hx)
end K
set_option maxHeartbeats 400000
namespace K
open PySem PySem.Spec PyProof.Rows L2 LP
def pyP (p : PZ) : PyData := .tuple [.int p.1, .int p.2]
theorem py_pz (p : PZ) : D.py (pzD p) = some (pyP p) := by
  simp only [pzD, D.py, D.pys, Option.bind_some, Option.map_some, pyP]
theorem pys_pairs : ∀ l : List PZ, D.pys (l.map pzD) = some (l.map pyP)
  | [] => by rw [List.map_nil, D.pys]; rfl
  | s :: l => by rw [List.map_cons, D.pys, pys_pairs l, py_pz]; rfl
theorem lay_pairs : ∀ l : List PZ, PyData.canLayAll0 (l.map pyP) = true
  | [] => by rw [List.map_nil, PyData.canLayAll0]
  | s :: l => by
    rw [List.map_cons, PyData.canLayAll0, lay_pairs l]
    simp only [pyP, PyData.canLay0, PyData.canLayAll0, Bool.and_self]
theorem dep_pairs : ∀ l : List PZ, PyData.depthAll (l.map pyP) ≤ 1
  | [] => by rw [List.map_nil, PyData.depthAll]; decide
  | s :: l => by
    have := dep_pairs l
    rw [List.map_cons, PyData.depthAll]
    have e : PyData.depth (pyP s) ≤ 1 := by simp [pyP, PyData.depth, PyData.depthAll]
    omega
theorem shp_pairs (l : List PZ) : SeqAt.shaped (.list (l.map pyP)) = true := by
  have := dep_pairs l
  unfold SeqAt.shaped
  rw [PyData.canLay0, lay_pairs, PyData.depth]
  simp
  omega
theorem eqv_pz (p q : PZ) : PyData.eqv (pyP p) (pyP q) = decide (p = q) := by
  obtain ⟨a, b⟩ := p
  obtain ⟨c, d⟩ := q
  simp only [pyP, PyData.eqv, PyData.eqvAll, Bool.and_true]
  by_cases h : a = c <;> by_cases h2 : b = d <;> simp [h, h2]
theorem eqv_pairs : ∀ a b : List PZ, PyData.eqvAll (a.map pyP) (b.map pyP) = decide (a = b)
  | [], [] => by simp [PyData.eqvAll]
  | x :: a, [] => by simp [PyData.eqvAll]
  | [], y :: b => by simp [PyData.eqvAll]
  | x :: a, y :: b => by
    rw [List.map_cons, List.map_cons, PyData.eqvAll, eqv_pairs a b, eqv_pz]
    by_cases h : x = y <;> by_cases h2 : a = b <;> simp [h, h2]
theorem deq_pairs (a b : List PZ) : deq (.lst (a.map pzD)) (.lst (b.map pzD)) = some (decide (a = b)) := by
  simp only [deq, D.py, pys_pairs, Option.map_some, Option.bind_some, shp_pairs, Bool.and_self, if_true, PyData.eqv, eqv_pairs]
theorem eq_pairs (neg : Bool) (S : So) (a b : List PZ) : gEqU neg S (.d (.lst (a.map pzD))) (.d (.lst (b.map pzD))) = some (.bl (if neg then !decide (a = b) else decide (a = b))) := by
  simp only [gEqU, D.flat, gEq, valD, Option.bind_some, deq_pairs, Option.map_some, Bool.false_eq_true, false_and, if_false]
end K
set_option maxHeartbeats 0
namespace K
open PySem PySem.Spec PyProof.Rows L2 LP
structure Tc (mg : Str → Option Value) : Prop where
  f_all : mg "all" = none
  f_any : mg "any" = none
  f_bool : mg "bool" = none
  f_enumerate : mg "enumerate" = none
  f_int : mg "int" = none
  f_isinstance : mg "isinstance" = none
  f_len : mg "len" = none
  f_list : mg "list" = none
  f_max : mg "max" = none
  f_range : mg "range" = none
  f_repr : mg "repr" = none
  f_sorted : mg "sorted" = none
  f_str : mg "str" = none
  f_sum : mg "sum" = none
  f_tuple : mg "tuple" = none
  f_zip : mg "zip" = none
def N_is_number : List Str := ["value", "least", "most"]
theorem sc_is_number : FnScope N_is_number ["value", "least", "most"] (defScope (topS 11)) := ⟨rfl, rfl, rfl, by decide +kernel, rfl, by decide +kernel, by decide +kernel⟩
def w_is_number_0  : WS :=
  wRet (wP (fAnd (fIsi [.int] (fV 0)) (fAnd (fNot (fIsi [.bool] (fV 0))) (fChain gLe gLe (fV 1) (fV 0) (fV 2)))))
abbrev w_is_number  : WS := w_is_number_0
theorem b_is_number {P : Program} {w0 : World} {K : PySem.W.Frag} {mg : Str → Option Value} {base : Heap} {ci : Ci} {f : Addr}  (T : Tc mg)  :
    Body P w0 K mg base ci N_is_number "is_number" (defScope (topS 11)) f (0) (defBody (topS 11)) (w_is_number ) := by
  intro cdv A outer s H E hr
  have ND : N_is_number.Nodup := sc_is_number.nd
  unfold w_is_number w_is_number_0
  exact rss_one (rs_ret (re_p (rp_and (rp_isi .int (gl_of (by kernel_rfl)) T.f_isinstance (gl_of (by kernel_rfl)) T.f_int (by decide +kernel) (rp_v 0)) (rp_and (rp_not (rp_isi .bool (gl_of (by kernel_rfl)) T.f_isinstance (gl_of (by kernel_rfl)) T.f_bool (by decide +kernel) (rp_v 0))) (rp_one (rp_chain o_le o_le (rp_v 1) (rp_v 0) (rp_v 2)))))))
def N_is_span : List Str := ["value"]
theorem sc_is_span : FnScope N_is_span ["value"] (defScope (topS 14)) := ⟨rfl, rfl, rfl, by decide +kernel, rfl, by decide +kernel, by decide +kernel⟩
def w_is_span_1  : WS :=
  wRet (wP (fAnd (fFn [.int 0, .int 999999999999999999] G_is_number (fCons (fOp gIx (fV 0) (fC (.int 1))) (fNil))) (fOp gLe (fOp gIx (fV 0) (fC (.int 0))) (fOp gIx (fV 0) (fC (.int 1))))))
def w_is_span_0  : WS :=
  wSeq (wIf (wB (bOr (bNot (bV (fIsi [.tuple] (fV 0)))) (bOr (bV (fOp (gEqU true) (fCall gLen (fCons (fV 0) (fNil))) (fC (.int 2)))) (bNot (bV (fFn [.int 0, .int 999999999999999999] G_is_number (fCons (fOp gIx (fV 0) (fC (.int 0))) (fNil))))))))
  (wRet (wP (fC (.bl false))))
  (wNext)) (w_is_span_1)
abbrev w_is_span  : WS := w_is_span_0
theorem b_is_span {P : Program} {w0 : World} {K : PySem.W.Frag} {mg : Str → Option Value} {base : Heap} {ci : Ci} {f : Addr}  (T : Tc mg) (C_is_number_2 : CallP P w0 K mg base ci (1) "is_number" [.int 0, .int 999999999999999999] (spP K ci G_is_number)) :
    Body P w0 K mg base ci N_is_span "is_span" (defScope (topS 14)) f (1) (defBody (topS 14)) (w_is_span ) := by
  intro cdv A outer s H E hr
  have ND : N_is_span.Nodup := sc_is_span.nd
  unfold w_is_span w_is_span_0 w_is_span_1
  exact rss_cons (rs_if (rt_b (rb_w (rw_or (rb_not (rb_v (rp_isi .tuple (gl_of (by kernel_rfl)) T.f_isinstance (gl_of (by kernel_rfl)) T.f_tuple (by decide +kernel) (rp_v 0)))) (rw_or (rb_cmp (o_neU hr.units) (rp_callB c_len (gl_of (by kernel_rfl)) T.f_len (by decide +kernel) (rps_cons (rp_v 0) (rps_nil))) (rp_int) (nomark _)) (rw_or1 (rb_not (rb_v (rp_call C_is_number_2 (hr.mono (by omega)) (gl_of (by kernel_rfl)) (rps_cons (rp_ix (rp_v 0) (rp_int)) (rps_nil))))))))))
      (rss_one (rs_ret (re_p (rp_bl))))
      (rss_nil))
      (rss_one (rs_ret (re_p (rp_and (rp_call C_is_number_2 (hr.mono (by omega)) (gl_of (by kernel_rfl)) (rps_cons (rp_ix (rp_v 0) (rp_int)) (rps_nil))) (rp_one (rp_cmp o_le (rp_ix (rp_v 0) (rp_int)) (rp_ix (rp_v 0) (rp_int)) (nomark _)))))))
def N_joined : List Str := ["spans", "found", "low", "high"]
theorem sc_joined : FnScope N_joined ["spans"] (defScope (topS 15)) := ⟨rfl, rfl, rfl, by decide +kernel, rfl, by decide +kernel, by decide +kernel⟩
def w_joined_for1_0  : WS :=
  wIf (wB (bAnd (bV (fOp (gEqU true) (fV 1) (fLst (fNil)))) (bV (fOp gLe (fV 2) (fOp gPlus (fOp gIx (fOp gIx (fV 1) (fNeg (fC (.int 1)))) (fC (.int 1))) (fC (.int 1)))))))
  (wSetIx (wP (fV 1)) (wP (fNeg (fC (.int 1)))) (wP (fTup (fCons (fOp gIx (fOp gIx (fV 1) (fNeg (fC (.int 1)))) (fC (.int 0))) (fCons (fCall gMax2 (fCons (fCall gIntA (fCons (fOp gIx (fOp gIx (fV 1) (fNeg (fC (.int 1)))) (fC (.int 1))) (fNil))) (fCons (fCall gIntA (fCons (fV 3) (fNil))) (fNil)))) (fNil))))))
  (wDrop (wLM gApp (wP (fV 1)) (wPs (fCons (fTup (fCons (fV 2) (fCons (fV 3) (fNil)))) (fNil)))))
def w_joined_2  : WS :=
  wRet (wFrz (wP (fV 1)))
def w_joined_1  : WS :=
  wSeq (wFor (wI (iL (fCall gSortP (fCons (fV 0) (fNil))))) (tgT [2, 3])
  (w_joined_for1_0)) (w_joined_2)
def w_joined_0  : WS :=
  wSeq (wAsg 1 (wNewL (wPs (fNil)))) (w_joined_1)
abbrev w_joined  : WS := w_joined_0
theorem b_joined {P : Program} {w0 : World} {K : PySem.W.Frag} {mg : Str → Option Value} {base : Heap} {ci : Ci} {f : Addr}  (T : Tc mg)  :
    Body P w0 K mg base ci N_joined "joined" (defScope (topS 15)) f (0) (defBody (topS 15)) (w_joined ) := by
  intro cdv A outer s H E hr
  have ND : N_joined.Nodup := sc_joined.nd
  unfold w_joined w_joined_0 w_joined_1 w_joined_2 w_joined_for1_0
  exact rss_cons (rs_asg 1 ND (re_newL (ra_p (rps_nil))))
      (rss_cons (rs_for (passes_of rfl) rfl (rie_p (ri_list (rp_callB c_sortP (gl_of (by kernel_rfl)) T.f_sorted (by decide +kernel) (rps_cons (rp_v 0) (rps_nil))))) (rg_t rfl (rgs_n 2 ND (by rfl) (loc_of (by kernel_rfl)) (rgs_n 3 ND (by rfl) (loc_of (by kernel_rfl)) (rgs_nil))))
      (rss_one (rs_if (rt_b (rb_w (rw_and (rb_cmp (o_neU hr.units) (rp_v 1) (rp_lst (rps_nil)) (nomark _)) (rw_and1 (rb_cmp o_le (rp_v 2) (rp_op o_plus (rp_ix (rp_ix (rp_v 1) (rp_neg (rp_int))) (rp_int)) (rp_int)) (nomark _))))))
      (rss_one (rs_setIx (re_p (rp_v 1)) (re_p (rp_neg (rp_int))) (re_p (rp_tup (rps_cons (rp_ix (rp_ix (rp_v 1) (rp_neg (rp_int))) (rp_int)) (rps_cons (rp_callB (c_max2 rfl) (gl_of (by kernel_rfl)) T.f_max (by decide +kernel) (rps_cons (rp_callTy c_intA (gl_of (by kernel_rfl)) T.f_int (by decide +kernel) (rps_cons (rp_ix (rp_ix (rp_v 1) (rp_neg (rp_int))) (rp_int)) (rps_nil))) (rps_cons (rp_callTy c_intA (gl_of (by kernel_rfl)) T.f_int (by decide +kernel) (rps_cons (rp_v 3) (rps_nil))) (rps_nil)))) (rps_nil)))))))
      (rss_one (rs_expr (re_lm PySem.F.slot_list_append PySem.F.type_list_append l_append (re_p (rp_v 1)) (ra_p (rps_cons (rp_tup (rps_cons (rp_v 2) (rps_cons (rp_v 3) (rps_nil)))) (rps_nil)))))))))
      (rss_one (rs_ret (re_frz (re_p (rp_v 1))))))
def N_span_text : List Str := ["low", "high"]
theorem sc_span_text : FnScope N_span_text ["low", "high"] (defScope (topS 16)) := ⟨rfl, rfl, rfl, by decide +kernel, rfl, by decide +kernel, by decide +kernel⟩
def w_span_text_0  : WS :=
  wRet (wP (fIf (bV (fOp (gEqU false) (fV 0) (fV 1))) (fCall gStr (fCons (fV 0) (fNil))) (fJoin [fFmt (fV 0), fC (.str "-"), fFmt (fV 1)])))
abbrev w_span_text  : WS := w_span_text_0
theorem b_span_text {P : Program} {w0 : World} {K : PySem.W.Frag} {mg : Str → Option Value} {base : Heap} {ci : Ci} {f : Addr}  (T : Tc mg)  :
    Body P w0 K mg base ci N_span_text "span_text" (defScope (topS 16)) f (0) (defBody (topS 16)) (w_span_text ) := by
  intro cdv A outer s H E hr
  have ND : N_span_text.Nodup := sc_span_text.nd
  unfold w_span_text w_span_text_0
  exact rss_one (rs_ret (re_p (rp_ife (rb_cmp (o_eqU hr.units) (rp_v 0) (rp_v 1) (nomark _)) (rp_callTy c_str (gl_of (by kernel_rfl)) T.f_str (by decide +kernel) (rps_cons (rp_v 0) (rps_nil))) (rp_joined (rj_cons (rp_fmt (rp_v 0)) (rj_cons (rp_str) (rj_cons (rp_fmt (rp_v 1)) (rj_nil))))))))
def N_Letter_init : List Str := ["self", "spans", "at", "span"]
theorem sc_Letter_init : FnScope N_Letter_init ["self", "spans"] (defScope (inClass (topS 20) 1)) := ⟨rfl, rfl, rfl, by decide +kernel, rfl, by decide +kernel, by decide +kernel⟩
def w_Letter_init_for1_0  : WS :=
  wIf (wB (bNot (bV (fFn [] G_is_span (fCons (fV 3) (fNil))))))
  (wRaise 1 "InvalidSpan" "at" (wP (fV 2)))
  (wNext)
def w_Letter_init_1  : WS :=
  wSetF [0] 0 (wP (fV 0)) (wP (fFn [] G_joined (fCons (fV 1) (fNil))))
def w_Letter_init_0  : WS :=
  wSeq (wFor (wI (iET (fV 1))) (tgT [2, 3])
  (w_Letter_init_for1_0)) (w_Letter_init_1)
abbrev w_Letter_init  : WS := w_Letter_init_0
theorem b_Letter_init {P : Program} {w0 : World} {K : PySem.W.Frag} {mg : Str → Option Value} {base : Heap} {ci : Ci} {f : Addr}  (T : Tc mg) (C_is_span : CallP P w0 K mg base ci (2) "is_span" [] (spP K ci G_is_span)) (C_joined : CallP P w0 K mg base ci (1) "joined" [] (spP K ci G_joined)) (A_own_runs : ∀ c ∈ [0], AttrOk K ci c "own_runs" 0) (ER_InvalidSpan : ErrP P w0 K mg base ci 1 1 "InvalidSpan" "InvalidSpan" "at") :
    Body P w0 K mg base ci N_Letter_init "Letter.__init__" (defScope (inClass (topS 20) 1)) f (3) (defBody (inClass (topS 20) 1)) (w_Letter_init ) := by
  intro cdv A outer s H E hr
  have ND : N_Letter_init.Nodup := sc_Letter_init.nd
  unfold w_Letter_init w_Letter_init_0 w_Letter_init_1 w_Letter_init_for1_0
  exact rss_cons (rs_for (passes_of rfl) rfl (rie_p (ri_enumT (gl_of (by kernel_rfl)) T.f_enumerate (rp_v 1))) (rg_t rfl (rgs_n 2 ND (by rfl) (loc_of (by kernel_rfl)) (rgs_n 3 ND (by rfl) (loc_of (by kernel_rfl)) (rgs_nil))))
      (rss_one (rs_if (rt_b (rb_not (rb_v (rp_call C_is_span (hr.mono (by omega)) (gl_of (by kernel_rfl)) (rps_cons (rp_v 3) (rps_nil))))))
      (rss_one (rs_raise ER_InvalidSpan rfl (hr.mono (by omega)) (gl_of (by kernel_rfl)) (re_p (rp_v 2))))
      (rss_nil))))
      (rss_one (rs_setF A_own_runs (re_p (rp_v 0)) (re_p (rp_call C_joined (hr.mono (by omega)) (gl_of (by kernel_rfl)) (rps_cons (rp_v 1) (rps_nil))))))
def N_Letter_runs : List Str := ["self"]
theorem sc_Letter_runs : FnScope N_Letter_runs ["self"] (defScope (inClass (topS 20) 2)) := ⟨rfl, rfl, rfl, by decide +kernel, rfl, by decide +kernel, by decide +kernel⟩
def w_Letter_runs_0  : WS :=
  wRet (wP (fCall gList (fCons (fFld [0] 0 (fV 0)) (fNil))))
abbrev w_Letter_runs  : WS := w_Letter_runs_0
theorem b_Letter_runs {P : Program} {w0 : World} {K : PySem.W.Frag} {mg : Str → Option Value} {base : Heap} {ci : Ci} {f : Addr}  (T : Tc mg) (A_own_runs : ∀ c ∈ [0], AttrOk K ci c "own_runs" 0) :
    Body P w0 K mg base ci N_Letter_runs "Letter.runs" (defScope (inClass (topS 20) 2)) f (0) (defBody (inClass (topS 20) 2)) (w_Letter_runs ) := by
  intro cdv A outer s H E hr
  have ND : N_Letter_runs.Nodup := sc_Letter_runs.nd
  unfold w_Letter_runs w_Letter_runs_0
  exact rss_one (rs_ret (re_p (rp_callTy c_list (gl_of (by kernel_rfl)) T.f_list (by decide +kernel) (rps_cons (rp_fld A_own_runs (rp_v 0)) (rps_nil)))))
def N_Letter_runsN : List Str := ["self"]
theorem sc_Letter_runsN : FnScope N_Letter_runsN ["self"] (defScope (inClass (topS 20) 2)) := ⟨rfl, rfl, rfl, by decide +kernel, rfl, by decide +kernel, by decide +kernel⟩
def w_Letter_runsN_0  : WS :=
  wRet (wListN (wPs (fCons (fFld [0] 0 (fV 0)) (fNil))))
abbrev w_Letter_runsN  : WS := w_Letter_runsN_0
theorem b_Letter_runsN {P : Program} {w0 : World} {K : PySem.W.Frag} {mg : Str → Option Value} {base : Heap} {ci : Ci} {f : Addr}  (T : Tc mg) (A_own_runs : ∀ c ∈ [0], AttrOk K ci c "own_runs" 0) :
    Body P w0 K mg base ci N_Letter_runsN "Letter.runs" (defScope (inClass (topS 20) 2)) f (0) (defBody (inClass (topS 20) 2)) (w_Letter_runsN ) := by
  intro cdv A outer s H E hr
  have ND : N_Letter_runsN.Nodup := sc_Letter_runsN.nd
  unfold w_Letter_runsN w_Letter_runsN_0
  exact rss_one (rs_ret (re_listN (gl_of (by kernel_rfl)) T.f_list (ra_p (rps_cons (rp_fld A_own_runs (rp_v 0)) (rps_nil)))))
def N_Letter_many : List Str := ["self", "low", "high"]
theorem sc_Letter_many : FnScope N_Letter_many ["self"] (defScope (inClass (topS 20) 4)) := ⟨rfl, rfl, rfl, by decide +kernel, rfl, by decide +kernel, by decide +kernel⟩
def w_Letter_many_0  : WS :=
  wRet (wP (fCall gSum (fCons (fComp (iL (fFld [0] 0 (fV 0))) (tgT [1, 2]) [1, 2] (fun _ _ => some true) (fOp gPlus (fOp gSub (fV 2) (fV 1)) (fC (.int 1)))) (fNil))))
abbrev w_Letter_many  : WS := w_Letter_many_0
theorem b_Letter_many {P : Program} {w0 : World} {K : PySem.W.Frag} {mg : Str → Option Value} {base : Heap} {ci : Ci} {f : Addr}  (T : Tc mg) (A_own_runs : ∀ c ∈ [0], AttrOk K ci c "own_runs" 0) :
    Body P w0 K mg base ci N_Letter_many "Letter.many" (defScope (inClass (topS 20) 4)) f (0) (defBody (inClass (topS 20) 4)) (w_Letter_many ) := by
  intro cdv A outer s H E hr
  have ND : N_Letter_many.Nodup := sc_Letter_many.nd
  unfold w_Letter_many w_Letter_many_0
  exact rss_one (rs_ret (re_p (rp_callB (c_sum rfl) (gl_of (by kernel_rfl)) T.f_sum (by decide +kernel) (rps_cons (rp_lcv [("low", 1), ("high", 2)] rfl rfl ND (ri_list (rp_fld A_own_runs (rp_v 0))) (by kernel_rfl) (fun _ _ _ _ _ => rg_t rfl (rgs_n 1 ND (by rfl) (loc_of (by kernel_rfl)) (rgs_n 2 ND (by rfl) (loc_of (by kernel_rfl)) (rgs_nil)))) (fun _ _ _ _ _ => rc_nil) (fun _ _ _ _ _ => rp_op o_plus (rp_op o_sub (rp_v 2) (rp_v 1)) (rp_int))) (rps_nil)))))
def N_Letter_text : List Str := ["self", "low", "high"]
theorem sc_Letter_text : FnScope N_Letter_text ["self"] (defScope (inClass (topS 20) 7)) := ⟨rfl, rfl, rfl, by decide +kernel, rfl, by decide +kernel, by decide +kernel⟩
def w_Letter_text_0  : WS :=
  wRet (wP (fIf (bV (fOp (gEqU false) (fFld [0] 0 (fV 0)) (fLst (fNil)))) (fC (.str "none")) (fM1 gJoin (fC (.str "; ")) (fComp (iL (fFld [0] 0 (fV 0))) (tgT [1, 2]) [1, 2] (fun _ _ => some true) (fFn [] G_stext (fCons (fV 1) (fCons (fV 2) (fNil))))))))
abbrev w_Letter_text  : WS := w_Letter_text_0
theorem b_Letter_text {P : Program} {w0 : World} {K : PySem.W.Frag} {mg : Str → Option Value} {base : Heap} {ci : Ci} {f : Addr}  (T : Tc mg) (C_span_text : CallP P w0 K mg base ci (1) "span_text" [] (spP K ci G_stext)) (A_own_runs : ∀ c ∈ [0], AttrOk K ci c "own_runs" 0) :
    Body P w0 K mg base ci N_Letter_text "Letter.text" (defScope (inClass (topS 20) 7)) f (1) (defBody (inClass (topS 20) 7)) (w_Letter_text ) := by
  intro cdv A outer s H E hr
  have ND : N_Letter_text.Nodup := sc_Letter_text.nd
  unfold w_Letter_text w_Letter_text_0
  exact rss_one (rs_ret (re_p (rp_ife (rb_cmp (o_eqU hr.units) (rp_fld A_own_runs (rp_v 0)) (rp_lst (rps_nil)) (nomark _)) (rp_str) (rp_m1 F.slot_str_join F.type_str_join m_join (rp_str) (rp_lcv [("low", 1), ("high", 2)] rfl rfl ND (ri_list (rp_fld A_own_runs (rp_v 0))) (by kernel_rfl) (fun _ _ _ _ _ => rg_t rfl (rgs_n 1 ND (by rfl) (loc_of (by kernel_rfl)) (rgs_n 2 ND (by rfl) (loc_of (by kernel_rfl)) (rgs_nil)))) (fun _ _ _ _ _ => rc_nil) (fun _ _ _ _ _ => rp_call C_span_text (hr.mono (by omega)) (gl_of (by kernel_rfl)) (rps_cons (rp_v 1) (rps_cons (rp_v 2) (rps_nil)))))))))
def N_Letter_contains : List Str := ["self", "number", "low", "high"]
theorem sc_Letter_contains : FnScope N_Letter_contains ["self", "number"] (defScope (inClass (topS 20) 10)) := ⟨rfl, rfl, rfl, by decide +kernel, rfl, by decide +kernel, by decide +kernel⟩
def w_Letter_contains_0  : WS :=
  wRet (wP (fAnd (fFn [.int 0, .int 999999999999999999] G_is_number (fCons (fV 1) (fNil))) (fCall (gBools fun l => l.any id) (fCons (fComp (iL (fFld [0] 0 (fV 0))) (tgT [2, 3]) [2, 3] (fun _ _ => some true) (fChain gLe gLe (fV 2) (fV 1) (fV 3))) (fNil)))))
abbrev w_Letter_contains  : WS := w_Letter_contains_0
theorem b_Letter_contains {P : Program} {w0 : World} {K : PySem.W.Frag} {mg : Str → Option Value} {base : Heap} {ci : Ci} {f : Addr}  (T : Tc mg) (C_is_number_2 : CallP P w0 K mg base ci (1) "is_number" [.int 0, .int 999999999999999999] (spP K ci G_is_number)) (A_own_runs : ∀ c ∈ [0], AttrOk K ci c "own_runs" 0) :
    Body P w0 K mg base ci N_Letter_contains "Letter.__contains__" (defScope (inClass (topS 20) 10)) f (1) (defBody (inClass (topS 20) 10)) (w_Letter_contains ) := by
  intro cdv A outer s H E hr
  have ND : N_Letter_contains.Nodup := sc_Letter_contains.nd
  unfold w_Letter_contains w_Letter_contains_0
  exact rss_one (rs_ret (re_p (rp_and (rp_call C_is_number_2 (hr.mono (by omega)) (gl_of (by kernel_rfl)) (rps_cons (rp_v 1) (rps_nil))) (rp_one (rp_callB (c_any rfl) (gl_of (by kernel_rfl)) T.f_any (by decide +kernel) (rps_cons (rp_lcv [("low", 2), ("high", 3)] rfl rfl ND (ri_list (rp_fld A_own_runs (rp_v 0))) (by kernel_rfl) (fun _ _ _ _ _ => rg_t rfl (rgs_n 2 ND (by rfl) (loc_of (by kernel_rfl)) (rgs_n 3 ND (by rfl) (loc_of (by kernel_rfl)) (rgs_nil)))) (fun _ _ _ _ _ => rc_nil) (fun _ _ _ _ _ => rp_chain o_le o_le (rp_v 2) (rp_v 1) (rp_v 3))) (rps_nil)))))))
def N_Letter_bool : List Str := ["self"]
theorem sc_Letter_bool : FnScope N_Letter_bool ["self"] (defScope (inClass (topS 20) 15)) := ⟨rfl, rfl, rfl, by decide +kernel, rfl, by decide +kernel, by decide +kernel⟩
def w_Letter_bool_0  : WS :=
  wRet (wP (fCall gBoolL (fCons (fFld [0] 0 (fV 0)) (fNil))))
abbrev w_Letter_bool  : WS := w_Letter_bool_0
theorem b_Letter_bool {P : Program} {w0 : World} {K : PySem.W.Frag} {mg : Str → Option Value} {base : Heap} {ci : Ci} {f : Addr}  (T : Tc mg) (A_own_runs : ∀ c ∈ [0], AttrOk K ci c "own_runs" 0) :
    Body P w0 K mg base ci N_Letter_bool "Letter.__bool__" (defScope (inClass (topS 20) 15)) f (0) (defBody (inClass (topS 20) 15)) (w_Letter_bool ) := by
  intro cdv A outer s H E hr
  have ND : N_Letter_bool.Nodup := sc_Letter_bool.nd
  unfold w_Letter_bool w_Letter_bool_0
  exact rss_one (rs_ret (re_p (rp_callTy c_boolL (gl_of (by kernel_rfl)) T.f_bool (by decide +kernel) (rps_cons (rp_fld A_own_runs (rp_v 0)) (rps_nil)))))
def N_Letter_repr : List Str := ["self"]
theorem sc_Letter_repr : FnScope N_Letter_repr ["self"] (defScope (inClass (topS 20) 16)) := ⟨rfl, rfl, rfl, by decide +kernel, rfl, by decide +kernel, by decide +kernel⟩
def w_Letter_repr_0  : WS :=
  wRet (wP (fJoin [fC (.str "Letter("), fFmt (fMeth mt_text (fV 0) fNil), fC (.str ")")]))
abbrev w_Letter_repr  : WS := w_Letter_repr_0
theorem b_Letter_repr {P : Program} {w0 : World} {K : PySem.W.Frag} {mg : Str → Option Value} {base : Heap} {ci : Ci} {f : Addr}  (T : Tc mg) (M_text : ∀ c dfl G, mt_text c = some (dfl, G) → MethP P w0 K mg base ci 2 c "text" dfl (spP K ci G)) :
    Body P w0 K mg base ci N_Letter_repr "Letter.__repr__" (defScope (inClass (topS 20) 16)) f (3) (defBody (inClass (topS 20) 16)) (w_Letter_repr ) := by
  intro cdv A outer s H E hr
  have ND : N_Letter_repr.Nodup := sc_Letter_repr.nd
  unfold w_Letter_repr w_Letter_repr_0
  exact rss_one (rs_ret (re_p (rp_joined (rj_cons (rp_str) (rj_cons (rp_fmt (rp_meth0 M_text (hr.mono (by omega)) (rp_v 0))) (rj_cons (rp_str) (rj_nil)))))))
def N_l_bag : List Str := ["_law_script", "_law_state", "_law_cell"]
theorem sc_l_bag : FnScope N_l_bag ["_law_script"] (defScope (topS 22)) := ⟨rfl, rfl, rfl, by decide +kernel, rfl, by decide +kernel, by decide +kernel⟩
def w_l_bag_for1_0  : WS :=
  wAsg 1 (wP (fOp gMod (fCall gIntA (fCons (fOp gPlus (fOp gPlus (fOp gTimes (fV 1) (fC (.int 48947))) (fOp gMod (fCall gIntA (fCons (fV 2) (fNil))) (fC (.int 2147483563)))) (fC (.int 37))) (fNil))) (fC (.int 2147483579))))
def w_l_bag_2  : WS :=
  wRet (wNewL (wPs (fCons (fComp (iL (fSl (fV 0) (oN) (oS (fC (.int 63))))) (tgN 2) [2] (fun _ _ => some true) (fCall gIntA (fCons (fV 2) (fNil)))) (fCons (fC (.int 0)) (fCons (fC (.int 0)) (fCons (fV 1) (fCons (fC (.int 0)) (fNil))))))))
def w_l_bag_1  : WS :=
  wSeq (wFor (wI (iL (fSl (fV 0) (oN) (oS (fC (.int 63)))))) (tgN 2)
  (w_l_bag_for1_0)) (w_l_bag_2)
def w_l_bag_0  : WS :=
  wSeq (wAsg 1 (wP (fC (.int 10021)))) (w_l_bag_1)
abbrev w_l_bag  : WS := w_l_bag_0
theorem b_l_bag {P : Program} {w0 : World} {K : PySem.W.Frag} {mg : Str → Option Value} {base : Heap} {ci : Ci} {f : Addr}  (T : Tc mg)  :
    Body P w0 K mg base ci N_l_bag "_law_bag" (defScope (topS 22)) f (0) (defBody (topS 22)) (w_l_bag ) := by
  intro cdv A outer s H E hr
  have ND : N_l_bag.Nodup := sc_l_bag.nd
  unfold w_l_bag w_l_bag_0 w_l_bag_1 w_l_bag_2 w_l_bag_for1_0
  exact rss_cons (rs_asg 1 ND (re_p (rp_int)))
      (rss_cons (rs_for (passes_of rfl) rfl (rie_p (ri_list (rp_sl (rp_v 0) (ro_n) (ro_s (rp_int))))) (rg_n 2 ND (by rfl) (loc_of (by kernel_rfl)))
      (rss_one (rs_asg 1 ND (re_p (rp_op o_mod (rp_callTy c_intA (gl_of (by kernel_rfl)) T.f_int (by decide +kernel) (rps_cons (rp_op o_plus (rp_op o_plus (rp_op o_times (rp_v 1) (rp_int)) (rp_op o_mod (rp_callTy c_intA (gl_of (by kernel_rfl)) T.f_int (by decide +kernel) (rps_cons (rp_v 2) (rps_nil))) (rp_int))) (rp_int)) (rps_nil))) (rp_int))))))
      (rss_one (rs_ret (re_newL (ra_p (rps_cons (rp_lcv [("_law_cell", 2)] rfl rfl ND (ri_list (rp_sl (rp_v 0) (ro_n) (ro_s (rp_int)))) (by kernel_rfl) (fun _ _ _ _ _ => rg_n 2 ND (by rfl) (loc_of (by kernel_rfl))) (fun _ _ _ _ _ => rc_nil) (fun _ _ _ _ _ => rp_callTy c_intA (gl_of (by kernel_rfl)) T.f_int (by decide +kernel) (rps_cons (rp_v 2) (rps_nil)))) (rps_cons (rp_int) (rps_cons (rp_int) (rps_cons (rp_v 1) (rps_cons (rp_int) (rps_nil)))))))))))
def N_l_pull : List Str := ["_law_bag_here", "_law_many", "_law_state", "_law_cell", "_law_digit"]
theorem sc_l_pull : FnScope N_l_pull ["_law_bag_here", "_law_many"] (defScope (topS 23)) := ⟨rfl, rfl, rfl, by decide +kernel, rfl, by decide +kernel, by decide +kernel⟩
def w_l_pull_5  : WS :=
  wRet (wP (fOp gMod (fCall gIntA (fCons (fOp gPlus (fOp gFdivW (fOp gIx (fV 0) (fC (.int 3))) (fC (.int 79))) (fOp gTimes (fOp gMod (fCall gIntA (fCons (fOp gIx (fV 0) (fC (.int 3))) (fNil))) (fC (.int 7919))) (fC (.int 71)))) (fNil))) (fV 1)))
def w_l_pull_4  : WS :=
  wSeq (wSetIx (wP (fV 0)) (wP (fC (.int 3))) (wP (fOp gMod (fCall gIntA (fCons (fOp gPlus (fOp gPlus (fOp gPlus (fOp gPow (fV 2) (fC (.int 3))) (fOp gTimes (fV 2) (fC (.int 40111)))) (fOp gTimes (fOp gIx (fV 0) (fC (.int 4))) (fC (.int 1299583)))) (fC (.int 61027))) (fNil))) (fC (.int 2147483579))))) (w_l_pull_5)
def w_l_pull_3  : WS :=
  wSeq (wAsg 2 (wP (fOp gIx (fV 0) (fC (.int 3))))) (w_l_pull_4)
def w_l_pull_2  : WS :=
  wSeq (wIf (wB (bV (fOp gGt (fOp gIx (fV 0) (fC (.int 2))) (fC (.int 0)))))
  (wSeq (wAsg 4 (wP (fOp gMod (fCall gIntA (fCons (fOp gIx (fV 0) (fC (.int 2))) (fNil))) (fV 1))))
  (wSeq (wSetIx (wP (fV 0)) (wP (fC (.int 2))) (wP (fOp gFdivW (fCall gIntA (fCons (fOp gIx (fV 0) (fC (.int 2))) (fNil))) (fV 1))))
  (wRet (wP (fV 4)))))
  (wNext)) (w_l_pull_3)
def w_l_pull_1  : WS :=
  wSeq (wIf (wB (bAnd (bV (fOp (gEqU false) (fOp gIx (fV 0) (fC (.int 2))) (fC (.int 0)))) (bV (fOp gLt (fOp gIx (fV 0) (fC (.int 1))) (fCall gLen (fCons (fOp gIx (fV 0) (fC (.int 0))) (fNil)))))))
  (wSeq (wAsg 3 (wP (fOp gIx (fOp gIx (fV 0) (fC (.int 0))) (fOp gIx (fV 0) (fC (.int 1))))))
  (wSeq (wSetIx (wP (fV 0)) (wP (fC (.int 1))) (wP (fOp gPlus (fOp gIx (fV 0) (fC (.int 1))) (fC (.int 1)))))
  (wSeq (wIf (wB (bV (fOp gGe (fV 3) (fOp gPow (fC (.int 10)) (fC (.int 18))))))
  (wSetIx (wP (fV 0)) (wP (fC (.int 2))) (wP (fV 3)))
  (wNext))
  (wSetIx (wP (fV 0)) (wP (fC (.int 3))) (wP (fOp gMod (fCall gIntA (fCons (fOp gPlus (fOp gPlus (fOp gTimes (fOp gIx (fV 0) (fC (.int 3))) (fC (.int 39901))) (fOp gTimes (fOp gMod (fCall gIntA (fCons (fV 3) (fNil))) (fC (.int 2147483497))) (fC (.int 40361)))) (fC (.int 73))) (fNil))) (fC (.int 2147483579))))))))
  (wNext)) (w_l_pull_2)
def w_l_pull_0  : WS :=
  wSeq (wSetIx (wP (fV 0)) (wP (fC (.int 4))) (wP (fOp gPlus (fOp gIx (fV 0) (fC (.int 4))) (fC (.int 1))))) (w_l_pull_1)
abbrev w_l_pull  : WS := w_l_pull_0
theorem b_l_pull {P : Program} {w0 : World} {K : PySem.W.Frag} {mg : Str → Option Value} {base : Heap} {ci : Ci} {f : Addr}  (T : Tc mg)  :
    Body P w0 K mg base ci N_l_pull "_law_pull" (defScope (topS 23)) f (0) (defBody (topS 23)) (w_l_pull ) := by
  intro cdv A outer s H E hr
  have ND : N_l_pull.Nodup := sc_l_pull.nd
  unfold w_l_pull w_l_pull_0 w_l_pull_1 w_l_pull_2 w_l_pull_3 w_l_pull_4 w_l_pull_5
  exact rss_cons (rs_setIx (re_p (rp_v 0)) (re_p (rp_int)) (re_p (rp_op o_plus (rp_ix (rp_v 0) (rp_int)) (rp_int))))
      (rss_cons (rs_if (rt_b (rb_w (rw_and (rb_cmp (o_eqU hr.units) (rp_ix (rp_v 0) (rp_int)) (rp_int) (nomark _)) (rw_and1 (rb_cmp o_lt (rp_ix (rp_v 0) (rp_int)) (rp_callB c_len (gl_of (by kernel_rfl)) T.f_len (by decide +kernel) (rps_cons (rp_ix (rp_v 0) (rp_int)) (rps_nil))) (nomark _))))))
      (rss_cons (rs_asg 3 ND (re_p (rp_ix (rp_ix (rp_v 0) (rp_int)) (rp_ix (rp_v 0) (rp_int)))))
      (rss_cons (rs_setIx (re_p (rp_v 0)) (re_p (rp_int)) (re_p (rp_op o_plus (rp_ix (rp_v 0) (rp_int)) (rp_int))))
      (rss_cons (rs_if (rt_b (rb_cmp o_ge (rp_v 3) (rp_op o_pow (rp_int) (rp_int)) (nomark _)))
      (rss_one (rs_setIx (re_p (rp_v 0)) (re_p (rp_int)) (re_p (rp_v 3))))
      (rss_nil))
      (rss_one (rs_setIx (re_p (rp_v 0)) (re_p (rp_int)) (re_p (rp_op o_mod (rp_callTy c_intA (gl_of (by kernel_rfl)) T.f_int (by decide +kernel) (rps_cons (rp_op o_plus (rp_op o_plus (rp_op o_times (rp_ix (rp_v 0) (rp_int)) (rp_int)) (rp_op o_times (rp_op o_mod (rp_callTy c_intA (gl_of (by kernel_rfl)) T.f_int (by decide +kernel) (rps_cons (rp_v 3) (rps_nil))) (rp_int)) (rp_int))) (rp_int)) (rps_nil))) (rp_int))))))))
      (rss_nil))
      (rss_cons (rs_if (rt_b (rb_cmp o_gt (rp_ix (rp_v 0) (rp_int)) (rp_int) (nomark _)))
      (rss_cons (rs_asg 4 ND (re_p (rp_op o_mod (rp_callTy c_intA (gl_of (by kernel_rfl)) T.f_int (by decide +kernel) (rps_cons (rp_ix (rp_v 0) (rp_int)) (rps_nil))) (rp_v 1))))
      (rss_cons (rs_setIx (re_p (rp_v 0)) (re_p (rp_int)) (re_p (rp_op o_fdivW (rp_callTy c_intA (gl_of (by kernel_rfl)) T.f_int (by decide +kernel) (rps_cons (rp_ix (rp_v 0) (rp_int)) (rps_nil))) (rp_v 1))))
      (rss_one (rs_ret (re_p (rp_v 4))))))
      (rss_nil))
      (rss_cons (rs_asg 2 ND (re_p (rp_ix (rp_v 0) (rp_int))))
      (rss_cons (rs_setIx (re_p (rp_v 0)) (re_p (rp_int)) (re_p (rp_op o_mod (rp_callTy c_intA (gl_of (by kernel_rfl)) T.f_int (by decide +kernel) (rps_cons (rp_op o_plus (rp_op o_plus (rp_op o_plus (rp_op o_pow (rp_v 2) (rp_int)) (rp_op o_times (rp_v 2) (rp_int))) (rp_op o_times (rp_ix (rp_v 0) (rp_int)) (rp_int))) (rp_int)) (rps_nil))) (rp_int))))
      (rss_one (rs_ret (re_p (rp_op o_mod (rp_callTy c_intA (gl_of (by kernel_rfl)) T.f_int (by decide +kernel) (rps_cons (rp_op o_plus (rp_op o_fdivW (rp_ix (rp_v 0) (rp_int)) (rp_int)) (rp_op o_times (rp_op o_mod (rp_callTy c_intA (gl_of (by kernel_rfl)) T.f_int (by decide +kernel) (rps_cons (rp_ix (rp_v 0) (rp_int)) (rps_nil))) (rp_int)) (rp_int))) (rps_nil))) (rp_v 1)))))))))
def N_l_pick : List Str := ["_law_bag_here", "_law_rows"]
theorem sc_l_pick : FnScope N_l_pick ["_law_bag_here", "_law_rows"] (defScope (topS 24)) := ⟨rfl, rfl, rfl, by decide +kernel, rfl, by decide +kernel, by decide +kernel⟩
def w_l_pick_0  : WS :=
  wRet (wOp gIx (wP (fV 1)) (wFnM [] fc_pull (wPs (fCons (fV 0) (fCons (fCall gLen (fCons (fV 1) (fNil))) (fNil))))))
abbrev w_l_pick  : WS := w_l_pick_0
theorem b_l_pick {P : Program} {w0 : World} {K : PySem.W.Frag} {mg : Str → Option Value} {base : Heap} {ci : Ci} {f : Addr}  (T : Tc mg) (C_l_pull : CallP P w0 K mg base ci (1) "_law_pull" [] (spOf K ci fc_pull)) :
    Body P w0 K mg base ci N_l_pick "_law_pick" (defScope (topS 24)) f (1) (defBody (topS 24)) (w_l_pick ) := by
  intro cdv A outer s H E hr
  have ND : N_l_pick.Nodup := sc_l_pick.nd
  unfold w_l_pick w_l_pick_0
  exact rss_one (rs_ret (re_ix (re_p (rp_v 1)) (re_callM C_l_pull (hr.mono (by omega)) (gl_of (by kernel_rfl)) (ra_p (rps_cons (rp_v 0) (rps_cons (rp_callB c_len (gl_of (by kernel_rfl)) T.f_len (by decide +kernel) (rps_cons (rp_v 1) (rps_nil))) (rps_nil)))))))
def N_l_same : List Str := ["_law_found", "_law_due", "_law_one", "_law_two"]
theorem sc_l_same : FnScope N_l_same ["_law_found", "_law_due"] (defScope (topS 25)) := ⟨rfl, rfl, rfl, by decide +kernel, rfl, by decide +kernel, by decide +kernel⟩
def w_l_same_4 (G_rec : PC) : WS :=
  wRet (wP (fAnd (fOp (gEqU false) (fIsi [.str] (fV 1)) (fIsi [.str] (fV 0))) (fOp (gEqU false) (fV 0) (fV 1))))
def w_l_same_3 (G_rec : PC) : WS :=
  wSeq (wIf (wB (bV (fOp (gEqU true) (fIsi [.int] (fV 1)) (fIsi [.int] (fV 0)))))
  (wRet (wP (fC (.bl false))))
  (wNext)) (w_l_same_4 G_rec)
def w_l_same_2 (G_rec : PC) : WS :=
  wSeq (wIf (wB (bV (fOp (gEqU true) (fIsi [.bool] (fV 1)) (fIsi [.bool] (fV 0)))))
  (wRet (wP (fC (.bl false))))
  (wNext)) (w_l_same_3 G_rec)
def w_l_same_1 (G_rec : PC) : WS :=
  wSeq (wIf (wB (bOr (bV (fOp (gIsN false) (fV 1) (fC .non))) (bV (fOp (gIsN false) (fV 0) (fC .non)))))
  (wRet (wP (fAnd (fOp (gIsN false) (fV 1) (fC .non)) (fOp (gIsN false) (fV 0) (fC .non)))))
  (wNext)) (w_l_same_2 G_rec)
def w_l_same_0 (G_rec : PC) : WS :=
  wSeq (wIf (wB (bV (fIsi [.list, .tuple] (fV 1))))
  (wSeq (wIf (wB (bV (fOp (gEqU true) (fIsi [.list] (fV 0)) (fIsi [.list] (fV 1)))))
  (wRet (wP (fC (.bl false))))
  (wNext))
  (wSeq (wIf (wB (bV (fOp (gEqU true) (fIsi [.tuple] (fV 0)) (fIsi [.tuple] (fV 1)))))
  (wRet (wP (fC (.bl false))))
  (wNext))
  (wRet (wP (fAnd (fOp (gEqU false) (fCall gLen (fCons (fV 0) (fNil))) (fCall gLen (fCons (fV 1) (fNil)))) (fCall (gBools fun l => l.all id) (fCons (fComp (iZQ (fV 0) (fV 1)) (tgT [2, 3]) [2, 3] (fun _ _ => some true) (fFn [] G_rec (fCons (fV 2) (fCons (fV 3) (fNil))))) (fNil))))))))
  (wNext)) (w_l_same_1 G_rec)
abbrev w_l_same (G_rec : PC) : WS := w_l_same_0 G_rec
theorem b_l_same {P : Program} {w0 : World} {K : PySem.W.Frag} {mg : Str → Option Value} {base : Heap} {ci : Ci} {f : Addr} (G_rec : PC) (T : Tc mg) (C_l_same : CallP P w0 K mg base ci (n) "_law_same" [] (spP K ci G_rec)) :
    Body P w0 K mg base ci N_l_same "_law_same" (defScope (topS 25)) f (n) (defBody (topS 25)) (w_l_same G_rec) := by
  intro cdv A outer s H E hr
  have ND : N_l_same.Nodup := sc_l_same.nd
  unfold w_l_same w_l_same_0 w_l_same_1 w_l_same_2 w_l_same_3 w_l_same_4
  exact rss_cons (rs_if (rt_b (rb_v (rp_isi2 .list .tuple (gl_of (by kernel_rfl)) T.f_isinstance (gl_of (by kernel_rfl)) T.f_list (by decide +kernel) (gl_of (by kernel_rfl)) T.f_tuple (by decide +kernel) (rp_v 1))))
      (rss_cons (rs_if (rt_b (rb_cmp (o_neU hr.units) (rp_isi .list (gl_of (by kernel_rfl)) T.f_isinstance (gl_of (by kernel_rfl)) T.f_list (by decide +kernel) (rp_v 0)) (rp_isi .list (gl_of (by kernel_rfl)) T.f_isinstance (gl_of (by kernel_rfl)) T.f_list (by decide +kernel) (rp_v 1)) (nomark _)))
      (rss_one (rs_ret (re_p (rp_bl))))
      (rss_nil))
      (rss_cons (rs_if (rt_b (rb_cmp (o_neU hr.units) (rp_isi .tuple (gl_of (by kernel_rfl)) T.f_isinstance (gl_of (by kernel_rfl)) T.f_tuple (by decide +kernel) (rp_v 0)) (rp_isi .tuple (gl_of (by kernel_rfl)) T.f_isinstance (gl_of (by kernel_rfl)) T.f_tuple (by decide +kernel) (rp_v 1)) (nomark _)))
      (rss_one (rs_ret (re_p (rp_bl))))
      (rss_nil))
      (rss_one (rs_ret (re_p (rp_and (rp_cmp (o_eqU hr.units) (rp_callB c_len (gl_of (by kernel_rfl)) T.f_len (by decide +kernel) (rps_cons (rp_v 0) (rps_nil))) (rp_callB c_len (gl_of (by kernel_rfl)) T.f_len (by decide +kernel) (rps_cons (rp_v 1) (rps_nil))) (nomark _)) (rp_one (rp_callB (c_all rfl) (gl_of (by kernel_rfl)) T.f_all (by decide +kernel) (rps_cons (rp_lcv [("_law_one", 2), ("_law_two", 3)] rfl rfl ND (ri_zipQ (gl_of (by kernel_rfl)) T.f_zip (rp_v 0) (rp_v 1)) (by kernel_rfl) (fun _ _ _ _ _ => rg_t rfl (rgs_n 2 ND (by rfl) (loc_of (by kernel_rfl)) (rgs_n 3 ND (by rfl) (loc_of (by kernel_rfl)) (rgs_nil)))) (fun _ _ _ _ _ => rc_nil) (fun _ _ _ _ _ => rp_call C_l_same (hr.mono (by omega)) (gl_of (by kernel_rfl)) (rps_cons (rp_v 2) (rps_cons (rp_v 3) (rps_nil))))) (rps_nil))))))))))
      (rss_nil))
      (rss_cons (rs_if (rt_b (rb_w (rw_or (rb_cmp o_is (rp_v 1) (rp_non) (nomark _)) (rw_or1 (rb_cmp o_is (rp_v 0) (rp_non) (nomark _))))))
      (rss_one (rs_ret (re_p (rp_and (rp_cmp o_is (rp_v 1) (rp_non) (nomark _)) (rp_one (rp_cmp o_is (rp_v 0) (rp_non) (nomark _)))))))
      (rss_nil))
      (rss_cons (rs_if (rt_b (rb_cmp (o_neU hr.units) (rp_isi .bool (gl_of (by kernel_rfl)) T.f_isinstance (gl_of (by kernel_rfl)) T.f_bool (by decide +kernel) (rp_v 1)) (rp_isi .bool (gl_of (by kernel_rfl)) T.f_isinstance (gl_of (by kernel_rfl)) T.f_bool (by decide +kernel) (rp_v 0)) (nomark _)))
      (rss_one (rs_ret (re_p (rp_bl))))
      (rss_nil))
      (rss_cons (rs_if (rt_b (rb_cmp (o_neU hr.units) (rp_isi .int (gl_of (by kernel_rfl)) T.f_isinstance (gl_of (by kernel_rfl)) T.f_int (by decide +kernel) (rp_v 1)) (rp_isi .int (gl_of (by kernel_rfl)) T.f_isinstance (gl_of (by kernel_rfl)) T.f_int (by decide +kernel) (rp_v 0)) (nomark _)))
      (rss_one (rs_ret (re_p (rp_bl))))
      (rss_nil))
      (rss_one (rs_ret (re_p (rp_and (rp_cmp (o_eqU hr.units) (rp_isi .str (gl_of (by kernel_rfl)) T.f_isinstance (gl_of (by kernel_rfl)) T.f_str (by decide +kernel) (rp_v 1)) (rp_isi .str (gl_of (by kernel_rfl)) T.f_isinstance (gl_of (by kernel_rfl)) T.f_str (by decide +kernel) (rp_v 0)) (nomark _)) (rp_one (rp_cmp (o_eqU hr.units) (rp_v 0) (rp_v 1) (nomark _))))))))))
def N_l_field : List Str := ["_law_e"]
theorem sc_l_field : FnScope N_l_field ["_law_e"] (defScope (topS 26)) := ⟨rfl, rfl, rfl, by decide +kernel, rfl, by decide +kernel, by decide +kernel⟩
def w_l_field_4 (a dx : Addr) : WS :=
  wRet (wP (fIf (bV (fOp (gEqU false) (fXf a dx (fV 0) "code") (fC (.str "InvalidPage")))) (fTup (fCons (fXf a dx (fV 0) "line") (fNil))) (fTup (fCons (fXf a dx (fV 0) "given") (fNil)))))
def w_l_field_3 (a dx : Addr) : WS :=
  wSeq (wIf (wB (bV (fOp (gEqU false) (fXf a dx (fV 0) "code") (fC (.str "NothingLeft")))))
  (wRet (wP (fTup (fNil))))
  (wNext)) (w_l_field_4 a dx)
def w_l_field_2 (a dx : Addr) : WS :=
  wSeq (wIf (wB (bV (fOp (gInU false) (fXf a dx (fV 0) "code") (fTup (fCons (fC (.str "TooMany")) (fCons (fC (.str "Full")) (fNil)))))))
  (wRet (wP (fIf (bV (fOp (gEqU false) (fXf a dx (fV 0) "code") (fC (.str "TooMany")))) (fTup (fCons (fXf a dx (fV 0) "most") (fNil))) (fTup (fCons (fXf a dx (fV 0) "limit") (fNil))))))
  (wNext)) (w_l_field_3 a dx)
def w_l_field_1 (a dx : Addr) : WS :=
  wSeq (wIf (wB (bV (fOp (gInU false) (fXf a dx (fV 0) "code") (fTup (fCons (fC (.str "DuplicateName")) (fCons (fC (.str "NotAThing")) (fCons (fC (.str "UnknownName")) (fNil))))))))
  (wRet (wP (fTup (fCons (fXf a dx (fV 0) "name") (fNil)))))
  (wNext)) (w_l_field_2 a dx)
def w_l_field_0 (a dx : Addr) : WS :=
  wSeq (wIf (wB (bV (fOp (gInU false) (fXf a dx (fV 0) "code") (fTup (fCons (fC (.str "InvalidSpan")) (fCons (fC (.str "InvalidSeat")) (fCons (fC (.str "InvalidRecord")) (fCons (fC (.str "Clash")) (fCons (fC (.str "Contradiction")) (fCons (fC (.str "InvalidCommand")) (fNil)))))))))))
  (wRet (wP (fTup (fCons (fXf a dx (fV 0) "at") (fNil)))))
  (wNext)) (w_l_field_1 a dx)
abbrev w_l_field (a dx : Addr) : WS := w_l_field_0 a dx
theorem b_l_field {P : Program} {w0 : World} {K : PySem.W.Frag} {mg : Str → Option Value} {base : Heap} {ci : Ci} {f : Addr} {C : Addr} (T : Tc mg) (NA : ∀ n ∈ exoNames, PySem.W.findIn K (.ref C) n = some none)  :
    BodyX P w0 K mg base ci N_l_field "_law_field" (defScope (topS 26)) f (defBody (topS 26)) (w_l_field) C := by
  intro a dx oe cdv A outer s H E hr TX
  have hu := (show _ from hr.un)
  have ND : N_l_field.Nodup := sc_l_field.nd
  unfold w_l_field w_l_field_0 w_l_field_1 w_l_field_2 w_l_field_3 w_l_field_4
  exact rss_cons (rs_if (rt_b (rb_cmp o_inU (rp_xf TX (NA _ (by decide +kernel)) (rp_v 0)) (rp_tup (rps_cons (rp_str) (rps_cons (rp_str) (rps_cons (rp_str) (rps_cons (rp_str) (rps_cons (rp_str) (rps_cons (rp_str) (rps_nil)))))))) (by rfl)))
      (rss_one (rs_ret (re_p (rp_tup (rps_cons (rp_xf TX (NA _ (by decide +kernel)) (rp_v 0)) (rps_nil))))))
      (rss_nil))
      (rss_cons (rs_if (rt_b (rb_cmp o_inU (rp_xf TX (NA _ (by decide +kernel)) (rp_v 0)) (rp_tup (rps_cons (rp_str) (rps_cons (rp_str) (rps_cons (rp_str) (rps_nil))))) (by rfl)))
      (rss_one (rs_ret (re_p (rp_tup (rps_cons (rp_xf TX (NA _ (by decide +kernel)) (rp_v 0)) (rps_nil))))))
      (rss_nil))
      (rss_cons (rs_if (rt_b (rb_cmp o_inU (rp_xf TX (NA _ (by decide +kernel)) (rp_v 0)) (rp_tup (rps_cons (rp_str) (rps_cons (rp_str) (rps_nil)))) (by rfl)))
      (rss_one (rs_ret (re_p (rp_ife (rb_cmp (o_eqU (hu_of hr)) (rp_xf TX (NA _ (by decide +kernel)) (rp_v 0)) (rp_str) (nomark _)) (rp_tup (rps_cons (rp_xf TX (NA _ (by decide +kernel)) (rp_v 0)) (rps_nil))) (rp_tup (rps_cons (rp_xf TX (NA _ (by decide +kernel)) (rp_v 0)) (rps_nil)))))))
      (rss_nil))
      (rss_cons (rs_if (rt_b (rb_cmp (o_eqU (hu_of hr)) (rp_xf TX (NA _ (by decide +kernel)) (rp_v 0)) (rp_str) (nomark _)))
      (rss_one (rs_ret (re_p (rp_tup (rps_nil)))))
      (rss_nil))
      (rss_one (rs_ret (re_p (rp_ife (rb_cmp (o_eqU (hu_of hr)) (rp_xf TX (NA _ (by decide +kernel)) (rp_v 0)) (rp_str) (nomark _)) (rp_tup (rps_cons (rp_xf TX (NA _ (by decide +kernel)) (rp_v 0)) (rps_nil))) (rp_tup (rps_cons (rp_xf TX (NA _ (by decide +kernel)) (rp_v 0)) (rps_nil))))))))))
def N_l_whys : List Str := ["_law_asks", "_law_ask"]
theorem sc_l_whys : FnScope N_l_whys ["_law_asks"] (defScope (topS 28)) := ⟨rfl, rfl, rfl, by decide +kernel, rfl, by decide +kernel, by decide +kernel⟩
def w_l_whys_0 (fcw : FC) : WS :=
  wRet (wLc (wI (iL (fV 0))) (tgN 1) [1] (fun _ S _ Q => Q true S) (wFnM [] fcw (wPs (fCons (fV 1) (fNil)))))
abbrev w_l_whys (fcw : FC) : WS := w_l_whys_0 fcw
theorem b_l_whys {P : Program} {w0 : World} {K : PySem.W.Frag} {mg : Str → Option Value} {base : Heap} {ci : Ci} {f : Addr} (fcw : FC) (T : Tc mg) (C_l_why : CallP P w0 K mg base ci (8) "_law_why" [] (spOf K ci fcw)) :
    Body P w0 K mg base ci N_l_whys "_law_whys" (defScope (topS 28)) f (9) (defBody (topS 28)) (w_l_whys fcw) := by
  intro cdv A outer s H E hr
  have ND : N_l_whys.Nodup := sc_l_whys.nd
  unfold w_l_whys w_l_whys_0
  exact rss_one (rs_ret (re_lcv [("_law_ask", 1)] rfl rfl ND (rie_p (ri_list (rp_v 0))) (by kernel_rfl) (fun _ _ _ _ _ => rg_n 1 ND (by rfl) (loc_of (by kernel_rfl))) (fun _ _ _ _ _ => rce_nil) (fun _ _ _ _ _ => re_callM C_l_why (hr.mono (by omega)) (gl_of (by kernel_rfl)) (ra_p (rps_cons (rp_v 1) (rps_nil))))))
def N_l_odd : List Str := ["_law_bag_here"]
theorem sc_l_odd : FnScope N_l_odd ["_law_bag_here"] (defScope (topS 29)) := ⟨rfl, rfl, rfl, by decide +kernel, rfl, by decide +kernel, by decide +kernel⟩
def w_l_odd_0  : WS :=
  wRet (wFnM [] fc_pick (wPs (fCons (fV 0) (fCons (fLst (fCons (fC .non) (fCons (fC (.bl true)) (fCons (fOp gSub (fC (.int 0)) (fC (.int 1))) (fCons (fOp gPow (fC (.int 10)) (fC (.int 18))) (fCons (fC (.str "")) (fCons (fC (.str "A")) (fCons (fC (.str "abcdefghi")) (fCons (fLst (fCons (fC (.int 1)) (fNil))) (fCons (fTup (fCons (fC (.int 1)) (fCons (fC (.str "a")) (fNil)))) (fCons (fC (.str "1 ")) (fNil)))))))))))) (fNil)))))
abbrev w_l_odd  : WS := w_l_odd_0
theorem b_l_odd {P : Program} {w0 : World} {K : PySem.W.Frag} {mg : Str → Option Value} {base : Heap} {ci : Ci} {f : Addr}  (T : Tc mg) (C_l_pick : CallP P w0 K mg base ci (2) "_law_pick" [] (spOf K ci fc_pick)) :
    Body P w0 K mg base ci N_l_odd "_law_odd" (defScope (topS 29)) f (2) (defBody (topS 29)) (w_l_odd ) := by
  intro cdv A outer s H E hr
  have ND : N_l_odd.Nodup := sc_l_odd.nd
  unfold w_l_odd w_l_odd_0
  exact rss_one (rs_ret (re_callM C_l_pick (hr.mono (by omega)) (gl_of (by kernel_rfl)) (ra_p (rps_cons (rp_v 0) (rps_cons (rp_lst (rps_cons (rp_non) (rps_cons (rp_bl) (rps_cons (rp_op o_sub (rp_int) (rp_int)) (rps_cons (rp_op o_pow (rp_int) (rp_int)) (rps_cons (rp_str) (rps_cons (rp_str) (rps_cons (rp_str) (rps_cons (rp_lst (rps_cons (rp_int) (rps_nil))) (rps_cons (rp_tup (rps_cons (rp_int) (rps_cons (rp_str) (rps_nil)))) (rps_cons (rp_str) (rps_nil)))))))))))) (rps_nil))))))
def N_l_in : List Str := ["_law_number", "_law_spans_here", "_law_low", "_law_high"]
theorem sc_l_in : FnScope N_l_in ["_law_number", "_law_spans_here"] (defScope (topS 30)) := ⟨rfl, rfl, rfl, by decide +kernel, rfl, by decide +kernel, by decide +kernel⟩
def w_l_in_0  : WS :=
  wRet (wP (fCall (gBools fun l => l.any id) (fCons (fComp (iL (fV 1)) (tgT [2, 3]) [2, 3] (fun _ _ => some true) (fChain gLe gLe (fV 2) (fV 0) (fV 3))) (fNil))))
abbrev w_l_in  : WS := w_l_in_0
theorem b_l_in {P : Program} {w0 : World} {K : PySem.W.Frag} {mg : Str → Option Value} {base : Heap} {ci : Ci} {f : Addr}  (T : Tc mg)  :
    Body P w0 K mg base ci N_l_in "_law_in" (defScope (topS 30)) f (0) (defBody (topS 30)) (w_l_in ) := by
  intro cdv A outer s H E hr
  have ND : N_l_in.Nodup := sc_l_in.nd
  unfold w_l_in w_l_in_0
  exact rss_one (rs_ret (re_p (rp_callB (c_any rfl) (gl_of (by kernel_rfl)) T.f_any (by decide +kernel) (rps_cons (rp_lcv [("_law_low", 2), ("_law_high", 3)] rfl rfl ND (ri_list (rp_v 1)) (by kernel_rfl) (fun _ _ _ _ _ => rg_t rfl (rgs_n 2 ND (by rfl) (loc_of (by kernel_rfl)) (rgs_n 3 ND (by rfl) (loc_of (by kernel_rfl)) (rgs_nil)))) (fun _ _ _ _ _ => rc_nil) (fun _ _ _ _ _ => rp_chain o_le o_le (rp_v 2) (rp_v 0) (rp_v 3))) (rps_nil)))))
def N_l_runs : List Str := ["_law_spans_here", "_law_found", "_law_low", "_law_high", "_law_last"]
theorem sc_l_runs : FnScope N_l_runs ["_law_spans_here"] (defScope (topS 31)) := ⟨rfl, rfl, rfl, by decide +kernel, rfl, by decide +kernel, by decide +kernel⟩
def w_l_runs_for1_0  : WS :=
  wIf (wB (bAnd (bV (fOp (gEqU true) (fV 1) (fLst (fNil)))) (bV (fOp gLe (fV 2) (fOp gPlus (fOp gIx (fOp gIx (fV 1) (fOp gSub (fCall gLen (fCons (fV 1) (fNil))) (fC (.int 1)))) (fC (.int 1))) (fC (.int 1)))))))
  (wSeq (wAsg 4 (wLM gPop (wP (fV 1)) wNil))
  (wDrop (wLM gApp (wP (fV 1)) (wPs (fCons (fTup (fCons (fOp gIx (fV 4) (fC (.int 0))) (fCons (fCall gMax2 (fCons (fCall gIntA (fCons (fOp gIx (fV 4) (fC (.int 1))) (fNil))) (fCons (fCall gIntA (fCons (fV 3) (fNil))) (fNil)))) (fNil)))) (fNil))))))
  (wDrop (wLM gApp (wP (fV 1)) (wPs (fCons (fTup (fCons (fV 2) (fCons (fV 3) (fNil)))) (fNil)))))
def w_l_runs_2  : WS :=
  wRet (wFrz (wP (fV 1)))
def w_l_runs_1  : WS :=
  wSeq (wFor (wI (iL (fCall gSortP (fCons (fV 0) (fNil))))) (tgT [2, 3])
  (w_l_runs_for1_0)) (w_l_runs_2)
def w_l_runs_0  : WS :=
  wSeq (wAsg 1 (wNewL (wPs (fNil)))) (w_l_runs_1)
abbrev w_l_runs  : WS := w_l_runs_0
theorem b_l_runs {P : Program} {w0 : World} {K : PySem.W.Frag} {mg : Str → Option Value} {base : Heap} {ci : Ci} {f : Addr}  (T : Tc mg)  :
    Body P w0 K mg base ci N_l_runs "_law_runs" (defScope (topS 31)) f (0) (defBody (topS 31)) (w_l_runs ) := by
  intro cdv A outer s H E hr
  have ND : N_l_runs.Nodup := sc_l_runs.nd
  unfold w_l_runs w_l_runs_0 w_l_runs_1 w_l_runs_2 w_l_runs_for1_0
  exact rss_cons (rs_asg 1 ND (re_newL (ra_p (rps_nil))))
      (rss_cons (rs_for (passes_of rfl) rfl (rie_p (ri_list (rp_callB c_sortP (gl_of (by kernel_rfl)) T.f_sorted (by decide +kernel) (rps_cons (rp_v 0) (rps_nil))))) (rg_t rfl (rgs_n 2 ND (by rfl) (loc_of (by kernel_rfl)) (rgs_n 3 ND (by rfl) (loc_of (by kernel_rfl)) (rgs_nil))))
      (rss_one (rs_if (rt_b (rb_w (rw_and (rb_cmp (o_neU hr.units) (rp_v 1) (rp_lst (rps_nil)) (nomark _)) (rw_and1 (rb_cmp o_le (rp_v 2) (rp_op o_plus (rp_ix (rp_ix (rp_v 1) (rp_op o_sub (rp_callB c_len (gl_of (by kernel_rfl)) T.f_len (by decide +kernel) (rps_cons (rp_v 1) (rps_nil))) (rp_int))) (rp_int)) (rp_int)) (nomark _))))))
      (rss_cons (rs_asg 4 ND (re_lm0 PySem.F.slot_list_pop PySem.F.type_list_pop l_pop (re_p (rp_v 1))))
      (rss_one (rs_expr (re_lm PySem.F.slot_list_append PySem.F.type_list_append l_append (re_p (rp_v 1)) (ra_p (rps_cons (rp_tup (rps_cons (rp_ix (rp_v 4) (rp_int)) (rps_cons (rp_callB (c_max2 rfl) (gl_of (by kernel_rfl)) T.f_max (by decide +kernel) (rps_cons (rp_callTy c_intA (gl_of (by kernel_rfl)) T.f_int (by decide +kernel) (rps_cons (rp_ix (rp_v 4) (rp_int)) (rps_nil))) (rps_cons (rp_callTy c_intA (gl_of (by kernel_rfl)) T.f_int (by decide +kernel) (rps_cons (rp_v 3) (rps_nil))) (rps_nil)))) (rps_nil)))) (rps_nil)))))))
      (rss_one (rs_expr (re_lm PySem.F.slot_list_append PySem.F.type_list_append l_append (re_p (rp_v 1)) (ra_p (rps_cons (rp_tup (rps_cons (rp_v 2) (rps_cons (rp_v 3) (rps_nil)))) (rps_nil)))))))))
      (rss_one (rs_ret (re_frz (re_p (rp_v 1))))))
def N_l_letter : List Str := ["_law_spans_here"]
theorem sc_l_letter : FnScope N_l_letter ["_law_spans_here"] (defScope (topS 32)) := ⟨rfl, rfl, rfl, by decide +kernel, rfl, by decide +kernel, by decide +kernel⟩
def w_l_letter_1  : WS :=
  wRet (wP (fIf (bV (fOp (gEqU false) (fCall gLen (fCons (fV 0) (fNil))) (fC (.int 2)))) (fMake 0 [] G_Letter (fCons (fOp gIx (fV 0) (fC (.int 0))) (fCons (fOp gIx (fV 0) (fC (.int 1))) (fNil)))) (fMake 0 [] G_Letter (fCons (fOp gIx (fV 0) (fC (.int 0))) (fCons (fOp gIx (fV 0) (fC (.int 1))) (fCons (fOp gIx (fV 0) (fC (.int 2))) (fNil)))))))
def w_l_letter_0  : WS :=
  wSeq (wIf (wB (bV (fOp gLt (fCall gLen (fCons (fV 0) (fNil))) (fC (.int 2)))))
  (wRet (wP (fIf (bV (fOp (gEqU false) (fV 0) (fLst (fNil)))) (fMake 0 [] G_Letter fNil) (fMake 0 [] G_Letter (fCons (fOp gIx (fV 0) (fC (.int 0))) (fNil))))))
  (wNext)) (w_l_letter_1)
abbrev w_l_letter  : WS := w_l_letter_0
theorem b_l_letter {P : Program} {w0 : World} {K : PySem.W.Frag} {mg : Str → Option Value} {base : Heap} {ci : Ci} {f : Addr}  (T : Tc mg) (MS_Letter : MakeS P w0 K mg base ci 4 "Letter" 0 G_Letter) :
    Body P w0 K mg base ci N_l_letter "_law_letter" (defScope (topS 32)) f (5) (defBody (topS 32)) (w_l_letter ) := by
  intro cdv A outer s H E hr
  have ND : N_l_letter.Nodup := sc_l_letter.nd
  unfold w_l_letter w_l_letter_0 w_l_letter_1
  exact rss_cons (rs_if (rt_b (rb_cmp o_lt (rp_callB c_len (gl_of (by kernel_rfl)) T.f_len (by decide +kernel) (rps_cons (rp_v 0) (rps_nil))) (rp_int) (nomark _)))
      (rss_one (rs_ret (re_p (rp_ife (rb_cmp (o_eqU hr.units) (rp_v 0) (rp_lst (rps_nil)) (nomark _)) (rp_makeS0 MS_Letter (hr.mono (by omega)) (gl_of (by kernel_rfl))) (rp_makeS MS_Letter (hr.mono (by omega)) (gl_of (by kernel_rfl)) (rps_cons (rp_ix (rp_v 0) (rp_int)) (rps_nil)))))))
      (rss_nil))
      (rss_one (rs_ret (re_p (rp_ife (rb_cmp (o_eqU hr.units) (rp_callB c_len (gl_of (by kernel_rfl)) T.f_len (by decide +kernel) (rps_cons (rp_v 0) (rps_nil))) (rp_int) (nomark _)) (rp_makeS MS_Letter (hr.mono (by omega)) (gl_of (by kernel_rfl)) (rps_cons (rp_ix (rp_v 0) (rp_int)) (rps_cons (rp_ix (rp_v 0) (rp_int)) (rps_nil)))) (rp_makeS MS_Letter (hr.mono (by omega)) (gl_of (by kernel_rfl)) (rps_cons (rp_ix (rp_v 0) (rp_int)) (rps_cons (rp_ix (rp_v 0) (rp_int)) (rps_cons (rp_ix (rp_v 0) (rp_int)) (rps_nil)))))))))
def N_l_span : List Str := ["_law_bag_here", "_law_base", "_law_low"]
theorem sc_l_span : FnScope N_l_span ["_law_bag_here", "_law_base"] (defScope (topS 33)) := ⟨rfl, rfl, rfl, by decide +kernel, rfl, by decide +kernel, by decide +kernel⟩
def w_l_span_1  : WS :=
  wRet (wTup (wCons (wP (fV 2)) (wCons (wOp gPlus (wP (fV 2)) (wFnM [] fc_pick (wCons (wP (fV 0)) (wCons (wLst (wCons (wP (fC (.int 0))) (wCons (wP (fC (.int 0))) (wCons (wP (fC (.int 1))) (wCons (wFnM [] fc_pull (wPs (fCons (fV 0) (fCons (fC (.int 6)) (fNil))))) (wNil)))))) (wNil))))) (wNil))))
def w_l_span_0  : WS :=
  wSeq (wAsg 2 (wOp gPlus (wP (fV 1)) (wFnM [] fc_pull (wPs (fCons (fV 0) (fCons (fC (.int 12)) (fNil))))))) (w_l_span_1)
abbrev w_l_span  : WS := w_l_span_0
theorem b_l_span {P : Program} {w0 : World} {K : PySem.W.Frag} {mg : Str → Option Value} {base : Heap} {ci : Ci} {f : Addr}  (T : Tc mg) (C_l_pull : CallP P w0 K mg base ci (1) "_law_pull" [] (spOf K ci fc_pull)) (C_l_pick : CallP P w0 K mg base ci (2) "_law_pick" [] (spOf K ci fc_pick)) :
    Body P w0 K mg base ci N_l_span "_law_span" (defScope (topS 33)) f (2) (defBody (topS 33)) (w_l_span ) := by
  intro cdv A outer s H E hr
  have ND : N_l_span.Nodup := sc_l_span.nd
  unfold w_l_span w_l_span_0 w_l_span_1
  exact rss_cons (rs_asg 2 ND (re_op o_plus (re_p (rp_v 1)) (re_callM C_l_pull (hr.mono (by omega)) (gl_of (by kernel_rfl)) (ra_p (rps_cons (rp_v 0) (rps_cons (rp_int) (rps_nil)))))))
      (rss_one (rs_ret (re_tup (ra_cons (re_p (rp_v 2)) (ra_cons (re_op o_plus (re_p (rp_v 2)) (re_callM C_l_pick (hr.mono (by omega)) (gl_of (by kernel_rfl)) (ra_cons (re_p (rp_v 0)) (ra_cons (re_lst (ra_cons (re_p (rp_int)) (ra_cons (re_p (rp_int)) (ra_cons (re_p (rp_int)) (ra_cons (re_callM C_l_pull (hr.mono (by omega)) (gl_of (by kernel_rfl)) (ra_p (rps_cons (rp_v 0) (rps_cons (rp_int) (rps_nil))))) (ra_nil)))))) (ra_nil))))) (ra_nil))))))
def N_l_spans : List Str := ["_law_bag_here", "_law_base", "_law_k"]
theorem sc_l_spans : FnScope N_l_spans ["_law_bag_here"] (defScope (topS 34)) := ⟨rfl, rfl, rfl, by decide +kernel, rfl, by decide +kernel, by decide +kernel⟩
def w_l_spans_1  : WS :=
  wRet (wLc (wIR1 (wFnM [] fc_pull (wPs (fCons (fV 0) (fCons (fC (.int 4)) (fNil)))))) (tgN 2) [2] (fun _ S _ Q => Q true S) (wFnM [] fc_span (wPs (fCons (fV 0) (fCons (fV 1) (fNil))))))
def w_l_spans_0  : WS :=
  wSeq (wAsg 1 (wFnM [] fc_pick (wCons (wP (fV 0)) (wCons (wLst (wCons (wP (fC (.int 0))) (wCons (wP (fC (.int 5))) (wCons (wP (fC (.int 90))) (wCons (wP (fOp gSub (fOp gPow (fC (.int 10)) (fC (.int 18))) (fC (.int 30)))) (wCons (wFnM [] fc_pull (wPs (fCons (fV 0) (fCons (fOp gPow (fC (.int 10)) (fC (.int 17))) (fNil))))) (wNil))))))) (wNil))))) (w_l_spans_1)
abbrev w_l_spans  : WS := w_l_spans_0
theorem b_l_spans {P : Program} {w0 : World} {K : PySem.W.Frag} {mg : Str → Option Value} {base : Heap} {ci : Ci} {f : Addr}  (T : Tc mg) (C_l_pick : CallP P w0 K mg base ci (2) "_law_pick" [] (spOf K ci fc_pick)) (C_l_pull : CallP P w0 K mg base ci (1) "_law_pull" [] (spOf K ci fc_pull)) (C_l_span : CallP P w0 K mg base ci (3) "_law_span" [] (spOf K ci fc_span)) :
    Body P w0 K mg base ci N_l_spans "_law_spans" (defScope (topS 34)) f (3) (defBody (topS 34)) (w_l_spans ) := by
  intro cdv A outer s H E hr
  have ND : N_l_spans.Nodup := sc_l_spans.nd
  unfold w_l_spans w_l_spans_0 w_l_spans_1
  exact rss_cons (rs_asg 1 ND (re_callM C_l_pick (hr.mono (by omega)) (gl_of (by kernel_rfl)) (ra_cons (re_p (rp_v 0)) (ra_cons (re_lst (ra_cons (re_p (rp_int)) (ra_cons (re_p (rp_int)) (ra_cons (re_p (rp_int)) (ra_cons (re_p (rp_op o_sub (rp_op o_pow (rp_int) (rp_int)) (rp_int))) (ra_cons (re_callM C_l_pull (hr.mono (by omega)) (gl_of (by kernel_rfl)) (ra_p (rps_cons (rp_v 0) (rps_cons (rp_op o_pow (rp_int) (rp_int)) (rps_nil))))) (ra_nil))))))) (ra_nil)))))
      (rss_one (rs_ret (re_lcv [("_law_k", 2)] rfl rfl ND (rie_r1 (gl_of (by kernel_rfl)) T.f_range (re_callM C_l_pull (hr.mono (by omega)) (gl_of (by kernel_rfl)) (ra_p (rps_cons (rp_v 0) (rps_cons (rp_int) (rps_nil)))))) (by kernel_rfl) (fun _ _ _ _ _ => rg_n 2 ND (by rfl) (loc_of (by kernel_rfl))) (fun _ _ _ _ _ => rce_nil) (fun _ _ _ _ _ => re_callM C_l_span (hr.mono (by omega)) (gl_of (by kernel_rfl)) (ra_p (rps_cons (rp_v 0) (rps_cons (rp_v 1) (rps_nil))))))))
def N_l_near : List Str := ["_law_spans_here", "_law_found", "_law_low", "_law_high", "_law_number"]
theorem sc_l_near : FnScope N_l_near ["_law_spans_here"] (defScope (topS 35)) := ⟨rfl, rfl, rfl, by decide +kernel, rfl, by decide +kernel, by decide +kernel⟩
def w_l_near_for1_0  : WS :=
  wAsg 1 (wP (fOp gPlus (fV 1) (fLst (fCons (fOp gSub (fV 2) (fC (.int 1))) (fCons (fV 2) (fCons (fV 3) (fCons (fOp gPlus (fV 3) (fC (.int 1))) (fNil))))))))
def w_l_near_2  : WS :=
  wRet (wP (fComp (iL (fV 1)) (tgN 4) [4] (bV (fChain gLe gLt (fC (.int 0)) (fV 4) (fOp gPow (fC (.int 10)) (fC (.int 18))))) (fV 4)))
def w_l_near_1  : WS :=
  wSeq (wFor (wI (iL (fV 0))) (tgT [2, 3])
  (w_l_near_for1_0)) (w_l_near_2)
def w_l_near_0  : WS :=
  wSeq (wAsg 1 (wP (fLst (fCons (fC (.int 0)) (fCons (fOp gSub (fOp gPow (fC (.int 10)) (fC (.int 18))) (fC (.int 1))) (fNil)))))) (w_l_near_1)
abbrev w_l_near  : WS := w_l_near_0
theorem b_l_near {P : Program} {w0 : World} {K : PySem.W.Frag} {mg : Str → Option Value} {base : Heap} {ci : Ci} {f : Addr}  (T : Tc mg)  :
    Body P w0 K mg base ci N_l_near "_law_near" (defScope (topS 35)) f (0) (defBody (topS 35)) (w_l_near ) := by
  intro cdv A outer s H E hr
  have ND : N_l_near.Nodup := sc_l_near.nd
  unfold w_l_near w_l_near_0 w_l_near_1 w_l_near_2 w_l_near_for1_0
  exact rss_cons (rs_asg 1 ND (re_p (rp_lst (rps_cons (rp_int) (rps_cons (rp_op o_sub (rp_op o_pow (rp_int) (rp_int)) (rp_int)) (rps_nil))))))
      (rss_cons (rs_for (passes_of rfl) rfl (rie_p (ri_list (rp_v 0))) (rg_t rfl (rgs_n 2 ND (by rfl) (loc_of (by kernel_rfl)) (rgs_n 3 ND (by rfl) (loc_of (by kernel_rfl)) (rgs_nil))))
      (rss_one (rs_asg 1 ND (re_p (rp_op o_plus (rp_v 1) (rp_lst (rps_cons (rp_op o_sub (rp_v 2) (rp_int)) (rps_cons (rp_v 2) (rps_cons (rp_v 3) (rps_cons (rp_op o_plus (rp_v 3) (rp_int)) (rps_nil)))))))))))
      (rss_one (rs_ret (re_p (rp_lcv [("_law_number", 4)] rfl rfl ND (ri_list (rp_v 1)) (by kernel_rfl) (fun _ _ _ _ _ => rg_n 4 ND (by rfl) (loc_of (by kernel_rfl))) (fun _ _ _ _ _ => rc_one (rb_chain o_le o_lt (rp_int) (rp_v 4) (rp_op o_pow (rp_int) (rp_int)))) (fun _ _ _ _ _ => rp_v 4))))))
def N_l_span_text : List Str := ["_law_low", "_law_high"]
theorem sc_l_span_text : FnScope N_l_span_text ["_law_low", "_law_high"] (defScope (topS 36)) := ⟨rfl, rfl, rfl, by decide +kernel, rfl, by decide +kernel, by decide +kernel⟩
def w_l_span_text_0  : WS :=
  wRet (wP (fIf (bV (fOp (gEqU false) (fV 0) (fV 1))) (fCall gStr (fCons (fV 0) (fNil))) (fOp gPlus (fOp gPlus (fCall gStr (fCons (fV 0) (fNil))) (fC (.str "-"))) (fCall gStr (fCons (fV 1) (fNil))))))
abbrev w_l_span_text  : WS := w_l_span_text_0
theorem b_l_span_text {P : Program} {w0 : World} {K : PySem.W.Frag} {mg : Str → Option Value} {base : Heap} {ci : Ci} {f : Addr}  (T : Tc mg)  :
    Body P w0 K mg base ci N_l_span_text "_law_span_text" (defScope (topS 36)) f (0) (defBody (topS 36)) (w_l_span_text ) := by
  intro cdv A outer s H E hr
  have ND : N_l_span_text.Nodup := sc_l_span_text.nd
  unfold w_l_span_text w_l_span_text_0
  exact rss_one (rs_ret (re_p (rp_ife (rb_cmp (o_eqU hr.units) (rp_v 0) (rp_v 1) (nomark _)) (rp_callTy c_str (gl_of (by kernel_rfl)) T.f_str (by decide +kernel) (rps_cons (rp_v 0) (rps_nil))) (rp_op o_plus (rp_op o_plus (rp_callTy c_str (gl_of (by kernel_rfl)) T.f_str (by decide +kernel) (rps_cons (rp_v 0) (rps_nil))) (rp_str)) (rp_callTy c_str (gl_of (by kernel_rfl)) T.f_str (by decide +kernel) (rps_cons (rp_v 1) (rps_nil)))))))
def N_l_runs_text : List Str := ["_law_runs_here", "_law_low", "_law_high"]
theorem sc_l_runs_text : FnScope N_l_runs_text ["_law_runs_here"] (defScope (topS 37)) := ⟨rfl, rfl, rfl, by decide +kernel, rfl, by decide +kernel, by decide +kernel⟩
def w_l_runs_text_0  : WS :=
  wRet (wP (fIf (bV (fOp (gEqU false) (fV 0) (fLst (fNil)))) (fC (.str "none")) (fM1 gJoin (fC (.str "; ")) (fComp (iL (fV 0)) (tgT [1, 2]) [1, 2] (fun _ _ => some true) (fFn [] G_stext (fCons (fV 1) (fCons (fV 2) (fNil))))))))
abbrev w_l_runs_text  : WS := w_l_runs_text_0
theorem b_l_runs_text {P : Program} {w0 : World} {K : PySem.W.Frag} {mg : Str → Option Value} {base : Heap} {ci : Ci} {f : Addr}  (T : Tc mg) (C_l_span_text : CallP P w0 K mg base ci (1) "_law_span_text" [] (spP K ci G_stext)) :
    Body P w0 K mg base ci N_l_runs_text "_law_runs_text" (defScope (topS 37)) f (1) (defBody (topS 37)) (w_l_runs_text ) := by
  intro cdv A outer s H E hr
  have ND : N_l_runs_text.Nodup := sc_l_runs_text.nd
  unfold w_l_runs_text w_l_runs_text_0
  exact rss_one (rs_ret (re_p (rp_ife (rb_cmp (o_eqU hr.units) (rp_v 0) (rp_lst (rps_nil)) (nomark _)) (rp_str) (rp_m1 F.slot_str_join F.type_str_join m_join (rp_str) (rp_lcv [("_law_low", 1), ("_law_high", 2)] rfl rfl ND (ri_list (rp_v 0)) (by kernel_rfl) (fun _ _ _ _ _ => rg_t rfl (rgs_n 1 ND (by rfl) (loc_of (by kernel_rfl)) (rgs_n 2 ND (by rfl) (loc_of (by kernel_rfl)) (rgs_nil)))) (fun _ _ _ _ _ => rc_nil) (fun _ _ _ _ _ => rp_call C_l_span_text (hr.mono (by omega)) (gl_of (by kernel_rfl)) (rps_cons (rp_v 1) (rps_cons (rp_v 2) (rps_nil)))))))))
end K
set_option maxHeartbeats 4000000
namespace K
open PySem PySem.Spec PyProof.Rows L2 LP
abbrev dnP (o : Except Er D) : Dn := { nx := fun _ _ => o = .ok .non, rt := fun a _ => ∃ d, a = .d d ∧ o = .ok d, ex := fun er _ => o = .error er }
theorem dBools_map : ∀ l : List Bool, dBools (l.map .bl) = some l
  | [] => rfl
  | b :: l => by rw [List.map_cons, dBools, dBools_map l]; rfl
theorem zip_pair : ∀ l : List D, List.zipWith LP.pairD l l = l.map fun d => LP.pairD d d
  | [] => rfl
  | d :: l => by rw [List.zipWith_cons_cons, zip_pair l]; rfl
theorem comp_sameL (m : Nat) (l : List D) (hl : ∀ d ∈ l, D.sam m d = true) : compL (eltF (tgT [2, 3]) [2, 3] (fun _ _ => some true) (fFn [] (G_same m) (fCons (fV 2) (fCons (fV 3) fNil))) [some (.d (.lst l)), some (.d (.lst l)), none, none] []) (List.zipWith LP.pairD l l) = some ((l.map fun _ => true).map .bl) := by
  rw [zip_pair, compL_map, List.map_map, ← compL_some]
  refine compL_congr fun d hd => ?_
  simp [eltF, tgT, setAll, wipeG, LP.pairD, fFn, fCons, fV, fNil, LP.dataOf, G_same, hl d hd, A.toD]
theorem comp_sameT (m : Nat) (l : List D) (hl : ∀ d ∈ l, D.sam m d = true) : compL (eltF (tgT [2, 3]) [2, 3] (fun _ _ => some true) (fFn [] (G_same m) (fCons (fV 2) (fCons (fV 3) fNil))) [some (.d (.tup l)), some (.d (.tup l)), none, none] []) (List.zipWith LP.pairD l l) = some ((l.map fun _ => true).map .bl) := by
  rw [zip_pair, compL_map, List.map_map, ← compL_some]
  refine compL_congr fun d hd => ?_
  simp [eltF, tgT, setAll, wipeG, LP.pairD, fFn, fCons, fV, fNil, LP.dataOf, G_same, hl d hd, A.toD]
theorem comp_same (m : Nat) (l : List D) (hl : ∀ d ∈ l, D.sam m d = true) : fComp (iZQ (fV 0) (fV 1)) (tgT [2, 3]) [2, 3] (fun _ _ => some true) (fFn [] (G_same m) (fCons (fV 2) (fCons (fV 3) fNil))) [some (.d (.lst l)), some (.d (.lst l)), none, none] [] = some (.d (.lst ((l.map fun _ => true).map .bl))) := by
  simp only [fComp, iZQ, twoT, viewT, fV, List.getElem?_cons_zero, List.getElem?_cons_succ, Option.bind_some, Option.map_some, viewL, comp_sameL m l hl]
theorem comp_same' (m : Nat) (l : List D) (hl : ∀ d ∈ l, D.sam m d = true) : fComp (iZQ (fV 0) (fV 1)) (tgT [2, 3]) [2, 3] (fun _ _ => some true) (fFn [] (G_same m) (fCons (fV 2) (fCons (fV 3) fNil))) [some (.d (.tup l)), some (.d (.tup l)), none, none] [] = some (.d (.lst ((l.map fun _ => true).map .bl))) := by
  simp only [fComp, iZQ, twoT, viewT, fV, List.getElem?_cons_zero, List.getElem?_cons_succ, Option.bind_some, Option.map_some, comp_sameT m l hl]
theorem all_true (S : So) (l : List D) : gBools (fun l => l.all id) S [.d (.lst ((l.map fun _ => true).map .bl))] = some (.bl true) := by
  simp only [gBools, viewL, Option.bind_some, dBools_map, Option.map_some]
  congr 2
  simp
theorem v_same (n : Nat) (ds : List D) (o : Except Er D) (h : G_same n ds = some o) : w_l_same (G_prev n) (stG N_l_same (ds.map A.d)) [] (dnP o) := by
  unfold G_same at h
  split at h
  · rename_i x y
    split at h
    · rename_i hc
      obtain ⟨rfl, hs⟩ := hc
      cases h
      cases x with
      | lst l =>
        cases n with
        | zero => cases hs
        | succ m =>
          have hl : ∀ d ∈ l, D.sam m d = true := by simpa [D.sam] using hs
          have c := comp_same m l hl
          simp only [w_l_same_0, w_l_same_1, w_l_same_2, w_l_same_3, w_l_same_4, N_l_same, G_prev, c, all_true, stG, wSeq, wIf, wAsg, wRet, wRetN, wNext, wDrop, wP, wB, wPs, wCons, wNil, wOp, wFn, wPar, wAsgT, wTup, wLst, wNewL, setIx_eq, setA, wM1, wI, wFor, bV, bNot, bAnd, bOr, fOp, fC, fV, fCons, fNil, fCall, fIsi, fAnd, fOr, fNot, chain_le, fTup, fLst, fIf, fFn, tgN, tgT, setAll, gI, gLen, gLe, gLt, gGe, gGt, LP.gSub, gMod, gFdiv, gPow, gPlus, gTimes, gIntA, gInt, gIsN, gIx, tyA, TN.sub, LP.dataOf, A.toD, viewL, viewQ, viewT, gEq_ii, gEq_ss, gEq_bb, gEq_nn, fSl, slV, oN, oS, iL, iR1, wFnM, gFdivW, tNot', tV, wFrz, fFld, fldV, gEither, gOwnIn, gOwnBin, gOwnEq, fIsiO, gIsiO, fProp, propV, fMeth, fMake, fMakeV, twoT, viewT, iZQ, iET, Option.bind_some, Option.map_some, Option.bind_none, Option.map_none, Option.bind, Option.map, List.getElem?_cons_zero, List.getElem?_cons_succ, List.getElem?_nil, List.set_cons_zero, List.set_cons_succ, List.set_nil, if_true, if_false, ↓reduceIte, Bool.not_true, Bool.not_false, decide_true, decide_false, Bool.false_eq_true, reduceCtorEq, true_and, false_and, and_true, and_false, not_true, not_false_eq_true, List.any_cons, List.any_nil, Bool.or_false, Bool.or_true, Bool.true_or, Bool.false_or, Bool.and_true, Bool.true_and, Bool.and_false, Bool.false_and, exists_eq_left, exists_eq_left', Option.some.injEq, A.d.injEq, D.int.injEq, D.bl.injEq, D.str.injEq, D.lst.injEq, D.tup.injEq, Except.ok.injEq, List.cons_append, List.nil_append, List.map_cons, List.map_nil, List.length_cons, List.length_nil, List.replicate, Nat.reduceSub, Nat.reduceAdd, List.append_nil, eq_self, or_true, true_or, or_false, false_or, Int.reduceNeg, Int.reducePow, Int.reduceLT, Int.reduceLE, List.length_set]
      | tup l =>
        cases n with
        | zero => cases hs
        | succ m =>
          have hl : ∀ d ∈ l, D.sam m d = true := by simpa [D.sam] using hs
          have c := comp_same' m l hl
          simp only [w_l_same_0, w_l_same_1, w_l_same_2, w_l_same_3, w_l_same_4, N_l_same, G_prev, c, all_true, stG, wSeq, wIf, wAsg, wRet, wRetN, wNext, wDrop, wP, wB, wPs, wCons, wNil, wOp, wFn, wPar, wAsgT, wTup, wLst, wNewL, setIx_eq, setA, wM1, wI, wFor, bV, bNot, bAnd, bOr, fOp, fC, fV, fCons, fNil, fCall, fIsi, fAnd, fOr, fNot, chain_le, fTup, fLst, fIf, fFn, tgN, tgT, setAll, gI, gLen, gLe, gLt, gGe, gGt, LP.gSub, gMod, gFdiv, gPow, gPlus, gTimes, gIntA, gInt, gIsN, gIx, tyA, TN.sub, LP.dataOf, A.toD, viewL, viewQ, viewT, gEq_ii, gEq_ss, gEq_bb, gEq_nn, fSl, slV, oN, oS, iL, iR1, wFnM, gFdivW, tNot', tV, wFrz, fFld, fldV, gEither, gOwnIn, gOwnBin, gOwnEq, fIsiO, gIsiO, fProp, propV, fMeth, fMake, fMakeV, twoT, viewT, iZQ, iET, Option.bind_some, Option.map_some, Option.bind_none, Option.map_none, Option.bind, Option.map, List.getElem?_cons_zero, List.getElem?_cons_succ, List.getElem?_nil, List.set_cons_zero, List.set_cons_succ, List.set_nil, if_true, if_false, ↓reduceIte, Bool.not_true, Bool.not_false, decide_true, decide_false, Bool.false_eq_true, reduceCtorEq, true_and, false_and, and_true, and_false, not_true, not_false_eq_true, List.any_cons, List.any_nil, Bool.or_false, Bool.or_true, Bool.true_or, Bool.false_or, Bool.and_true, Bool.true_and, Bool.and_false, Bool.false_and, exists_eq_left, exists_eq_left', Option.some.injEq, A.d.injEq, D.int.injEq, D.bl.injEq, D.str.injEq, D.lst.injEq, D.tup.injEq, Except.ok.injEq, List.cons_append, List.nil_append, List.map_cons, List.map_nil, List.length_cons, List.length_nil, List.replicate, Nat.reduceSub, Nat.reduceAdd, List.append_nil, eq_self, or_true, true_or, or_false, false_or, Int.reduceNeg, Int.reducePow, Int.reduceLT, Int.reduceLE, List.length_set]
      | ins c l => cases n <;> cases hs
      | dic c l => cases n <;> cases hs
      | fn a => cases n <;> cases hs
      | exc c ns l => cases n <;> cases hs
      | non => simp only [w_l_same_0, w_l_same_1, w_l_same_2, w_l_same_3, w_l_same_4, N_l_same, stG, wSeq, wIf, wAsg, wRet, wRetN, wNext, wDrop, wP, wB, wPs, wCons, wNil, wOp, wFn, wPar, wAsgT, wTup, wLst, wNewL, setIx_eq, setA, wM1, wI, wFor, bV, bNot, bAnd, bOr, fOp, fC, fV, fCons, fNil, fCall, fIsi, fAnd, fOr, fNot, chain_le, fTup, fLst, fIf, fFn, tgN, tgT, setAll, gI, gLen, gLe, gLt, gGe, gGt, LP.gSub, gMod, gFdiv, gPow, gPlus, gTimes, gIntA, gInt, gIsN, gIx, tyA, TN.sub, LP.dataOf, A.toD, viewL, viewQ, viewT, gEq_ii, gEq_ss, gEq_bb, gEq_nn, fSl, slV, oN, oS, iL, iR1, wFnM, gFdivW, tNot', tV, wFrz, fFld, fldV, gEither, gOwnIn, gOwnBin, gOwnEq, fIsiO, gIsiO, fProp, propV, fMeth, fMake, fMakeV, twoT, viewT, iZQ, iET, Option.bind_some, Option.map_some, Option.bind_none, Option.map_none, Option.bind, Option.map, List.getElem?_cons_zero, List.getElem?_cons_succ, List.getElem?_nil, List.set_cons_zero, List.set_cons_succ, List.set_nil, if_true, if_false, ↓reduceIte, Bool.not_true, Bool.not_false, decide_true, decide_false, Bool.false_eq_true, reduceCtorEq, true_and, false_and, and_true, and_false, not_true, not_false_eq_true, List.any_cons, List.any_nil, Bool.or_false, Bool.or_true, Bool.true_or, Bool.false_or, Bool.and_true, Bool.true_and, Bool.and_false, Bool.false_and, exists_eq_left, exists_eq_left', Option.some.injEq, A.d.injEq, D.int.injEq, D.bl.injEq, D.str.injEq, D.lst.injEq, D.tup.injEq, Except.ok.injEq, List.cons_append, List.nil_append, List.map_cons, List.map_nil, List.length_cons, List.length_nil, List.replicate, Nat.reduceSub, Nat.reduceAdd, List.append_nil, eq_self, or_true, true_or, or_false, false_or, Int.reduceNeg, Int.reducePow, Int.reduceLT, Int.reduceLE, List.length_set]
      | bl b => simp only [w_l_same_0, w_l_same_1, w_l_same_2, w_l_same_3, w_l_same_4, N_l_same, stG, wSeq, wIf, wAsg, wRet, wRetN, wNext, wDrop, wP, wB, wPs, wCons, wNil, wOp, wFn, wPar, wAsgT, wTup, wLst, wNewL, setIx_eq, setA, wM1, wI, wFor, bV, bNot, bAnd, bOr, fOp, fC, fV, fCons, fNil, fCall, fIsi, fAnd, fOr, fNot, chain_le, fTup, fLst, fIf, fFn, tgN, tgT, setAll, gI, gLen, gLe, gLt, gGe, gGt, LP.gSub, gMod, gFdiv, gPow, gPlus, gTimes, gIntA, gInt, gIsN, gIx, tyA, TN.sub, LP.dataOf, A.toD, viewL, viewQ, viewT, gEq_ii, gEq_ss, gEq_bb, gEq_nn, fSl, slV, oN, oS, iL, iR1, wFnM, gFdivW, tNot', tV, wFrz, fFld, fldV, gEither, gOwnIn, gOwnBin, gOwnEq, fIsiO, gIsiO, fProp, propV, fMeth, fMake, fMakeV, twoT, viewT, iZQ, iET, Option.bind_some, Option.map_some, Option.bind_none, Option.map_none, Option.bind, Option.map, List.getElem?_cons_zero, List.getElem?_cons_succ, List.getElem?_nil, List.set_cons_zero, List.set_cons_succ, List.set_nil, if_true, if_false, ↓reduceIte, Bool.not_true, Bool.not_false, decide_true, decide_false, Bool.false_eq_true, reduceCtorEq, true_and, false_and, and_true, and_false, not_true, not_false_eq_true, List.any_cons, List.any_nil, Bool.or_false, Bool.or_true, Bool.true_or, Bool.false_or, Bool.and_true, Bool.true_and, Bool.and_false, Bool.false_and, exists_eq_left, exists_eq_left', Option.some.injEq, A.d.injEq, D.int.injEq, D.bl.injEq, D.str.injEq, D.lst.injEq, D.tup.injEq, Except.ok.injEq, List.cons_append, List.nil_append, List.map_cons, List.map_nil, List.length_cons, List.length_nil, List.replicate, Nat.reduceSub, Nat.reduceAdd, List.append_nil, eq_self, or_true, true_or, or_false, false_or, Int.reduceNeg, Int.reducePow, Int.reduceLT, Int.reduceLE, List.length_set]
      | int b => simp only [w_l_same_0, w_l_same_1, w_l_same_2, w_l_same_3, w_l_same_4, N_l_same, stG, wSeq, wIf, wAsg, wRet, wRetN, wNext, wDrop, wP, wB, wPs, wCons, wNil, wOp, wFn, wPar, wAsgT, wTup, wLst, wNewL, setIx_eq, setA, wM1, wI, wFor, bV, bNot, bAnd, bOr, fOp, fC, fV, fCons, fNil, fCall, fIsi, fAnd, fOr, fNot, chain_le, fTup, fLst, fIf, fFn, tgN, tgT, setAll, gI, gLen, gLe, gLt, gGe, gGt, LP.gSub, gMod, gFdiv, gPow, gPlus, gTimes, gIntA, gInt, gIsN, gIx, tyA, TN.sub, LP.dataOf, A.toD, viewL, viewQ, viewT, gEq_ii, gEq_ss, gEq_bb, gEq_nn, fSl, slV, oN, oS, iL, iR1, wFnM, gFdivW, tNot', tV, wFrz, fFld, fldV, gEither, gOwnIn, gOwnBin, gOwnEq, fIsiO, gIsiO, fProp, propV, fMeth, fMake, fMakeV, twoT, viewT, iZQ, iET, Option.bind_some, Option.map_some, Option.bind_none, Option.map_none, Option.bind, Option.map, List.getElem?_cons_zero, List.getElem?_cons_succ, List.getElem?_nil, List.set_cons_zero, List.set_cons_succ, List.set_nil, if_true, if_false, ↓reduceIte, Bool.not_true, Bool.not_false, decide_true, decide_false, Bool.false_eq_true, reduceCtorEq, true_and, false_and, and_true, and_false, not_true, not_false_eq_true, List.any_cons, List.any_nil, Bool.or_false, Bool.or_true, Bool.true_or, Bool.false_or, Bool.and_true, Bool.true_and, Bool.and_false, Bool.false_and, exists_eq_left, exists_eq_left', Option.some.injEq, A.d.injEq, D.int.injEq, D.bl.injEq, D.str.injEq, D.lst.injEq, D.tup.injEq, Except.ok.injEq, List.cons_append, List.nil_append, List.map_cons, List.map_nil, List.length_cons, List.length_nil, List.replicate, Nat.reduceSub, Nat.reduceAdd, List.append_nil, eq_self, or_true, true_or, or_false, false_or, Int.reduceNeg, Int.reducePow, Int.reduceLT, Int.reduceLE, List.length_set]
      | str b => simp only [w_l_same_0, w_l_same_1, w_l_same_2, w_l_same_3, w_l_same_4, N_l_same, stG, wSeq, wIf, wAsg, wRet, wRetN, wNext, wDrop, wP, wB, wPs, wCons, wNil, wOp, wFn, wPar, wAsgT, wTup, wLst, wNewL, setIx_eq, setA, wM1, wI, wFor, bV, bNot, bAnd, bOr, fOp, fC, fV, fCons, fNil, fCall, fIsi, fAnd, fOr, fNot, chain_le, fTup, fLst, fIf, fFn, tgN, tgT, setAll, gI, gLen, gLe, gLt, gGe, gGt, LP.gSub, gMod, gFdiv, gPow, gPlus, gTimes, gIntA, gInt, gIsN, gIx, tyA, TN.sub, LP.dataOf, A.toD, viewL, viewQ, viewT, gEq_ii, gEq_ss, gEq_bb, gEq_nn, fSl, slV, oN, oS, iL, iR1, wFnM, gFdivW, tNot', tV, wFrz, fFld, fldV, gEither, gOwnIn, gOwnBin, gOwnEq, fIsiO, gIsiO, fProp, propV, fMeth, fMake, fMakeV, twoT, viewT, iZQ, iET, Option.bind_some, Option.map_some, Option.bind_none, Option.map_none, Option.bind, Option.map, List.getElem?_cons_zero, List.getElem?_cons_succ, List.getElem?_nil, List.set_cons_zero, List.set_cons_succ, List.set_nil, if_true, if_false, ↓reduceIte, Bool.not_true, Bool.not_false, decide_true, decide_false, Bool.false_eq_true, reduceCtorEq, true_and, false_and, and_true, and_false, not_true, not_false_eq_true, List.any_cons, List.any_nil, Bool.or_false, Bool.or_true, Bool.true_or, Bool.false_or, Bool.and_true, Bool.true_and, Bool.and_false, Bool.false_and, exists_eq_left, exists_eq_left', Option.some.injEq, A.d.injEq, D.int.injEq, D.bl.injEq, D.str.injEq, D.lst.injEq, D.tup.injEq, Except.ok.injEq, List.cons_append, List.nil_append, List.map_cons, List.map_nil, List.length_cons, List.length_nil, List.replicate, Nat.reduceSub, Nat.reduceAdd, List.append_nil, eq_self, or_true, true_or, or_false, false_or, Int.reduceNeg, Int.reducePow, Int.reduceLT, Int.reduceLE, List.length_set]
    · cases h
  · cases h
theorem at0 {α : Type} (a b c d e : α) : atI [a, b, c, d, e] (0 : Int) = some a := rfl
theorem at1 {α : Type} (a b c d e : α) : atI [a, b, c, d, e] (1 : Int) = some b := rfl
theorem at2 {α : Type} (a b c d e : α) : atI [a, b, c, d, e] (2 : Int) = some c := rfl
theorem at3 {α : Type} (a b c d e : α) : atI [a, b, c, d, e] (3 : Int) = some d := rfl
theorem at4 {α : Type} (a b c d e : α) : atI [a, b, c, d, e] (4 : Int) = some e := rfl
theorem x0 : ixN 5 (0 : Int) = some 0 := rfl
theorem x1 : ixN 5 (1 : Int) = some 1 := rfl
theorem x2 : ixN 5 (2 : Int) = some 2 := rfl
theorem x3 : ixN 5 (3 : Int) = some 3 := rfl
theorem x4 : ixN 5 (4 : Int) = some 4 := rfl
theorem lt_of {S : So} {k : Nat} {m : MO} (h : S[k]? = some m) : k < S.length := by
  obtain ⟨h, _⟩ := List.getElem?_eq_some_iff.mp h
  exact h
theorem natAbs_lt {st : Int} (h0 : 0 ≤ st) (h1 : st < 2147483579) : (st.natAbs < 2 ^ 64) = True := by
  apply eq_true
  have : (2 : Nat) ^ 64 = 18446744073709551616 := by decide
  omega
theorem n10 : (Int.natAbs 10 < 2 ^ 64) = True := eq_true (by decide)
theorem pull_end {k : Nat} {many : Int} {S : So} {E : Dn} {a2 a3 a4 : Option A} {cs : List Int} {at_ : Nat} {pool st n : Int} (hS : S[k]? = some (bagMO cs at_ pool st n)) (h0 : 0 ≤ st) (h1 : st < 2147483579) (h3 : cs.length ≤ 63) (h4 : 0 < many)
    (hQ : ∀ r m', Bag m' → 0 ≤ r → r < many → E.rt (.d (.int r)) (S.set k m')) : w_l_pull_3 [some (.loc k), some (.d (.int many)), a2, a3, a4] S E := by
  have hk := lt_of hS
  have hm : (0 < many) = True := eq_true h4
  have hn := natAbs_lt h0 h1
  unfold bagMO at hS
  simp only [w_l_pull_3, w_l_pull_4, w_l_pull_5, hS, hk, hm, hn, at0, at1, at2, at3, at4, x0, x1, x2, x3, x4, List.getElem?_set_self, stG, wSeq, wIf, wAsg, wRet, wRetN, wNext, wDrop, wP, wB, wPs, wCons, wNil, wOp, wFn, wPar, wAsgT, wTup, wLst, wNewL, setIx_eq, setA, wM1, wI, wFor, bV, bNot, bAnd, bOr, fOp, fC, fV, fCons, fNil, fCall, fIsi, fAnd, fOr, fNot, chain_le, fTup, fLst, fIf, fFn, tgN, tgT, setAll, gI, gLen, gLe, gLt, gGe, gGt, LP.gSub, gMod, gFdiv, gPow, gPlus, gTimes, gIntA, gInt, gIsN, gIx, tyA, TN.sub, LP.dataOf, A.toD, viewL, viewQ, viewT, gEq_ii, gEq_ss, gEq_bb, gEq_nn, fSl, slV, oN, oS, iL, iR1, wFnM, gFdivW, tNot', tV, wFrz, fFld, fldV, gEither, gOwnIn, gOwnBin, gOwnEq, fIsiO, gIsiO, fProp, propV, fMeth, fMake, fMakeV, twoT, viewT, iZQ, iET, Option.bind_some, Option.map_some, Option.bind_none, Option.map_none, Option.bind, Option.map, List.getElem?_cons_zero, List.getElem?_cons_succ, List.getElem?_nil, List.set_cons_zero, List.set_cons_succ, List.set_nil, if_true, if_false, ↓reduceIte, Bool.not_true, Bool.not_false, decide_true, decide_false, Bool.false_eq_true, reduceCtorEq, true_and, false_and, and_true, and_false, not_true, not_false_eq_true, List.any_cons, List.any_nil, Bool.or_false, Bool.or_true, Bool.true_or, Bool.false_or, Bool.and_true, Bool.true_and, Bool.and_false, Bool.false_and, exists_eq_left, exists_eq_left', Option.some.injEq, A.d.injEq, D.int.injEq, D.bl.injEq, D.str.injEq, D.lst.injEq, D.tup.injEq, Except.ok.injEq, List.cons_append, List.nil_append, List.map_cons, List.map_nil, List.length_cons, List.length_nil, List.replicate, Nat.reduceSub, Nat.reduceAdd, List.append_nil, eq_self, or_true, true_or, or_false, false_or, Int.reduceNeg, Int.reducePow, Int.reduceLT, Int.reduceLE, List.length_set]
  exact hQ _ _ ⟨cs, at_, pool, _, n, rfl, Int.emod_nonneg _ (by decide), Int.emod_lt_of_pos _ (by decide), h3⟩ (Int.emod_nonneg _ (by omega)) (Int.emod_lt_of_pos _ h4)
theorem pull_mid {k : Nat} {many : Int} {S : So} {E : Dn} {a2 a3 a4 : Option A} {cs : List Int} {at_ : Nat} {pool st n : Int} (hS : S[k]? = some (bagMO cs at_ pool st n)) (h0 : 0 ≤ st) (h1 : st < 2147483579) (h3 : cs.length ≤ 63) (h4 : 0 < many) (h5 : many < 1152921504606846976)
    (hQ : ∀ r m', Bag m' → 0 ≤ r → r < many → E.rt (.d (.int r)) (S.set k m')) : w_l_pull_2 [some (.loc k), some (.d (.int many)), a2, a3, a4] S E := by
  have hk := lt_of hS
  have hm : (0 < many) = True := eq_true h4
  have hm5 : (many < 18446744073709551616) = True := eq_true (by omega)
  have hS' := hS
  unfold bagMO at hS
  by_cases hp : 0 < pool
  · have hp := eq_true hp
    simp only [w_l_pull_2, hS, hk, hm, hm5, hp, at0, at1, at2, at3, at4, x0, x1, x2, x3, x4, List.getElem?_set_self, stG, wSeq, wIf, wAsg, wRet, wRetN, wNext, wDrop, wP, wB, wPs, wCons, wNil, wOp, wFn, wPar, wAsgT, wTup, wLst, wNewL, setIx_eq, setA, wM1, wI, wFor, bV, bNot, bAnd, bOr, fOp, fC, fV, fCons, fNil, fCall, fIsi, fAnd, fOr, fNot, chain_le, fTup, fLst, fIf, fFn, tgN, tgT, setAll, gI, gLen, gLe, gLt, gGe, gGt, LP.gSub, gMod, gFdiv, gPow, gPlus, gTimes, gIntA, gInt, gIsN, gIx, tyA, TN.sub, LP.dataOf, A.toD, viewL, viewQ, viewT, gEq_ii, gEq_ss, gEq_bb, gEq_nn, fSl, slV, oN, oS, iL, iR1, wFnM, gFdivW, tNot', tV, wFrz, fFld, fldV, gEither, gOwnIn, gOwnBin, gOwnEq, fIsiO, gIsiO, fProp, propV, fMeth, fMake, fMakeV, twoT, viewT, iZQ, iET, Option.bind_some, Option.map_some, Option.bind_none, Option.map_none, Option.bind, Option.map, List.getElem?_cons_zero, List.getElem?_cons_succ, List.getElem?_nil, List.set_cons_zero, List.set_cons_succ, List.set_nil, if_true, if_false, ↓reduceIte, Bool.not_true, Bool.not_false, decide_true, decide_false, Bool.false_eq_true, reduceCtorEq, true_and, false_and, and_true, and_false, not_true, not_false_eq_true, List.any_cons, List.any_nil, Bool.or_false, Bool.or_true, Bool.true_or, Bool.false_or, Bool.and_true, Bool.true_and, Bool.and_false, Bool.false_and, exists_eq_left, exists_eq_left', Option.some.injEq, A.d.injEq, D.int.injEq, D.bl.injEq, D.str.injEq, D.lst.injEq, D.tup.injEq, Except.ok.injEq, List.cons_append, List.nil_append, List.map_cons, List.map_nil, List.length_cons, List.length_nil, List.replicate, Nat.reduceSub, Nat.reduceAdd, List.append_nil, eq_self, or_true, true_or, or_false, false_or, Int.reduceNeg, Int.reducePow, Int.reduceLT, Int.reduceLE, List.length_set]
    exact hQ _ _ ⟨cs, at_, _, st, n, rfl, h0, h1, h3⟩ (Int.emod_nonneg _ (by omega)) (Int.emod_lt_of_pos _ h4)
  · have hp := eq_false hp
    simp only [w_l_pull_2, hS, hk, hm, hm5, hp, at0, at1, at2, at3, at4, x0, x1, x2, x3, x4, List.getElem?_set_self, stG, wSeq, wIf, wAsg, wRet, wRetN, wNext, wDrop, wP, wB, wPs, wCons, wNil, wOp, wFn, wPar, wAsgT, wTup, wLst, wNewL, setIx_eq, setA, wM1, wI, wFor, bV, bNot, bAnd, bOr, fOp, fC, fV, fCons, fNil, fCall, fIsi, fAnd, fOr, fNot, chain_le, fTup, fLst, fIf, fFn, tgN, tgT, setAll, gI, gLen, gLe, gLt, gGe, gGt, LP.gSub, gMod, gFdiv, gPow, gPlus, gTimes, gIntA, gInt, gIsN, gIx, tyA, TN.sub, LP.dataOf, A.toD, viewL, viewQ, viewT, gEq_ii, gEq_ss, gEq_bb, gEq_nn, fSl, slV, oN, oS, iL, iR1, wFnM, gFdivW, tNot', tV, wFrz, fFld, fldV, gEither, gOwnIn, gOwnBin, gOwnEq, fIsiO, gIsiO, fProp, propV, fMeth, fMake, fMakeV, twoT, viewT, iZQ, iET, Option.bind_some, Option.map_some, Option.bind_none, Option.map_none, Option.bind, Option.map, List.getElem?_cons_zero, List.getElem?_cons_succ, List.getElem?_nil, List.set_cons_zero, List.set_cons_succ, List.set_nil, if_true, if_false, ↓reduceIte, Bool.not_true, Bool.not_false, decide_true, decide_false, Bool.false_eq_true, reduceCtorEq, true_and, false_and, and_true, and_false, not_true, not_false_eq_true, List.any_cons, List.any_nil, Bool.or_false, Bool.or_true, Bool.true_or, Bool.false_or, Bool.and_true, Bool.true_and, Bool.and_false, Bool.false_and, exists_eq_left, exists_eq_left', Option.some.injEq, A.d.injEq, D.int.injEq, D.bl.injEq, D.str.injEq, D.lst.injEq, D.tup.injEq, Except.ok.injEq, List.cons_append, List.nil_append, List.map_cons, List.map_nil, List.length_cons, List.length_nil, List.replicate, Nat.reduceSub, Nat.reduceAdd, List.append_nil, eq_self, or_true, true_or, or_false, false_or, Int.reduceNeg, Int.reducePow, Int.reduceLT, Int.reduceLE, List.length_set]
    exact pull_end hS' h0 h1 h3 h4 hQ
theorem at_cells {cs : List Int} {at_ : Nat} {c : Int} (h : cs[at_]? = some c) : atI (cs.map D.int) (at_ : Int) = some (.int c) := by
  obtain ⟨hl, _⟩ := List.getElem?_eq_some_iff.mp h
  have : ixN (cs.map D.int).length (at_ : Int) = some at_ := by
    unfold ixN
    rw [if_pos (by omega), if_pos (by simpa using hl)]
    rfl
  rw [atI, this, Option.bind_some, List.getElem?_map, h]
  rfl
theorem pull_1 {k : Nat} {many : Int} {S : So} {E : Dn} {a2 a3 a4 : Option A} {cs : List Int} {at_ : Nat} {pool st n : Int} (hS : S[k]? = some (bagMO cs at_ pool st n)) (h0 : 0 ≤ st) (h1 : st < 2147483579) (h3 : cs.length ≤ 63) (h4 : 0 < many) (h5 : many < 1152921504606846976)
    (hQ : ∀ r m', Bag m' → 0 ≤ r → r < many → E.rt (.d (.int r)) (S.set k m')) : w_l_pull_1 [some (.loc k), some (.d (.int many)), a2, a3, a4] S E := by
  have hk := lt_of hS
  have hS' := hS
  unfold bagMO at hS
  by_cases hp : pool = 0
  · by_cases ha : at_ < cs.length
    · have hc : cs[at_]? = some cs[at_] := List.getElem?_eq_getElem ha
      have hat := at_cells hc
      have ha2 : ((at_ : Int) < (cs.length : Int)) = True := eq_true (by omega)
      have hpw : (10 : Int) ^ 18 = 1000000000000000000 := by decide
      have hp2 := eq_true hp
      have fin_ : ∀ (p x : Int), w_l_pull_2 [some (.loc k), some (.d (.int many)), a2, some (.d (.int cs[at_])), a4] (S.set k (.lst [.d (.lst (cs.map .int)), .d (.int ((at_ : Int) + 1)), .d (.int p), .d (.int (x % 2147483579)), .d (.int n)])) E := fun p x =>
        pull_mid (cs := cs) (at_ := at_ + 1) (pool := p) (st := x % 2147483579) (n := n) (by rw [List.getElem?_set_self hk]; rfl) (Int.emod_nonneg _ (by decide)) (Int.emod_lt_of_pos _ (by decide)) h3 h4 h5 fun r m' b r0 r1 => by
          rw [List.set_set]; exact hQ r m' b r0 r1
      by_cases hb : (10 : Int) ^ Int.toNat 18 ≤ cs[at_]
      · have hb2 := eq_true hb
        simp only [w_l_pull_1, hS, hk, hp2, ha2, hb2, hat, n10, at0, at1, at2, at3, at4, x0, x1, x2, x3, x4, List.getElem?_set_self, List.length_map, List.set_set, stG, wSeq, wIf, wAsg, wRet, wRetN, wNext, wDrop, wP, wB, wPs, wCons, wNil, wOp, wFn, wPar, wAsgT, wTup, wLst, wNewL, setIx_eq, setA, wM1, wI, wFor, bV, bNot, bAnd, bOr, fOp, fC, fV, fCons, fNil, fCall, fIsi, fAnd, fOr, fNot, chain_le, fTup, fLst, fIf, fFn, tgN, tgT, setAll, gI, gLen, gLe, gLt, gGe, gGt, LP.gSub, gMod, gFdiv, gPow, gPlus, gTimes, gIntA, gInt, gIsN, gIx, tyA, TN.sub, LP.dataOf, A.toD, viewL, viewQ, viewT, gEq_ii, gEq_ss, gEq_bb, gEq_nn, fSl, slV, oN, oS, iL, iR1, wFnM, gFdivW, tNot', tV, wFrz, fFld, fldV, gEither, gOwnIn, gOwnBin, gOwnEq, fIsiO, gIsiO, fProp, propV, fMeth, fMake, fMakeV, twoT, viewT, iZQ, iET, Option.bind_some, Option.map_some, Option.bind_none, Option.map_none, Option.bind, Option.map, List.getElem?_cons_zero, List.getElem?_cons_succ, List.getElem?_nil, List.set_cons_zero, List.set_cons_succ, List.set_nil, if_true, if_false, ↓reduceIte, Bool.not_true, Bool.not_false, decide_true, decide_false, Bool.false_eq_true, reduceCtorEq, true_and, false_and, and_true, and_false, not_true, not_false_eq_true, List.any_cons, List.any_nil, Bool.or_false, Bool.or_true, Bool.true_or, Bool.false_or, Bool.and_true, Bool.true_and, Bool.and_false, Bool.false_and, exists_eq_left, exists_eq_left', Option.some.injEq, A.d.injEq, D.int.injEq, D.bl.injEq, D.str.injEq, D.lst.injEq, D.tup.injEq, Except.ok.injEq, List.cons_append, List.nil_append, List.map_cons, List.map_nil, List.length_cons, List.length_nil, List.replicate, Nat.reduceSub, Nat.reduceAdd, List.append_nil, eq_self, or_true, true_or, or_false, false_or, Int.reduceNeg, Int.reducePow, Int.reduceLT, Int.reduceLE, List.length_set]
        exact fin_ _ _
      · have hb2 := eq_false hb
        simp only [w_l_pull_1, hS, hk, hp2, ha2, hb2, hat, n10, at0, at1, at2, at3, at4, x0, x1, x2, x3, x4, List.getElem?_set_self, List.length_map, List.set_set, stG, wSeq, wIf, wAsg, wRet, wRetN, wNext, wDrop, wP, wB, wPs, wCons, wNil, wOp, wFn, wPar, wAsgT, wTup, wLst, wNewL, setIx_eq, setA, wM1, wI, wFor, bV, bNot, bAnd, bOr, fOp, fC, fV, fCons, fNil, fCall, fIsi, fAnd, fOr, fNot, chain_le, fTup, fLst, fIf, fFn, tgN, tgT, setAll, gI, gLen, gLe, gLt, gGe, gGt, LP.gSub, gMod, gFdiv, gPow, gPlus, gTimes, gIntA, gInt, gIsN, gIx, tyA, TN.sub, LP.dataOf, A.toD, viewL, viewQ, viewT, gEq_ii, gEq_ss, gEq_bb, gEq_nn, fSl, slV, oN, oS, iL, iR1, wFnM, gFdivW, tNot', tV, wFrz, fFld, fldV, gEither, gOwnIn, gOwnBin, gOwnEq, fIsiO, gIsiO, fProp, propV, fMeth, fMake, fMakeV, twoT, viewT, iZQ, iET, Option.bind_some, Option.map_some, Option.bind_none, Option.map_none, Option.bind, Option.map, List.getElem?_cons_zero, List.getElem?_cons_succ, List.getElem?_nil, List.set_cons_zero, List.set_cons_succ, List.set_nil, if_true, if_false, ↓reduceIte, Bool.not_true, Bool.not_false, decide_true, decide_false, Bool.false_eq_true, reduceCtorEq, true_and, false_and, and_true, and_false, not_true, not_false_eq_true, List.any_cons, List.any_nil, Bool.or_false, Bool.or_true, Bool.true_or, Bool.false_or, Bool.and_true, Bool.true_and, Bool.and_false, Bool.false_and, exists_eq_left, exists_eq_left', Option.some.injEq, A.d.injEq, D.int.injEq, D.bl.injEq, D.str.injEq, D.lst.injEq, D.tup.injEq, Except.ok.injEq, List.cons_append, List.nil_append, List.map_cons, List.map_nil, List.length_cons, List.length_nil, List.replicate, Nat.reduceSub, Nat.reduceAdd, List.append_nil, eq_self, or_true, true_or, or_false, false_or, Int.reduceNeg, Int.reducePow, Int.reduceLT, Int.reduceLE, List.length_set]
        exact fin_ _ _
    · have ha2 : ((at_ : Int) < (cs.length : Int)) = False := eq_false (by omega)
      have hp2 := eq_true hp
      simp only [w_l_pull_1, hS, hk, hp2, ha2, at0, at1, at2, at3, at4, x0, x1, x2, x3, x4, List.getElem?_set_self, List.length_map, stG, wSeq, wIf, wAsg, wRet, wRetN, wNext, wDrop, wP, wB, wPs, wCons, wNil, wOp, wFn, wPar, wAsgT, wTup, wLst, wNewL, setIx_eq, setA, wM1, wI, wFor, bV, bNot, bAnd, bOr, fOp, fC, fV, fCons, fNil, fCall, fIsi, fAnd, fOr, fNot, chain_le, fTup, fLst, fIf, fFn, tgN, tgT, setAll, gI, gLen, gLe, gLt, gGe, gGt, LP.gSub, gMod, gFdiv, gPow, gPlus, gTimes, gIntA, gInt, gIsN, gIx, tyA, TN.sub, LP.dataOf, A.toD, viewL, viewQ, viewT, gEq_ii, gEq_ss, gEq_bb, gEq_nn, fSl, slV, oN, oS, iL, iR1, wFnM, gFdivW, tNot', tV, wFrz, fFld, fldV, gEither, gOwnIn, gOwnBin, gOwnEq, fIsiO, gIsiO, fProp, propV, fMeth, fMake, fMakeV, twoT, viewT, iZQ, iET, Option.bind_some, Option.map_some, Option.bind_none, Option.map_none, Option.bind, Option.map, List.getElem?_cons_zero, List.getElem?_cons_succ, List.getElem?_nil, List.set_cons_zero, List.set_cons_succ, List.set_nil, if_true, if_false, ↓reduceIte, Bool.not_true, Bool.not_false, decide_true, decide_false, Bool.false_eq_true, reduceCtorEq, true_and, false_and, and_true, and_false, not_true, not_false_eq_true, List.any_cons, List.any_nil, Bool.or_false, Bool.or_true, Bool.true_or, Bool.false_or, Bool.and_true, Bool.true_and, Bool.and_false, Bool.false_and, exists_eq_left, exists_eq_left', Option.some.injEq, A.d.injEq, D.int.injEq, D.bl.injEq, D.str.injEq, D.lst.injEq, D.tup.injEq, Except.ok.injEq, List.cons_append, List.nil_append, List.map_cons, List.map_nil, List.length_cons, List.length_nil, List.replicate, Nat.reduceSub, Nat.reduceAdd, List.append_nil, eq_self, or_true, true_or, or_false, false_or, Int.reduceNeg, Int.reducePow, Int.reduceLT, Int.reduceLE, List.length_set]
      exact pull_mid hS' h0 h1 h3 h4 h5 hQ
  · have hp2 := eq_false hp
    simp only [w_l_pull_1, hS, hk, hp2, at0, at1, at2, at3, at4, x0, x1, x2, x3, x4, List.getElem?_set_self, List.length_map, stG, wSeq, wIf, wAsg, wRet, wRetN, wNext, wDrop, wP, wB, wPs, wCons, wNil, wOp, wFn, wPar, wAsgT, wTup, wLst, wNewL, setIx_eq, setA, wM1, wI, wFor, bV, bNot, bAnd, bOr, fOp, fC, fV, fCons, fNil, fCall, fIsi, fAnd, fOr, fNot, chain_le, fTup, fLst, fIf, fFn, tgN, tgT, setAll, gI, gLen, gLe, gLt, gGe, gGt, LP.gSub, gMod, gFdiv, gPow, gPlus, gTimes, gIntA, gInt, gIsN, gIx, tyA, TN.sub, LP.dataOf, A.toD, viewL, viewQ, viewT, gEq_ii, gEq_ss, gEq_bb, gEq_nn, fSl, slV, oN, oS, iL, iR1, wFnM, gFdivW, tNot', tV, wFrz, fFld, fldV, gEither, gOwnIn, gOwnBin, gOwnEq, fIsiO, gIsiO, fProp, propV, fMeth, fMake, fMakeV, twoT, viewT, iZQ, iET, Option.bind_some, Option.map_some, Option.bind_none, Option.map_none, Option.bind, Option.map, List.getElem?_cons_zero, List.getElem?_cons_succ, List.getElem?_nil, List.set_cons_zero, List.set_cons_succ, List.set_nil, if_true, if_false, ↓reduceIte, Bool.not_true, Bool.not_false, decide_true, decide_false, Bool.false_eq_true, reduceCtorEq, true_and, false_and, and_true, and_false, not_true, not_false_eq_true, List.any_cons, List.any_nil, Bool.or_false, Bool.or_true, Bool.true_or, Bool.false_or, Bool.and_true, Bool.true_and, Bool.and_false, Bool.false_and, exists_eq_left, exists_eq_left', Option.some.injEq, A.d.injEq, D.int.injEq, D.bl.injEq, D.str.injEq, D.lst.injEq, D.tup.injEq, Except.ok.injEq, List.cons_append, List.nil_append, List.map_cons, List.map_nil, List.length_cons, List.length_nil, List.replicate, Nat.reduceSub, Nat.reduceAdd, List.append_nil, eq_self, or_true, true_or, or_false, false_or, Int.reduceNeg, Int.reducePow, Int.reduceLT, Int.reduceLE, List.length_set]
    exact pull_mid hS' h0 h1 h3 h4 h5 hQ
theorem v_pull (as : List A) (S : So) (ex : EK) (Q : AK) (h : fc_pull as S ex Q) : w_l_pull (stG N_l_pull as) S { nx := fun _ S' => Q (.d .non) S', rt := Q, ex := ex } := by
  obtain ⟨k, m, many, rfl, hS, ⟨cs, at_, pool, st, n, rfl, h0, h1, h3⟩, h4, h5, hQ⟩ := h
  have hk := lt_of hS
  have hS' := hS
  unfold bagMO at hS
  simp only [w_l_pull_0, N_l_pull, hS, hk, at0, at1, at2, at3, at4, x0, x1, x2, x3, x4, List.getElem?_set_self, List.length_map, stG, wSeq, wIf, wAsg, wRet, wRetN, wNext, wDrop, wP, wB, wPs, wCons, wNil, wOp, wFn, wPar, wAsgT, wTup, wLst, wNewL, setIx_eq, setA, wM1, wI, wFor, bV, bNot, bAnd, bOr, fOp, fC, fV, fCons, fNil, fCall, fIsi, fAnd, fOr, fNot, chain_le, fTup, fLst, fIf, fFn, tgN, tgT, setAll, gI, gLen, gLe, gLt, gGe, gGt, LP.gSub, gMod, gFdiv, gPow, gPlus, gTimes, gIntA, gInt, gIsN, gIx, tyA, TN.sub, LP.dataOf, A.toD, viewL, viewQ, viewT, gEq_ii, gEq_ss, gEq_bb, gEq_nn, fSl, slV, oN, oS, iL, iR1, wFnM, gFdivW, tNot', tV, wFrz, fFld, fldV, gEither, gOwnIn, gOwnBin, gOwnEq, fIsiO, gIsiO, fProp, propV, fMeth, fMake, fMakeV, twoT, viewT, iZQ, iET, Option.bind_some, Option.map_some, Option.bind_none, Option.map_none, Option.bind, Option.map, List.getElem?_cons_zero, List.getElem?_cons_succ, List.getElem?_nil, List.set_cons_zero, List.set_cons_succ, List.set_nil, if_true, if_false, ↓reduceIte, Bool.not_true, Bool.not_false, decide_true, decide_false, Bool.false_eq_true, reduceCtorEq, true_and, false_and, and_true, and_false, not_true, not_false_eq_true, List.any_cons, List.any_nil, Bool.or_false, Bool.or_true, Bool.true_or, Bool.false_or, Bool.and_true, Bool.true_and, Bool.and_false, Bool.false_and, exists_eq_left, exists_eq_left', Option.some.injEq, A.d.injEq, D.int.injEq, D.bl.injEq, D.str.injEq, D.lst.injEq, D.tup.injEq, Except.ok.injEq, List.cons_append, List.nil_append, List.map_cons, List.map_nil, List.length_cons, List.length_nil, List.replicate, Nat.reduceSub, Nat.reduceAdd, List.append_nil, eq_self, or_true, true_or, or_false, false_or, Int.reduceNeg, Int.reducePow, Int.reduceLT, Int.reduceLE, List.length_set]
  exact pull_1 (cs := cs) (at_ := at_) (pool := pool) (st := st) (n := n + 1) (by rw [List.getElem?_set_self hk]; rfl) h0 h1 h3 h4 h5 fun r m' b r0 r1 => by
    show Q _ _
    rw [List.set_set]; exact hQ r m' b r0 r1
theorem rows_len {rows : D} {l : List D} (S : So) (h : rowsOf rows = some l) (hl : l.length < 1000) : gLen S [.d rows] = some (.int l.length) := by
  unfold rowsOf at h
  split at h
  · cases h; simp only [gLen, viewQ, viewL, Option.map_some]
  · cases h
    rename_i s
    have e : s.length = s.cps.toList.length := by simp [Str.length]
    rw [List.length_map] at hl
    have : s.length ≤ sizeLine := Nat.le_trans (by omega : s.length ≤ 1000) (by decide)
    simp only [gLen]
    rw [if_pos this, List.length_map, e]
  · cases h
theorem at_nat {α : Type} {l : List α} {r : Int} (h0 : 0 ≤ r) (h1 : r < l.length) : ∃ d, atI l r = some d ∧ d ∈ l := by
  have : ixN l.length r = some r.toNat := by
    unfold ixN
    rw [if_pos h0, if_pos h1]
  have hl : r.toNat < l.length := by omega
  refine ⟨l[r.toNat], ?_, List.getElem_mem hl⟩
  rw [atI, this, Option.bind_some, List.getElem?_eq_getElem hl]
theorem rows_ix {rows : D} {l : List D} {S : So} {r : Int} (h : rowsOf rows = some l) (hl : l.length < 1000) (h0 : 0 ≤ r) (h1 : r < l.length) : ∃ d, gIx S (.d rows) (.d (.int r)) = some d ∧ d ∈ l := by
  unfold rowsOf at h
  split at h
  · cases h
    obtain ⟨d, e, m⟩ := at_nat h0 h1
    exact ⟨d, by simp only [gIx, viewQ, viewL, Option.bind_some, e], m⟩
  · cases h
    rename_i s
    have e : s.length = s.cps.toList.length := by simp [Str.length]
    rw [List.length_map] at hl h1
    have : s.length ≤ sizeLine := Nat.le_trans (by omega : s.length ≤ 1000) (by decide)
    obtain ⟨c, e2, m⟩ := at_nat h0 h1
    exact ⟨_, by simp only [gIx, this, if_true, e2, Option.map_some], List.mem_map.mpr ⟨c, m, rfl⟩⟩
  · cases h
theorem v_pick (as : List A) (S : So) (ex : EK) (Q : AK) (h : fc_pick as S ex Q) : w_l_pick (stG N_l_pick as) S { nx := fun _ S' => Q (.d .non) S', rt := Q, ex := ex } := by
  obtain ⟨k, m, rows, l, rfl, hS, hb, hr, h0, h1, hQ⟩ := h
  simp only [w_l_pick_0, N_l_pick, rows_len S hr h1, wFnM, stG, wSeq, wIf, wAsg, wRet, wRetN, wNext, wDrop, wP, wB, wPs, wCons, wNil, wOp, wFn, wPar, wAsgT, wTup, wLst, wNewL, setIx_eq, setA, wM1, wI, wFor, bV, bNot, bAnd, bOr, fOp, fC, fV, fCons, fNil, fCall, fIsi, fAnd, fOr, fNot, chain_le, fTup, fLst, fIf, fFn, tgN, tgT, setAll, gI, gLe, gLt, gGe, gGt, LP.gSub, gMod, gFdiv, gPow, gPlus, gTimes, gIntA, gInt, gIsN, tyA, TN.sub, LP.dataOf, A.toD, viewL, viewQ, viewT, gEq_ii, gEq_ss, gEq_bb, gEq_nn, fSl, slV, oN, oS, iL, iR1, wFnM, gFdivW, tNot', tV, wFrz, fFld, fldV, gEither, gOwnIn, gOwnBin, gOwnEq, fIsiO, gIsiO, fProp, propV, fMeth, fMake, fMakeV, twoT, viewT, iZQ, iET, Option.bind_some, Option.map_some, Option.bind_none, Option.map_none, Option.bind, Option.map, List.getElem?_cons_zero, List.getElem?_cons_succ, List.getElem?_nil, List.set_cons_zero, List.set_cons_succ, List.set_nil, if_true, if_false, ↓reduceIte, Bool.not_true, Bool.not_false, decide_true, decide_false, Bool.false_eq_true, reduceCtorEq, true_and, false_and, and_true, and_false, not_true, not_false_eq_true, List.any_cons, List.any_nil, Bool.or_false, Bool.or_true, Bool.true_or, Bool.false_or, Bool.and_true, Bool.true_and, Bool.and_false, Bool.false_and, exists_eq_left, exists_eq_left', Option.some.injEq, A.d.injEq, D.int.injEq, D.bl.injEq, D.str.injEq, D.lst.injEq, D.tup.injEq, Except.ok.injEq, List.cons_append, List.nil_append, List.map_cons, List.map_nil, List.length_cons, List.length_nil, List.replicate, Nat.reduceSub, Nat.reduceAdd, List.append_nil, eq_self, or_true, true_or, or_false, false_or, Int.reduceNeg, Int.reducePow, Int.reduceLT, Int.reduceLE, List.length_set]
  refine ⟨k, m, _, rfl, hS, hb, by omega, by omega, fun r m' b r0 r1 => ?_⟩
  obtain ⟨d, e, hm⟩ := rows_ix (S := S.set k m') hr h1 r0 r1
  exact ⟨d, e, hQ d m' b hm⟩
theorem cut63 {l : List D} (h : l.length ≤ 63) : LP.cutD l none (some 63) = l := by
  unfold LP.cutD
  rw [HT.sIx_none, show ((63 : Int)) = ((63 : Nat) : Int) from rfl, HT.sIx_nat, Nat.min_eq_right h]
  simp
theorem comp_ints {Γ : Ga} {S : So} {k : Nat} {cs : List Int} {x : Option A} {y : A} (hS : S[k]? = some (.scr (cs.map .int))) (hl : cs.length ≤ 63) :
    fComp (iL (fSl (fV 0) oN (oS (fC (.int 63))))) (tgN 2) [2] (fun _ _ => some true) (fCall gIntA (fCons (fV 2) fNil)) [some (.loc k), some y, x] S = some (.d (.lst (cs.map .int))) := by
  have hc := cut63 (l := cs.map D.int) (by simpa using hl)
  have c : compL (eltF (tgN 2) [2] (fun _ _ => some true) (fCall gIntA (fCons (fV 2) fNil)) [some (.loc k), some y, x] S) (cs.map .int) = some (cs.map .int) := by
    rw [compL_map, ← compL_some]
    refine compL_congr fun d hd => ?_
    simp [eltF, tgN, wipeG, fCall, fCons, fV, fNil, gIntA, gInt, A.toD]
  simp only [fComp, hS, hc, c, stG, wSeq, wIf, wAsg, wRet, wRetN, wNext, wDrop, wP, wB, wPs, wCons, wNil, wOp, wFn, wPar, wAsgT, wTup, wLst, wNewL, setIx_eq, setA, wM1, wI, wFor, bV, bNot, bAnd, bOr, fOp, fC, fV, fCons, fNil, fCall, fIsi, fAnd, fOr, fNot, chain_le, fTup, fLst, fIf, fFn, tgN, tgT, setAll, gI, gLen, gLe, gLt, gGe, gGt, LP.gSub, gMod, gFdiv, gPow, gPlus, gTimes, gIntA, gInt, gIsN, gIx, tyA, TN.sub, LP.dataOf, A.toD, viewL, viewQ, viewT, gEq_ii, gEq_ss, gEq_bb, gEq_nn, fSl, slV, oN, oS, iL, iR1, wFnM, gFdivW, tNot', tV, wFrz, fFld, fldV, gEither, gOwnIn, gOwnBin, gOwnEq, fIsiO, gIsiO, fProp, propV, fMeth, fMake, fMakeV, twoT, viewT, iZQ, iET, Option.bind_some, Option.map_some, Option.bind_none, Option.map_none, Option.bind, Option.map, List.getElem?_cons_zero, List.getElem?_cons_succ, List.getElem?_nil, List.set_cons_zero, List.set_cons_succ, List.set_nil, if_true, if_false, ↓reduceIte, Bool.not_true, Bool.not_false, decide_true, decide_false, Bool.false_eq_true, reduceCtorEq, true_and, false_and, and_true, and_false, not_true, not_false_eq_true, List.any_cons, List.any_nil, Bool.or_false, Bool.or_true, Bool.true_or, Bool.false_or, Bool.and_true, Bool.true_and, Bool.and_false, Bool.false_and, exists_eq_left, exists_eq_left', Option.some.injEq, A.d.injEq, D.int.injEq, D.bl.injEq, D.str.injEq, D.lst.injEq, D.tup.injEq, Except.ok.injEq, List.cons_append, List.nil_append, List.map_cons, List.map_nil, List.length_cons, List.length_nil, List.replicate, Nat.reduceSub, Nat.reduceAdd, List.append_nil, eq_self, or_true, true_or, or_false, false_or, Int.reduceNeg, Int.reducePow, Int.reduceLT, Int.reduceLE, List.length_set]
theorem v_bag (as : List A) (S : So) (ex : EK) (Q : AK) (h : fc_bag as S ex Q) : w_l_bag (stG N_l_bag as) S { nx := fun _ S' => Q (.d .non) S', rt := Q, ex := ex } := by
  obtain ⟨k, cs, rfl, hS, hl, hQ⟩ := h
  have hc := cut63 (l := cs.map D.int) (by simpa using hl)
  simp only [w_l_bag_0, w_l_bag_1, N_l_bag, hS, hc, stG, wSeq, wIf, wAsg, wRet, wRetN, wNext, wDrop, wP, wB, wPs, wCons, wNil, wOp, wFn, wPar, wAsgT, wTup, wLst, wNewL, setIx_eq, setA, wM1, wI, wFor, bV, bNot, bAnd, bOr, fOp, fC, fV, fCons, fNil, fCall, fIsi, fAnd, fOr, fNot, chain_le, fTup, fLst, fIf, fFn, tgN, tgT, setAll, gI, gLen, gLe, gLt, gGe, gGt, LP.gSub, gMod, gFdiv, gPow, gPlus, gTimes, gIntA, gInt, gIsN, gIx, tyA, TN.sub, LP.dataOf, A.toD, viewL, viewQ, viewT, gEq_ii, gEq_ss, gEq_bb, gEq_nn, fSl, slV, oN, oS, iL, iR1, wFnM, gFdivW, tNot', tV, wFrz, fFld, fldV, gEither, gOwnIn, gOwnBin, gOwnEq, fIsiO, gIsiO, fProp, propV, fMeth, fMake, fMakeV, twoT, viewT, iZQ, iET, Option.bind_some, Option.map_some, Option.bind_none, Option.map_none, Option.bind, Option.map, List.getElem?_cons_zero, List.getElem?_cons_succ, List.getElem?_nil, List.set_cons_zero, List.set_cons_succ, List.set_nil, if_true, if_false, ↓reduceIte, Bool.not_true, Bool.not_false, decide_true, decide_false, Bool.false_eq_true, reduceCtorEq, true_and, false_and, and_true, and_false, not_true, not_false_eq_true, List.any_cons, List.any_nil, Bool.or_false, Bool.or_true, Bool.true_or, Bool.false_or, Bool.and_true, Bool.true_and, Bool.and_false, Bool.false_and, exists_eq_left, exists_eq_left', Option.some.injEq, A.d.injEq, D.int.injEq, D.bl.injEq, D.str.injEq, D.lst.injEq, D.tup.injEq, Except.ok.injEq, List.cons_append, List.nil_append, List.map_cons, List.map_nil, List.length_cons, List.length_nil, List.replicate, Nat.reduceSub, Nat.reduceAdd, List.append_nil, eq_self, or_true, true_or, or_false, false_or, Int.reduceNeg, Int.reducePow, Int.reduceLT, Int.reduceLE, List.length_set]
  refine ⟨_, _, rfl, rfl, ?_⟩
  refine loop_inv (fun r Γ S' => ∃ (rc : List Int) (st : Int) (x : Option A), r = rc.map D.int ∧ Γ = [some (.loc k), some (.d (.int st)), x] ∧ S' = S ∧ 0 ≤ st ∧ st < 2147483579) ?_ ?_ _ _ _ ⟨cs, 10021, none, rfl, rfl, rfl, by decide, by decide⟩
  · rintro d r Γ S' nx ⟨rc, st, x, hr, rfl, rfl, h0, h1⟩ hnx
    cases rc with
    | nil => cases hr
    | cons c rc =>
      cases hr
      refine ⟨_, rfl, ?_⟩
      simp only [w_l_bag_for1_0, stG, wSeq, wIf, wAsg, wRet, wRetN, wNext, wDrop, wP, wB, wPs, wCons, wNil, wOp, wFn, wPar, wAsgT, wTup, wLst, wNewL, setIx_eq, setA, wM1, wI, wFor, bV, bNot, bAnd, bOr, fOp, fC, fV, fCons, fNil, fCall, fIsi, fAnd, fOr, fNot, chain_le, fTup, fLst, fIf, fFn, tgN, tgT, setAll, gI, gLen, gLe, gLt, gGe, gGt, LP.gSub, gMod, gFdiv, gPow, gPlus, gTimes, gIntA, gInt, gIsN, gIx, tyA, TN.sub, LP.dataOf, A.toD, viewL, viewQ, viewT, gEq_ii, gEq_ss, gEq_bb, gEq_nn, fSl, slV, oN, oS, iL, iR1, wFnM, gFdivW, tNot', tV, wFrz, fFld, fldV, gEither, gOwnIn, gOwnBin, gOwnEq, fIsiO, gIsiO, fProp, propV, fMeth, fMake, fMakeV, twoT, viewT, iZQ, iET, Option.bind_some, Option.map_some, Option.bind_none, Option.map_none, Option.bind, Option.map, List.getElem?_cons_zero, List.getElem?_cons_succ, List.getElem?_nil, List.set_cons_zero, List.set_cons_succ, List.set_nil, if_true, if_false, ↓reduceIte, Bool.not_true, Bool.not_false, decide_true, decide_false, Bool.false_eq_true, reduceCtorEq, true_and, false_and, and_true, and_false, not_true, not_false_eq_true, List.any_cons, List.any_nil, Bool.or_false, Bool.or_true, Bool.true_or, Bool.false_or, Bool.and_true, Bool.true_and, Bool.and_false, Bool.false_and, exists_eq_left, exists_eq_left', Option.some.injEq, A.d.injEq, D.int.injEq, D.bl.injEq, D.str.injEq, D.lst.injEq, D.tup.injEq, Except.ok.injEq, List.cons_append, List.nil_append, List.map_cons, List.map_nil, List.length_cons, List.length_nil, List.replicate, Nat.reduceSub, Nat.reduceAdd, List.append_nil, eq_self, or_true, true_or, or_false, false_or, Int.reduceNeg, Int.reducePow, Int.reduceLT, Int.reduceLE, List.length_set]
      exact hnx _ _ rfl ⟨rc, _, _, rfl, rfl, rfl, Int.emod_nonneg _ (by decide), Int.emod_lt_of_pos _ (by decide)⟩
  · rintro Γ S' ⟨rc, st, x, hr, rfl, rfl, h0, h1⟩
    have c := comp_ints (Γ := []) (x := x) (y := .d (.int st)) hS hl
    simp only [w_l_bag_2, c, stG, wSeq, wIf, wAsg, wRet, wRetN, wNext, wDrop, wP, wB, wPs, wCons, wNil, wOp, wFn, wPar, wAsgT, wTup, wLst, wNewL, setIx_eq, setA, wM1, wI, wFor, bV, bNot, bAnd, bOr, fOp, fC, fV, fCons, fNil, fCall, fIsi, fAnd, fOr, fNot, chain_le, fTup, fLst, fIf, fFn, tgN, tgT, setAll, gI, gLen, gLe, gLt, gGe, gGt, LP.gSub, gMod, gFdiv, gPow, gPlus, gTimes, gIntA, gInt, gIsN, gIx, tyA, TN.sub, LP.dataOf, A.toD, viewL, viewQ, viewT, gEq_ii, gEq_ss, gEq_bb, gEq_nn, fSl, slV, oN, oS, iL, iR1, wFnM, gFdivW, tNot', tV, wFrz, fFld, fldV, gEither, gOwnIn, gOwnBin, gOwnEq, fIsiO, gIsiO, fProp, propV, fMeth, fMake, fMakeV, twoT, viewT, iZQ, iET, Option.bind_some, Option.map_some, Option.bind_none, Option.map_none, Option.bind, Option.map, List.getElem?_cons_zero, List.getElem?_cons_succ, List.getElem?_nil, List.set_cons_zero, List.set_cons_succ, List.set_nil, if_true, if_false, ↓reduceIte, Bool.not_true, Bool.not_false, decide_true, decide_false, Bool.false_eq_true, reduceCtorEq, true_and, false_and, and_true, and_false, not_true, not_false_eq_true, List.any_cons, List.any_nil, Bool.or_false, Bool.or_true, Bool.true_or, Bool.false_or, Bool.and_true, Bool.true_and, Bool.and_false, Bool.false_and, exists_eq_left, exists_eq_left', Option.some.injEq, A.d.injEq, D.int.injEq, D.bl.injEq, D.str.injEq, D.lst.injEq, D.tup.injEq, Except.ok.injEq, List.cons_append, List.nil_append, List.map_cons, List.map_nil, List.length_cons, List.length_nil, List.replicate, Nat.reduceSub, Nat.reduceAdd, List.append_nil, eq_self, or_true, true_or, or_false, false_or, Int.reduceNeg, Int.reducePow, Int.reduceLT, Int.reduceLE, List.length_set]
    exact hQ _ ⟨cs, 0, 0, st, 0, rfl, h0, h1, hl⟩
end K
set_option maxHeartbeats 4000000
namespace K
open PySem PySem.Spec PyProof.Rows L2 LP
open PySem PySem.Spec PyProof.Rows L2 LP
theorem oks_iff {n : Nat} {l : List PZ} : oks n l = true ↔ (∀ p ∈ l, okP p = true) ∧ l.length ≤ n := by
  unfold oks
  rw [Bool.and_eq_true, List.all_eq_true, decide_eq_true_eq]
theorem runsOf_some {d : D} {rs : List PZ} (h : runsOf d = some rs) : d = ltr rs ∧ oks 60 rs = true := by
  unfold runsOf at h
  split at h
  · rename_i l
    cases e : pairsOf l with
    | none => rw [e] at h; cases h
    | some q =>
      rw [e, Option.bind_some] at h
      split at h
      · rename_i hk
        cases h
        exact ⟨by rw [ltr, pairsOf_some e], hk⟩
      · cases h
  · cases h
theorem runsOf_ltr {rs : List PZ} (h : oks 60 rs = true) : runsOf (ltr rs) = some rs := by
  simp only [runsOf, ltr, pairsOf_map, Option.bind_some, h, if_true]
theorem spansOf_some {d : D} {ps : List PZ} (h : spansOf d = some ps) : (d = .lst (ps.map pzD) ∨ d = .tup (ps.map pzD)) ∧ oks 60 ps = true := by
  unfold spansOf at h
  split at h
  · rename_i l
    cases e : pairsOf l with
    | none => rw [e] at h; cases h
    | some q =>
      rw [e, Option.bind_some] at h
      split at h
      · rename_i hk
        cases h
        exact ⟨.inl (by rw [pairsOf_some e]), hk⟩
      · cases h
  · rename_i l
    cases e : pairsOf l with
    | none => rw [e] at h; cases h
    | some q =>
      rw [e, Option.bind_some] at h
      split at h
      · rename_i hk
        cases h
        exact ⟨.inr (by rw [pairsOf_some e]), hk⟩
      · cases h
  · cases h
theorem spansOf_lst {ps : List PZ} (h : oks 60 ps = true) : spansOf (.lst (ps.map pzD)) = some ps := by
  simp only [spansOf, pairsOf_map, Option.bind_some, h, if_true]
theorem spansOf_tup {ps : List PZ} (h : oks 60 ps = true) : spansOf (.tup (ps.map pzD)) = some ps := by
  simp only [spansOf, pairsOf_map, Option.bind_some, h, if_true]
theorem okP_b {p : PZ} (h : okP p = true) : 0 ≤ p.1 ∧ p.1 ≤ p.2 ∧ p.2 ≤ GR := of_decide_eq_true h
theorem v_is_number (ds : List D) (o : Except Er D) (h : G_is_number ds = some o) : w_is_number (stG N_is_number (ds.map A.d)) [] (dnP o) := by
  unfold G_is_number at h
  split at h
  · rename_i v lo hi
    cases v <;> simp only [Option.some.injEq, reduceCtorEq] at h <;> subst h <;> simp [w_is_number_0, N_is_number, stG, wSeq, wIf, wAsg, wRet, wRetN, wNext, wDrop, wP, wB, wPs, wCons, wNil, wOp, wFn, wPar, wAsgT, wTup, wLst, wNewL, setIx_eq, setA, wM1, wI, wFor, bV, bNot, bAnd, bOr, fOp, fC, fV, fCons, fNil, fCall, fIsi, fAnd, fOr, fNot, chain_le, fTup, fLst, fIf, fFn, tgN, tgT, setAll, gI, gLen, gLe, gLt, gGe, gGt, LP.gSub, gMod, gFdiv, gPow, gPlus, gTimes, gIntA, gInt, gIsN, gIx, tyA, TN.sub, LP.dataOf, A.toD, viewL, viewQ, viewT, gEq_ii, gEq_ss, gEq_bb, gEq_nn, fSl, slV, oN, oS, iL, iR1, wFnM, gFdivW, tNot', tV, wFrz, fFld, fldV, gEither, gOwnIn, gOwnBin, gOwnEq, fIsiO, gIsiO, fProp, propV, fMeth, fMake, fMakeV, twoT, viewT, iZQ, iET, Option.bind_some, Option.map_some, Option.bind_none, Option.map_none, Option.bind, Option.map, List.getElem?_cons_zero, List.getElem?_cons_succ, List.getElem?_nil, List.set_cons_zero, List.set_cons_succ, List.set_nil, if_true, if_false, ↓reduceIte, Bool.not_true, Bool.not_false, decide_true, decide_false, Bool.false_eq_true, reduceCtorEq, true_and, false_and, and_true, and_false, not_true, not_false_eq_true, List.any_cons, List.any_nil, Bool.or_false, Bool.or_true, Bool.true_or, Bool.false_or, Bool.and_true, Bool.true_and, Bool.and_false, Bool.false_and, exists_eq_left, exists_eq_left', Option.some.injEq, A.d.injEq, D.int.injEq, D.bl.injEq, D.str.injEq, D.lst.injEq, D.tup.injEq, Except.ok.injEq, List.cons_append, List.nil_append, List.map_cons, List.map_nil, List.length_cons, List.length_nil, List.replicate, Nat.reduceSub, Nat.reduceAdd, List.append_nil, eq_self, or_true, true_or, or_false, false_or, Int.reduceNeg, Int.reducePow, Int.reduceLT, Int.reduceLE, List.length_set]
    rename_i n
    by_cases h1 : lo ≤ n <;> by_cases h2 : n ≤ hi <;> simp [h1, h2]
  · cases h
theorem numD_ok {a : D} {x : Bool} (h : isNumD a = some x) : G_is_number [a, .int 0, .int 999999999999999999] = some (.ok (.bl x)) := by
  cases a <;> simp only [isNumD, Option.some.injEq, reduceCtorEq] at h <;> subst h <;> rfl
theorem numD_int {a : D} (h : isNumD a = some true) : ∃ n, a = .int n := by
  cases a <;> simp only [isNumD, Option.some.injEq, reduceCtorEq, Bool.false_eq_true] at h
  exact ⟨_, rfl⟩
theorem v_is_span (ds : List D) (o : Except Er D) (h : G_is_span ds = some o) : w_is_span (stG N_is_span (ds.map A.d)) [] (dnP o) := by
  unfold G_is_span at h
  split at h
  · rename_i d
    cases e : spanB d with
    | none => rw [e] at h; cases h
    | some b =>
      rw [e] at h; cases h
      cases d with
      | tup l =>
        match l, e with
        | [], e => cases e; simp only [w_is_span_0, N_is_span, stG, wSeq, wIf, wAsg, wRet, wRetN, wNext, wDrop, wP, wB, wPs, wCons, wNil, wOp, wFn, wPar, wAsgT, wTup, wLst, wNewL, setIx_eq, setA, wM1, wI, wFor, bV, bNot, bAnd, bOr, fOp, fC, fV, fCons, fNil, fCall, fIsi, fAnd, fOr, fNot, chain_le, fTup, fLst, fIf, fFn, tgN, tgT, setAll, gI, gLen, gLe, gLt, gGe, gGt, LP.gSub, gMod, gFdiv, gPow, gPlus, gTimes, gIntA, gInt, gIsN, gIx, tyA, TN.sub, LP.dataOf, A.toD, viewL, viewQ, viewT, gEq_ii, gEq_ss, gEq_bb, gEq_nn, fSl, slV, oN, oS, iL, iR1, wFnM, gFdivW, tNot', tV, wFrz, fFld, fldV, gEither, gOwnIn, gOwnBin, gOwnEq, fIsiO, gIsiO, fProp, propV, fMeth, fMake, fMakeV, twoT, viewT, iZQ, iET, Option.bind_some, Option.map_some, Option.bind_none, Option.map_none, Option.bind, Option.map, List.getElem?_cons_zero, List.getElem?_cons_succ, List.getElem?_nil, List.set_cons_zero, List.set_cons_succ, List.set_nil, if_true, if_false, ↓reduceIte, Bool.not_true, Bool.not_false, decide_true, decide_false, Bool.false_eq_true, reduceCtorEq, true_and, false_and, and_true, and_false, not_true, not_false_eq_true, List.any_cons, List.any_nil, Bool.or_false, Bool.or_true, Bool.true_or, Bool.false_or, Bool.and_true, Bool.true_and, Bool.and_false, Bool.false_and, exists_eq_left, exists_eq_left', Option.some.injEq, A.d.injEq, D.int.injEq, D.bl.injEq, D.str.injEq, D.lst.injEq, D.tup.injEq, Except.ok.injEq, List.cons_append, List.nil_append, List.map_cons, List.map_nil, List.length_cons, List.length_nil, List.replicate, Nat.reduceSub, Nat.reduceAdd, List.append_nil, eq_self, or_true, true_or, or_false, false_or, Int.reduceNeg, Int.reducePow, Int.reduceLT, Int.reduceLE, List.length_set]; simp
        | [a], e => cases e; simp only [w_is_span_0, N_is_span, stG, wSeq, wIf, wAsg, wRet, wRetN, wNext, wDrop, wP, wB, wPs, wCons, wNil, wOp, wFn, wPar, wAsgT, wTup, wLst, wNewL, setIx_eq, setA, wM1, wI, wFor, bV, bNot, bAnd, bOr, fOp, fC, fV, fCons, fNil, fCall, fIsi, fAnd, fOr, fNot, chain_le, fTup, fLst, fIf, fFn, tgN, tgT, setAll, gI, gLen, gLe, gLt, gGe, gGt, LP.gSub, gMod, gFdiv, gPow, gPlus, gTimes, gIntA, gInt, gIsN, gIx, tyA, TN.sub, LP.dataOf, A.toD, viewL, viewQ, viewT, gEq_ii, gEq_ss, gEq_bb, gEq_nn, fSl, slV, oN, oS, iL, iR1, wFnM, gFdivW, tNot', tV, wFrz, fFld, fldV, gEither, gOwnIn, gOwnBin, gOwnEq, fIsiO, gIsiO, fProp, propV, fMeth, fMake, fMakeV, twoT, viewT, iZQ, iET, Option.bind_some, Option.map_some, Option.bind_none, Option.map_none, Option.bind, Option.map, List.getElem?_cons_zero, List.getElem?_cons_succ, List.getElem?_nil, List.set_cons_zero, List.set_cons_succ, List.set_nil, if_true, if_false, ↓reduceIte, Bool.not_true, Bool.not_false, decide_true, decide_false, Bool.false_eq_true, reduceCtorEq, true_and, false_and, and_true, and_false, not_true, not_false_eq_true, List.any_cons, List.any_nil, Bool.or_false, Bool.or_true, Bool.true_or, Bool.false_or, Bool.and_true, Bool.true_and, Bool.and_false, Bool.false_and, exists_eq_left, exists_eq_left', Option.some.injEq, A.d.injEq, D.int.injEq, D.bl.injEq, D.str.injEq, D.lst.injEq, D.tup.injEq, Except.ok.injEq, List.cons_append, List.nil_append, List.map_cons, List.map_nil, List.length_cons, List.length_nil, List.replicate, Nat.reduceSub, Nat.reduceAdd, List.append_nil, eq_self, or_true, true_or, or_false, false_or, Int.reduceNeg, Int.reducePow, Int.reduceLT, Int.reduceLE, List.length_set]; simp
        | a :: b' :: c :: r, e =>
          have hb : b = false := by
            simp only [spanB] at e
            split at e
            · cases e; rfl
            · cases e
          subst hb
          have h3 : ((r.length : Int) + 1 + 1 + 1 = 2) = False := eq_false (by omega)
          simp only [w_is_span_0, N_is_span, stG, wSeq, wIf, wAsg, wRet, wRetN, wNext, wDrop, wP, wB, wPs, wCons, wNil, wOp, wFn, wPar, wAsgT, wTup, wLst, wNewL, setIx_eq, setA, wM1, wI, wFor, bV, bNot, bAnd, bOr, fOp, fC, fV, fCons, fNil, fCall, fIsi, fAnd, fOr, fNot, chain_le, fTup, fLst, fIf, fFn, tgN, tgT, setAll, gI, gLen, gLe, gLt, gGe, gGt, LP.gSub, gMod, gFdiv, gPow, gPlus, gTimes, gIntA, gInt, gIsN, gIx, tyA, TN.sub, LP.dataOf, A.toD, viewL, viewQ, viewT, gEq_ii, gEq_ss, gEq_bb, gEq_nn, fSl, slV, oN, oS, iL, iR1, wFnM, gFdivW, tNot', tV, wFrz, fFld, fldV, gEither, gOwnIn, gOwnBin, gOwnEq, fIsiO, gIsiO, fProp, propV, fMeth, fMake, fMakeV, twoT, viewT, iZQ, iET, Option.bind_some, Option.map_some, Option.bind_none, Option.map_none, Option.bind, Option.map, List.getElem?_cons_zero, List.getElem?_cons_succ, List.getElem?_nil, List.set_cons_zero, List.set_cons_succ, List.set_nil, if_true, if_false, ↓reduceIte, Bool.not_true, Bool.not_false, decide_true, decide_false, Bool.false_eq_true, reduceCtorEq, true_and, false_and, and_true, and_false, not_true, not_false_eq_true, List.any_cons, List.any_nil, Bool.or_false, Bool.or_true, Bool.true_or, Bool.false_or, Bool.and_true, Bool.true_and, Bool.and_false, Bool.false_and, exists_eq_left, exists_eq_left', Option.some.injEq, A.d.injEq, D.int.injEq, D.bl.injEq, D.str.injEq, D.lst.injEq, D.tup.injEq, Except.ok.injEq, List.cons_append, List.nil_append, List.map_cons, List.map_nil, List.length_cons, List.length_nil, List.replicate, Nat.reduceSub, Nat.reduceAdd, List.append_nil, eq_self, or_true, true_or, or_false, false_or, Int.reduceNeg, Int.reducePow, Int.reduceLT, Int.reduceLE, List.length_set]
          simp [h3]
        | [a, b'], e =>
          have e' : ((isNumD a).bind fun x => (isNumD b').map fun y => x && (y && leD a b')) = some b := e
          cases ea : isNumD a with
          | none => rw [ea] at e'; cases e'
          | some x =>
            cases eb : isNumD b' with
            | none => rw [ea, eb] at e'; cases e'
            | some y =>
              rw [ea, eb] at e'
              cases e'
              have na := numD_ok ea
              have nb := numD_ok eb
              have i0 : atI [a, b'] (0 : Int) = some a := rfl
              have i1 : atI [a, b'] (1 : Int) = some b' := rfl
              cases x with
              | false => simp only [w_is_span_0, w_is_span_1, N_is_span, i0, i1, na, nb, stG, wSeq, wIf, wAsg, wRet, wRetN, wNext, wDrop, wP, wB, wPs, wCons, wNil, wOp, wFn, wPar, wAsgT, wTup, wLst, wNewL, setIx_eq, setA, wM1, wI, wFor, bV, bNot, bAnd, bOr, fOp, fC, fV, fCons, fNil, fCall, fIsi, fAnd, fOr, fNot, chain_le, fTup, fLst, fIf, fFn, tgN, tgT, setAll, gI, gLen, gLe, gLt, gGe, gGt, LP.gSub, gMod, gFdiv, gPow, gPlus, gTimes, gIntA, gInt, gIsN, gIx, tyA, TN.sub, LP.dataOf, A.toD, viewL, viewQ, viewT, gEq_ii, gEq_ss, gEq_bb, gEq_nn, fSl, slV, oN, oS, iL, iR1, wFnM, gFdivW, tNot', tV, wFrz, fFld, fldV, gEither, gOwnIn, gOwnBin, gOwnEq, fIsiO, gIsiO, fProp, propV, fMeth, fMake, fMakeV, twoT, viewT, iZQ, iET, Option.bind_some, Option.map_some, Option.bind_none, Option.map_none, Option.bind, Option.map, List.getElem?_cons_zero, List.getElem?_cons_succ, List.getElem?_nil, List.set_cons_zero, List.set_cons_succ, List.set_nil, if_true, if_false, ↓reduceIte, Bool.not_true, Bool.not_false, decide_true, decide_false, Bool.false_eq_true, reduceCtorEq, true_and, false_and, and_true, and_false, not_true, not_false_eq_true, List.any_cons, List.any_nil, Bool.or_false, Bool.or_true, Bool.true_or, Bool.false_or, Bool.and_true, Bool.true_and, Bool.and_false, Bool.false_and, exists_eq_left, exists_eq_left', Option.some.injEq, A.d.injEq, D.int.injEq, D.bl.injEq, D.str.injEq, D.lst.injEq, D.tup.injEq, Except.ok.injEq, List.cons_append, List.nil_append, List.map_cons, List.map_nil, List.length_cons, List.length_nil, List.replicate, Nat.reduceSub, Nat.reduceAdd, List.append_nil, eq_self, or_true, true_or, or_false, false_or, Int.reduceNeg, Int.reducePow, Int.reduceLT, Int.reduceLE, List.length_set]; simp
              | true =>
                cases y with
                | false => simp only [w_is_span_0, w_is_span_1, N_is_span, i0, i1, na, nb, stG, wSeq, wIf, wAsg, wRet, wRetN, wNext, wDrop, wP, wB, wPs, wCons, wNil, wOp, wFn, wPar, wAsgT, wTup, wLst, wNewL, setIx_eq, setA, wM1, wI, wFor, bV, bNot, bAnd, bOr, fOp, fC, fV, fCons, fNil, fCall, fIsi, fAnd, fOr, fNot, chain_le, fTup, fLst, fIf, fFn, tgN, tgT, setAll, gI, gLen, gLe, gLt, gGe, gGt, LP.gSub, gMod, gFdiv, gPow, gPlus, gTimes, gIntA, gInt, gIsN, gIx, tyA, TN.sub, LP.dataOf, A.toD, viewL, viewQ, viewT, gEq_ii, gEq_ss, gEq_bb, gEq_nn, fSl, slV, oN, oS, iL, iR1, wFnM, gFdivW, tNot', tV, wFrz, fFld, fldV, gEither, gOwnIn, gOwnBin, gOwnEq, fIsiO, gIsiO, fProp, propV, fMeth, fMake, fMakeV, twoT, viewT, iZQ, iET, Option.bind_some, Option.map_some, Option.bind_none, Option.map_none, Option.bind, Option.map, List.getElem?_cons_zero, List.getElem?_cons_succ, List.getElem?_nil, List.set_cons_zero, List.set_cons_succ, List.set_nil, if_true, if_false, ↓reduceIte, Bool.not_true, Bool.not_false, decide_true, decide_false, Bool.false_eq_true, reduceCtorEq, true_and, false_and, and_true, and_false, not_true, not_false_eq_true, List.any_cons, List.any_nil, Bool.or_false, Bool.or_true, Bool.true_or, Bool.false_or, Bool.and_true, Bool.true_and, Bool.and_false, Bool.false_and, exists_eq_left, exists_eq_left', Option.some.injEq, A.d.injEq, D.int.injEq, D.bl.injEq, D.str.injEq, D.lst.injEq, D.tup.injEq, Except.ok.injEq, List.cons_append, List.nil_append, List.map_cons, List.map_nil, List.length_cons, List.length_nil, List.replicate, Nat.reduceSub, Nat.reduceAdd, List.append_nil, eq_self, or_true, true_or, or_false, false_or, Int.reduceNeg, Int.reducePow, Int.reduceLT, Int.reduceLE, List.length_set]; simp
                | true =>
                  obtain ⟨i, rfl⟩ := numD_int ea
                  obtain ⟨j, rfl⟩ := numD_int eb
                  simp only [w_is_span_0, w_is_span_1, N_is_span, i0, i1, na, nb, leD, stG, wSeq, wIf, wAsg, wRet, wRetN, wNext, wDrop, wP, wB, wPs, wCons, wNil, wOp, wFn, wPar, wAsgT, wTup, wLst, wNewL, setIx_eq, setA, wM1, wI, wFor, bV, bNot, bAnd, bOr, fOp, fC, fV, fCons, fNil, fCall, fIsi, fAnd, fOr, fNot, chain_le, fTup, fLst, fIf, fFn, tgN, tgT, setAll, gI, gLen, gLe, gLt, gGe, gGt, LP.gSub, gMod, gFdiv, gPow, gPlus, gTimes, gIntA, gInt, gIsN, gIx, tyA, TN.sub, LP.dataOf, A.toD, viewL, viewQ, viewT, gEq_ii, gEq_ss, gEq_bb, gEq_nn, fSl, slV, oN, oS, iL, iR1, wFnM, gFdivW, tNot', tV, wFrz, fFld, fldV, gEither, gOwnIn, gOwnBin, gOwnEq, fIsiO, gIsiO, fProp, propV, fMeth, fMake, fMakeV, twoT, viewT, iZQ, iET, Option.bind_some, Option.map_some, Option.bind_none, Option.map_none, Option.bind, Option.map, List.getElem?_cons_zero, List.getElem?_cons_succ, List.getElem?_nil, List.set_cons_zero, List.set_cons_succ, List.set_nil, if_true, if_false, ↓reduceIte, Bool.not_true, Bool.not_false, decide_true, decide_false, Bool.false_eq_true, reduceCtorEq, true_and, false_and, and_true, and_false, not_true, not_false_eq_true, List.any_cons, List.any_nil, Bool.or_false, Bool.or_true, Bool.true_or, Bool.false_or, Bool.and_true, Bool.true_and, Bool.and_false, Bool.false_and, exists_eq_left, exists_eq_left', Option.some.injEq, A.d.injEq, D.int.injEq, D.bl.injEq, D.str.injEq, D.lst.injEq, D.tup.injEq, Except.ok.injEq, List.cons_append, List.nil_append, List.map_cons, List.map_nil, List.length_cons, List.length_nil, List.replicate, Nat.reduceSub, Nat.reduceAdd, List.append_nil, eq_self, or_true, true_or, or_false, false_or, Int.reduceNeg, Int.reducePow, Int.reduceLT, Int.reduceLE, List.length_set]
                  simp
      | non => cases e; simp only [w_is_span_0, N_is_span, stG, wSeq, wIf, wAsg, wRet, wRetN, wNext, wDrop, wP, wB, wPs, wCons, wNil, wOp, wFn, wPar, wAsgT, wTup, wLst, wNewL, setIx_eq, setA, wM1, wI, wFor, bV, bNot, bAnd, bOr, fOp, fC, fV, fCons, fNil, fCall, fIsi, fAnd, fOr, fNot, chain_le, fTup, fLst, fIf, fFn, tgN, tgT, setAll, gI, gLen, gLe, gLt, gGe, gGt, LP.gSub, gMod, gFdiv, gPow, gPlus, gTimes, gIntA, gInt, gIsN, gIx, tyA, TN.sub, LP.dataOf, A.toD, viewL, viewQ, viewT, gEq_ii, gEq_ss, gEq_bb, gEq_nn, fSl, slV, oN, oS, iL, iR1, wFnM, gFdivW, tNot', tV, wFrz, fFld, fldV, gEither, gOwnIn, gOwnBin, gOwnEq, fIsiO, gIsiO, fProp, propV, fMeth, fMake, fMakeV, twoT, viewT, iZQ, iET, Option.bind_some, Option.map_some, Option.bind_none, Option.map_none, Option.bind, Option.map, List.getElem?_cons_zero, List.getElem?_cons_succ, List.getElem?_nil, List.set_cons_zero, List.set_cons_succ, List.set_nil, if_true, if_false, ↓reduceIte, Bool.not_true, Bool.not_false, decide_true, decide_false, Bool.false_eq_true, reduceCtorEq, true_and, false_and, and_true, and_false, not_true, not_false_eq_true, List.any_cons, List.any_nil, Bool.or_false, Bool.or_true, Bool.true_or, Bool.false_or, Bool.and_true, Bool.true_and, Bool.and_false, Bool.false_and, exists_eq_left, exists_eq_left', Option.some.injEq, A.d.injEq, D.int.injEq, D.bl.injEq, D.str.injEq, D.lst.injEq, D.tup.injEq, Except.ok.injEq, List.cons_append, List.nil_append, List.map_cons, List.map_nil, List.length_cons, List.length_nil, List.replicate, Nat.reduceSub, Nat.reduceAdd, List.append_nil, eq_self, or_true, true_or, or_false, false_or, Int.reduceNeg, Int.reducePow, Int.reduceLT, Int.reduceLE, List.length_set]
      | bl b => cases e; simp only [w_is_span_0, N_is_span, stG, wSeq, wIf, wAsg, wRet, wRetN, wNext, wDrop, wP, wB, wPs, wCons, wNil, wOp, wFn, wPar, wAsgT, wTup, wLst, wNewL, setIx_eq, setA, wM1, wI, wFor, bV, bNot, bAnd, bOr, fOp, fC, fV, fCons, fNil, fCall, fIsi, fAnd, fOr, fNot, chain_le, fTup, fLst, fIf, fFn, tgN, tgT, setAll, gI, gLen, gLe, gLt, gGe, gGt, LP.gSub, gMod, gFdiv, gPow, gPlus, gTimes, gIntA, gInt, gIsN, gIx, tyA, TN.sub, LP.dataOf, A.toD, viewL, viewQ, viewT, gEq_ii, gEq_ss, gEq_bb, gEq_nn, fSl, slV, oN, oS, iL, iR1, wFnM, gFdivW, tNot', tV, wFrz, fFld, fldV, gEither, gOwnIn, gOwnBin, gOwnEq, fIsiO, gIsiO, fProp, propV, fMeth, fMake, fMakeV, twoT, viewT, iZQ, iET, Option.bind_some, Option.map_some, Option.bind_none, Option.map_none, Option.bind, Option.map, List.getElem?_cons_zero, List.getElem?_cons_succ, List.getElem?_nil, List.set_cons_zero, List.set_cons_succ, List.set_nil, if_true, if_false, ↓reduceIte, Bool.not_true, Bool.not_false, decide_true, decide_false, Bool.false_eq_true, reduceCtorEq, true_and, false_and, and_true, and_false, not_true, not_false_eq_true, List.any_cons, List.any_nil, Bool.or_false, Bool.or_true, Bool.true_or, Bool.false_or, Bool.and_true, Bool.true_and, Bool.and_false, Bool.false_and, exists_eq_left, exists_eq_left', Option.some.injEq, A.d.injEq, D.int.injEq, D.bl.injEq, D.str.injEq, D.lst.injEq, D.tup.injEq, Except.ok.injEq, List.cons_append, List.nil_append, List.map_cons, List.map_nil, List.length_cons, List.length_nil, List.replicate, Nat.reduceSub, Nat.reduceAdd, List.append_nil, eq_self, or_true, true_or, or_false, false_or, Int.reduceNeg, Int.reducePow, Int.reduceLT, Int.reduceLE, List.length_set]
      | int b => cases e; simp only [w_is_span_0, N_is_span, stG, wSeq, wIf, wAsg, wRet, wRetN, wNext, wDrop, wP, wB, wPs, wCons, wNil, wOp, wFn, wPar, wAsgT, wTup, wLst, wNewL, setIx_eq, setA, wM1, wI, wFor, bV, bNot, bAnd, bOr, fOp, fC, fV, fCons, fNil, fCall, fIsi, fAnd, fOr, fNot, chain_le, fTup, fLst, fIf, fFn, tgN, tgT, setAll, gI, gLen, gLe, gLt, gGe, gGt, LP.gSub, gMod, gFdiv, gPow, gPlus, gTimes, gIntA, gInt, gIsN, gIx, tyA, TN.sub, LP.dataOf, A.toD, viewL, viewQ, viewT, gEq_ii, gEq_ss, gEq_bb, gEq_nn, fSl, slV, oN, oS, iL, iR1, wFnM, gFdivW, tNot', tV, wFrz, fFld, fldV, gEither, gOwnIn, gOwnBin, gOwnEq, fIsiO, gIsiO, fProp, propV, fMeth, fMake, fMakeV, twoT, viewT, iZQ, iET, Option.bind_some, Option.map_some, Option.bind_none, Option.map_none, Option.bind, Option.map, List.getElem?_cons_zero, List.getElem?_cons_succ, List.getElem?_nil, List.set_cons_zero, List.set_cons_succ, List.set_nil, if_true, if_false, ↓reduceIte, Bool.not_true, Bool.not_false, decide_true, decide_false, Bool.false_eq_true, reduceCtorEq, true_and, false_and, and_true, and_false, not_true, not_false_eq_true, List.any_cons, List.any_nil, Bool.or_false, Bool.or_true, Bool.true_or, Bool.false_or, Bool.and_true, Bool.true_and, Bool.and_false, Bool.false_and, exists_eq_left, exists_eq_left', Option.some.injEq, A.d.injEq, D.int.injEq, D.bl.injEq, D.str.injEq, D.lst.injEq, D.tup.injEq, Except.ok.injEq, List.cons_append, List.nil_append, List.map_cons, List.map_nil, List.length_cons, List.length_nil, List.replicate, Nat.reduceSub, Nat.reduceAdd, List.append_nil, eq_self, or_true, true_or, or_false, false_or, Int.reduceNeg, Int.reducePow, Int.reduceLT, Int.reduceLE, List.length_set]
      | str b => cases e; simp only [w_is_span_0, N_is_span, stG, wSeq, wIf, wAsg, wRet, wRetN, wNext, wDrop, wP, wB, wPs, wCons, wNil, wOp, wFn, wPar, wAsgT, wTup, wLst, wNewL, setIx_eq, setA, wM1, wI, wFor, bV, bNot, bAnd, bOr, fOp, fC, fV, fCons, fNil, fCall, fIsi, fAnd, fOr, fNot, chain_le, fTup, fLst, fIf, fFn, tgN, tgT, setAll, gI, gLen, gLe, gLt, gGe, gGt, LP.gSub, gMod, gFdiv, gPow, gPlus, gTimes, gIntA, gInt, gIsN, gIx, tyA, TN.sub, LP.dataOf, A.toD, viewL, viewQ, viewT, gEq_ii, gEq_ss, gEq_bb, gEq_nn, fSl, slV, oN, oS, iL, iR1, wFnM, gFdivW, tNot', tV, wFrz, fFld, fldV, gEither, gOwnIn, gOwnBin, gOwnEq, fIsiO, gIsiO, fProp, propV, fMeth, fMake, fMakeV, twoT, viewT, iZQ, iET, Option.bind_some, Option.map_some, Option.bind_none, Option.map_none, Option.bind, Option.map, List.getElem?_cons_zero, List.getElem?_cons_succ, List.getElem?_nil, List.set_cons_zero, List.set_cons_succ, List.set_nil, if_true, if_false, ↓reduceIte, Bool.not_true, Bool.not_false, decide_true, decide_false, Bool.false_eq_true, reduceCtorEq, true_and, false_and, and_true, and_false, not_true, not_false_eq_true, List.any_cons, List.any_nil, Bool.or_false, Bool.or_true, Bool.true_or, Bool.false_or, Bool.and_true, Bool.true_and, Bool.and_false, Bool.false_and, exists_eq_left, exists_eq_left', Option.some.injEq, A.d.injEq, D.int.injEq, D.bl.injEq, D.str.injEq, D.lst.injEq, D.tup.injEq, Except.ok.injEq, List.cons_append, List.nil_append, List.map_cons, List.map_nil, List.length_cons, List.length_nil, List.replicate, Nat.reduceSub, Nat.reduceAdd, List.append_nil, eq_self, or_true, true_or, or_false, false_or, Int.reduceNeg, Int.reducePow, Int.reduceLT, Int.reduceLE, List.length_set]
      | lst b => cases e; simp only [w_is_span_0, N_is_span, stG, wSeq, wIf, wAsg, wRet, wRetN, wNext, wDrop, wP, wB, wPs, wCons, wNil, wOp, wFn, wPar, wAsgT, wTup, wLst, wNewL, setIx_eq, setA, wM1, wI, wFor, bV, bNot, bAnd, bOr, fOp, fC, fV, fCons, fNil, fCall, fIsi, fAnd, fOr, fNot, chain_le, fTup, fLst, fIf, fFn, tgN, tgT, setAll, gI, gLen, gLe, gLt, gGe, gGt, LP.gSub, gMod, gFdiv, gPow, gPlus, gTimes, gIntA, gInt, gIsN, gIx, tyA, TN.sub, LP.dataOf, A.toD, viewL, viewQ, viewT, gEq_ii, gEq_ss, gEq_bb, gEq_nn, fSl, slV, oN, oS, iL, iR1, wFnM, gFdivW, tNot', tV, wFrz, fFld, fldV, gEither, gOwnIn, gOwnBin, gOwnEq, fIsiO, gIsiO, fProp, propV, fMeth, fMake, fMakeV, twoT, viewT, iZQ, iET, Option.bind_some, Option.map_some, Option.bind_none, Option.map_none, Option.bind, Option.map, List.getElem?_cons_zero, List.getElem?_cons_succ, List.getElem?_nil, List.set_cons_zero, List.set_cons_succ, List.set_nil, if_true, if_false, ↓reduceIte, Bool.not_true, Bool.not_false, decide_true, decide_false, Bool.false_eq_true, reduceCtorEq, true_and, false_and, and_true, and_false, not_true, not_false_eq_true, List.any_cons, List.any_nil, Bool.or_false, Bool.or_true, Bool.true_or, Bool.false_or, Bool.and_true, Bool.true_and, Bool.and_false, Bool.false_and, exists_eq_left, exists_eq_left', Option.some.injEq, A.d.injEq, D.int.injEq, D.bl.injEq, D.str.injEq, D.lst.injEq, D.tup.injEq, Except.ok.injEq, List.cons_append, List.nil_append, List.map_cons, List.map_nil, List.length_cons, List.length_nil, List.replicate, Nat.reduceSub, Nat.reduceAdd, List.append_nil, eq_self, or_true, true_or, or_false, false_or, Int.reduceNeg, Int.reducePow, Int.reduceLT, Int.reduceLE, List.length_set]
      | ins c l => cases e
      | dic c l => cases e
      | fn a => cases e
      | exc c ns l => cases e
  · cases h
theorem atlast {α : Type} (l : List α) (q : α) : atI (l ++ [q]) (-1 : Int) = some q := by
  have e : ixN (l ++ [q]).length (-1 : Int) = some l.length := by
    unfold ixN
    rw [if_neg (by decide), List.length_append, List.length_singleton, if_pos (by omega)]
    congr 1
    omega
  rw [atI, e, Option.bind_some, List.getElem?_append_right (Nat.le_refl _), Nat.sub_self]
  rfl
theorem atlen {α : Type} (l : List α) (q : α) : atI (l ++ [q]) (((l ++ [q]).length : Int) - 1) = some q := by
  have e : ixN (l ++ [q]).length (((l ++ [q]).length : Int) - 1) = some l.length := by
    unfold ixN
    rw [List.length_append, List.length_singleton, if_pos (by omega), if_pos (by omega)]
    congr 1
    omega
  rw [atI, e, Option.bind_some, List.getElem?_append_right (Nat.le_refl _), Nat.sub_self]
  rfl
theorem map_split {l : List PZ} {q : PZ} (h : l.getLast? = some q) : l.map pzD = l.dropLast.map pzD ++ [pzD q] := by
  have e := last_split h
  have : l.map pzD = (l.dropLast ++ [q]).map pzD := by rw [← e]
  rw [this, List.map_append]
  rfl
def accO (acc : List PZ) : MO := .lst ((acc.map pzD).map .d)
theorem eq_loc {S : So} {k : Nat} {acc : List PZ} (neg : Bool) (h : S[k]? = some (accO acc)) : gEqU neg S (.loc k) (.d (.lst [])) = some (.bl (if neg then !decide (acc = []) else decide (acc = []))) := by
  have e := deq_pairs acc []
  simp only [gEqU, gEq, valD, viewL, h, accO, dataOf_map, Option.map_some, Option.bind_some]
  rw [show (D.lst ([] : List D)) = .lst (([] : List PZ).map pzD) from rfl, e]
  rfl
theorem big60 {n : Nat} (h : n ≤ 60) : (n < sizeLine) = True := eq_true (Nat.lt_of_le_of_lt h (by decide))
theorem lm_app {f : QF} {fa : QFs} {Γ : Ga} {S : So} {ex : EK} {Q : AK} {k : Nat} {l : List A} {a : A} (h1 : f Γ S = some (.loc k)) (h2 : S[k]? = some (.lst l)) (h3 : fa Γ S = some [a]) (hl : l.length < sizeLine) (q : Q (.d .non) (S.set k (.lst (l ++ [a])))) : wLM gApp (wP f) (wPs fa) Γ S ex Q := by
  refine ⟨_, h1, k, l, rfl, h2, _, h3, l, l ++ [a], .d .non, h2, ?_, q⟩
  simp only [gApp, if_pos hl]
theorem lenA (l : List PZ) : ((l.map pzD).map A.d).length = l.length := by rw [List.length_map, List.length_map]
theorem join_turn {x0 x2 x3 : Option A} {acc : List PZ} {p : PZ} {E : Dn} (hl : acc.length ≤ 60) (hE : ∀ Γ S', S' = [accO (jstep acc p)] → Γ = [x0, some (.loc 0), some (.d (.int p.1)), some (.d (.int p.2))] → E.nx Γ S') :
    w_joined_for1_0 [x0, some (.loc 0), some (.d (.int p.1)), some (.d (.int p.2))] [accO acc] E := by
  have e0 := eq_loc (S := [accO acc]) (k := 0) true rfl
  have hz : ((acc.map pzD).map A.d).length < sizeLine := by rw [lenA]; exact of_eq_true (big60 hl)
  cases hg : acc.getLast? with
  | none =>
    have hn : acc = [] := by
      cases acc with
      | nil => rfl
      | cons a b => simp at hg
    subst hn
    have hd : decide (([] : List PZ) = []) = true := rfl
    have e0' : gEqU true [accO []] (.loc 0) (.d (.lst [])) = some (.bl false) := by rw [e0, hd]; rfl
    simp only [w_joined_for1_0, e0', stG, wSeq, wIf, wAsg, wRet, wRetN, wNext, wB, wCons, wNil, wOp, wFn, wPar, wAsgT, wTup, wLst, wNewL, setIx_eq, setA, wM1, wI, wFor, bV, bNot, bAnd, bOr, fOp, fC, fV, fCons, fNil, fCall, fIsi, fAnd, fOr, fNot, chain_le, fTup, fLst, fIf, fFn, tgN, tgT, setAll, gI, gLen, gLe, gLt, gGe, gGt, LP.gSub, gMod, gFdiv, gPow, gPlus, gTimes, gIntA, gInt, gIsN, gIx, tyA, TN.sub, LP.dataOf, A.toD, viewL, viewQ, viewT, gEq_ii, gEq_ss, gEq_bb, gEq_nn, fSl, slV, oN, oS, iL, iR1, wFnM, gFdivW, tNot', tV, wFrz, fFld, fldV, gEither, gOwnIn, gOwnBin, gOwnEq, fIsiO, gIsiO, fProp, propV, fMeth, fMake, fMakeV, twoT, viewT, iZQ, iET, Option.bind_some, Option.map_some, Option.bind_none, Option.map_none, Option.bind, Option.map, List.getElem?_cons_zero, List.getElem?_cons_succ, List.getElem?_nil, List.set_cons_zero, List.set_cons_succ, List.set_nil, if_true, if_false, ↓reduceIte, Bool.not_true, Bool.not_false, decide_true, decide_false, Bool.false_eq_true, reduceCtorEq, true_and, false_and, and_true, and_false, not_true, not_false_eq_true, List.any_cons, List.any_nil, Bool.or_false, Bool.or_true, Bool.true_or, Bool.false_or, Bool.and_true, Bool.true_and, Bool.and_false, Bool.false_and, exists_eq_left, exists_eq_left', Option.some.injEq, A.d.injEq, D.int.injEq, D.bl.injEq, D.str.injEq, D.lst.injEq, D.tup.injEq, Except.ok.injEq, List.cons_append, List.nil_append, List.map_cons, List.map_nil, List.length_cons, List.length_nil, List.replicate, Nat.reduceSub, Nat.reduceAdd, List.append_nil, eq_self, or_true, true_or, or_false, false_or, Int.reduceNeg, Int.reducePow, Int.reduceLT, Int.reduceLE, List.length_set]
    exact lm_app (l := []) rfl rfl rfl (by decide) (hE _ _ rfl rfl)
  | some q =>
    have hne : decide (acc = []) = false := decide_eq_false (by rintro rfl; cases hg)
    have hms := map_split hg
    have e0' : gEqU true [accO acc] (.loc 0) (.d (.lst [])) = some (.bl true) := by rw [e0, hne]; rfl
    have e1 : viewL [accO acc] (.loc 0) = some (acc.map pzD) := by simp only [viewL, accO, List.getElem?_cons_zero, dataOf_map]
    have e2 : gIx [accO acc] (.loc 0) (.d (.int (-1))) = some (.tup [.int q.1, .int q.2]) := by
      simp only [gIx, viewQ, e1, Option.bind_some]
      rw [hms, atlast]
      rfl
    have z0 : gIx [accO acc] (.d (.tup [.int q.1, .int q.2])) (.d (.int 0)) = some (.int q.1) := rfl
    have z1 : gIx [accO acc] (.d (.tup [.int q.1, .int q.2])) (.d (.int 1)) = some (.int q.2) := rfl
    by_cases hc : p.1 ≤ q.2 + 1
    · have hc' := eq_true hc
      simp only [w_joined_for1_0, e0', e2, z0, z1, hc', setIx_eq, gMax2, g2, fNeg, stG, wSeq, wIf, wAsg, wRet, wRetN, wNext, wDrop, wP, wB, wPs, wCons, wNil, wOp, wFn, wPar, wAsgT, wTup, wLst, wNewL, setIx_eq, wM1, wI, wFor, bV, bNot, bAnd, bOr, fOp, fC, fV, fCons, fNil, fCall, fIsi, fAnd, fOr, fNot, chain_le, fTup, fLst, fIf, fFn, tgN, tgT, setAll, gI, gLen, gLe, gLt, gGe, gGt, LP.gSub, gMod, gFdiv, gPow, gPlus, gTimes, gIntA, gInt, gIsN, tyA, TN.sub, LP.dataOf, A.toD, viewT, gEq_ii, gEq_ss, gEq_bb, gEq_nn, fSl, slV, oN, oS, iL, iR1, wFnM, gFdivW, tNot', tV, wFrz, fFld, fldV, gEither, gOwnIn, gOwnBin, gOwnEq, fIsiO, gIsiO, fProp, propV, fMeth, fMake, fMakeV, twoT, viewT, iZQ, iET, Option.bind_some, Option.map_some, Option.bind_none, Option.map_none, Option.bind, Option.map, List.getElem?_cons_zero, List.getElem?_cons_succ, List.getElem?_nil, List.set_cons_zero, List.set_cons_succ, List.set_nil, if_true, if_false, ↓reduceIte, Bool.not_true, Bool.not_false, decide_true, decide_false, Bool.false_eq_true, reduceCtorEq, true_and, false_and, and_true, and_false, not_true, not_false_eq_true, List.any_cons, List.any_nil, Bool.or_false, Bool.or_true, Bool.true_or, Bool.false_or, Bool.and_true, Bool.true_and, Bool.and_false, Bool.false_and, exists_eq_left, exists_eq_left', Option.some.injEq, A.d.injEq, D.int.injEq, D.bl.injEq, D.str.injEq, D.lst.injEq, D.tup.injEq, Except.ok.injEq, List.cons_append, List.nil_append, List.map_cons, List.map_nil, List.length_cons, List.length_nil, List.replicate, Nat.reduceSub, Nat.reduceAdd, List.append_nil, eq_self, or_true, true_or, or_false, false_or, Int.reduceNeg, Int.reducePow, Int.reduceLT, Int.reduceLE, List.length_set]
      refine ⟨[accO (jstep acc p)], ?_, hE _ _ rfl rfl⟩
      have hi : ixN ((acc.map pzD).map A.d).length (-1 : Int) = some (acc.length - 1) := by
        rw [lenA]
        have : 0 < acc.length := by
          cases acc with
          | nil => cases hg
          | cons => simp
        unfold ixN
        rw [if_neg (by decide), if_pos (by omega)]
        congr 1
        omega
      simp only [setA, List.getElem?_cons_zero, accO, hi, Option.map_some]
      have e3 : jstep acc p = acc.dropLast ++ [(q.1, max q.2 p.2)] := by simp only [jstep, hg, if_pos hc]
      have hmx : (if p.2 > q.2 then p.2 else q.2) = max q.2 p.2 := by split <;> omega
      have hsp := last_split hg
      rw [e3, hmx]
      congr 1
      rw [List.set_cons_zero]
      congr 2
      generalize acc.dropLast = a at hsp
      subst hsp
      simp [pzD, List.set_append]
    · have hc' := eq_false hc
      simp only [w_joined_for1_0, e0', e2, z0, z1, hc', fNeg, stG, wSeq, wIf, wAsg, wRet, wRetN, wNext, wB, wCons, wNil, wOp, wFn, wPar, wAsgT, wTup, wLst, wNewL, setIx_eq, setA, wM1, wI, wFor, bV, bNot, bAnd, bOr, fOp, fC, fV, fCons, fNil, fCall, fIsi, fAnd, fOr, fNot, chain_le, fTup, fLst, fIf, fFn, tgN, tgT, setAll, gI, gLen, gLe, gLt, gGe, gGt, LP.gSub, gMod, gFdiv, gPow, gPlus, gTimes, gIntA, gInt, gIsN, tyA, TN.sub, LP.dataOf, A.toD, viewT, gEq_ii, gEq_ss, gEq_bb, gEq_nn, fSl, slV, oN, oS, iL, iR1, wFnM, gFdivW, tNot', tV, wFrz, fFld, fldV, gEither, gOwnIn, gOwnBin, gOwnEq, fIsiO, gIsiO, fProp, propV, fMeth, fMake, fMakeV, twoT, viewT, iZQ, iET, Option.bind_some, Option.map_some, Option.bind_none, Option.map_none, Option.bind, Option.map, List.getElem?_cons_zero, List.getElem?_cons_succ, List.getElem?_nil, List.set_cons_zero, List.set_cons_succ, List.set_nil, if_true, if_false, ↓reduceIte, Bool.not_true, Bool.not_false, decide_true, decide_false, Bool.false_eq_true, reduceCtorEq, true_and, false_and, and_true, and_false, not_true, not_false_eq_true, List.any_cons, List.any_nil, Bool.or_false, Bool.or_true, Bool.true_or, Bool.false_or, Bool.and_true, Bool.true_and, Bool.and_false, Bool.false_and, exists_eq_left, exists_eq_left', Option.some.injEq, A.d.injEq, D.int.injEq, D.bl.injEq, D.str.injEq, D.lst.injEq, D.tup.injEq, Except.ok.injEq, List.cons_append, List.nil_append, List.map_cons, List.map_nil, List.length_cons, List.length_nil, List.replicate, Nat.reduceSub, Nat.reduceAdd, List.append_nil, eq_self, or_true, true_or, or_false, false_or, Int.reduceNeg, Int.reducePow, Int.reduceLT, Int.reduceLE, List.length_set]
      have e3 : jstep acc p = acc ++ [p] := by simp only [jstep, hg, if_neg hc]
      refine lm_app (l := (acc.map pzD).map A.d) rfl rfl rfl hz (hE _ _ ?_ rfl)
      rw [e3]
      simp [accO, pzD]
end K
set_option maxHeartbeats 4000000
namespace K
open PySem PySem.Spec PyProof.Rows L2 LP
def enumD : Nat → List D → List D
  | _, [] => []
  | k, d :: ds => LP.pairD (.int k) d :: enumD (k + 1) ds
theorem enum_from (l : List D) : ∀ k : Nat, List.zipWith LP.pairD ((List.range' k l.length).map fun (i : Nat) => D.int (i : Int)) l = enumD k l := by
  induction l with
  | nil => intro k; rfl
  | cons d l ih =>
    intro k
    rw [List.length_cons, List.range'_succ, List.map_cons, List.zipWith_cons_cons, ih]
    rfl
theorem enum0 (l : List D) : List.zipWith LP.pairD ((List.range l.length).map fun (i : Nat) => D.int (i : Int)) l = enumD 0 l := by
  rw [List.range_eq_range']
  exact enum_from l 0
open PySem PySem.Spec PyProof.Rows L2 LP
theorem ok_inB {p : PZ} (h : okP p = true) : inB p = true := by
  obtain ⟨h1, h2, h3⟩ := okP_b h
  simp only [inB, Bool.and_eq_true, decide_eq_true_eq, BIG]
  unfold GR at h3
  omega
theorem span_view {S : So} {d : D} {ps : List PZ} (h : spansOf d = some ps) : viewQ S (.d d) = some (ps.map pzD) := by
  obtain ⟨h1, h2⟩ := spansOf_some h
  rcases h1 with rfl | rfl <;> rfl
theorem sort_view {S : So} {d : D} {ps : List PZ} (h : spansOf d = some ps) : gSortP S [.d d] = some (.lst ((sortP ps).map pzD)) := by
  obtain ⟨ho, hl⟩ := oks_iff.mp (spansOf_some h).2
  simp only [gSortP, span_view h, Option.bind_some, pairsOf_map]
  rw [if_pos ⟨by omega, List.all_eq_true.mpr fun p hp => ok_inB (ho p hp)⟩]
theorem frz_acc (acc : List PZ) : frz [accO acc] (.loc 0) = some (.lst (acc.map pzD), [.frz (.lst (acc.map pzD))]) := by
  simp only [frz, accO, List.getElem?_cons_zero, dataOf_map, Option.map_some, List.set_cons_zero]
theorem v_joined (ds : List D) (o : Except Er D) (h : G_joined ds = some o) : w_joined (stG N_joined (ds.map A.d)) [] (dnP o) := by
  unfold G_joined at h
  split at h
  · rename_i d
    cases e : spansOf d with
    | none => rw [e] at h; cases h
    | some ps =>
      rw [e] at h; cases h
      have hs := sort_view (S := [MO.lst []]) e
      obtain ⟨ho, hl⟩ := oks_iff.mp (spansOf_some e).2
      simp only [w_joined_0, w_joined_1, N_joined, hs, stG, wSeq, wIf, wAsg, wRet, wRetN, wNext, wDrop, wP, wB, wPs, wCons, wNil, wOp, wFn, wPar, wAsgT, wTup, wLst, wNewL, setIx_eq, setA, wM1, wI, wFor, bV, bNot, bAnd, bOr, fOp, fC, fV, fCons, fNil, fCall, fIsi, fAnd, fOr, fNot, chain_le, fTup, fLst, fIf, fFn, tgN, tgT, setAll, gI, gLen, gLe, gLt, gGe, gGt, LP.gSub, gMod, gFdiv, gPow, gPlus, gTimes, gIntA, gInt, gIsN, gIx, tyA, TN.sub, LP.dataOf, A.toD, viewL, viewQ, viewT, gEq_ii, gEq_ss, gEq_bb, gEq_nn, fSl, slV, oN, oS, iL, iR1, wFnM, gFdivW, tNot', tV, wFrz, fFld, fldV, gEither, gOwnIn, gOwnBin, gOwnEq, fIsiO, gIsiO, fProp, propV, fMeth, fMake, fMakeV, twoT, viewT, iZQ, iET, Option.bind_some, Option.map_some, Option.bind_none, Option.map_none, Option.bind, Option.map, List.getElem?_cons_zero, List.getElem?_cons_succ, List.getElem?_nil, List.set_cons_zero, List.set_cons_succ, List.set_nil, if_true, if_false, ↓reduceIte, Bool.not_true, Bool.not_false, decide_true, decide_false, Bool.false_eq_true, reduceCtorEq, true_and, false_and, and_true, and_false, not_true, not_false_eq_true, List.any_cons, List.any_nil, Bool.or_false, Bool.or_true, Bool.true_or, Bool.false_or, Bool.and_true, Bool.true_and, Bool.and_false, Bool.false_and, exists_eq_left, exists_eq_left', Option.some.injEq, A.d.injEq, D.int.injEq, D.bl.injEq, D.str.injEq, D.lst.injEq, D.tup.injEq, Except.ok.injEq, List.cons_append, List.nil_append, List.map_cons, List.map_nil, List.length_cons, List.length_nil, List.replicate, Nat.reduceSub, Nat.reduceAdd, List.append_nil, eq_self, or_true, true_or, or_false, false_or, Int.reduceNeg, Int.reducePow, Int.reduceLT, Int.reduceLE, List.length_set]
      refine ⟨_, _, rfl, rfl, ?_⟩
      refine loop_inv (fun r Γ S' => ∃ (rp acc : List PZ) (x2 x3 : Option A), r = rp.map pzD ∧ Γ = [some (.d d), some (.loc 0), x2, x3] ∧ S' = [accO acc] ∧ acc.length + rp.length ≤ 60 ∧ rp.foldl jstep acc = joinL ps) ?_ ?_ _ _ _ ⟨sortP ps, [], none, none, rfl, rfl, rfl, ?_, rfl⟩
      · rintro d' r Γ S' nx ⟨rp, acc, x2, x3, hr, rfl, rfl, hn, hj⟩ hnx
        cases rp with
        | nil => cases hr
        | cons p rp =>
          cases hr
          rw [List.length_cons] at hn
          refine ⟨_, rfl, join_turn (x2 := x2) (x3 := x3) (by omega) fun Γ S' hS hΓ => hnx _ _ rfl ⟨rp, jstep acc p, _, _, rfl, hΓ, hS, ?_, hj⟩⟩
          have := jstep_len acc p
          omega
      · rintro Γ S' ⟨rp, acc, x2, x3, hr, rfl, rfl, hn, hj⟩
        cases rp with
        | cons => cases hr
        | nil =>
          have hj' : acc = joinL ps := hj
          simp only [w_joined_2, frz_acc, stG, wSeq, wIf, wAsg, wRet, wRetN, wNext, wDrop, wP, wB, wPs, wCons, wNil, wOp, wFn, wPar, wAsgT, wTup, wLst, wNewL, setIx_eq, setA, wM1, wI, wFor, bV, bNot, bAnd, bOr, fOp, fC, fV, fCons, fNil, fCall, fIsi, fAnd, fOr, fNot, chain_le, fTup, fLst, fIf, fFn, tgN, tgT, setAll, gI, gLen, gLe, gLt, gGe, gGt, LP.gSub, gMod, gFdiv, gPow, gPlus, gTimes, gIntA, gInt, gIsN, gIx, tyA, TN.sub, LP.dataOf, A.toD, viewL, viewQ, viewT, gEq_ii, gEq_ss, gEq_bb, gEq_nn, fSl, slV, oN, oS, iL, iR1, wFnM, gFdivW, tNot', tV, wFrz, fFld, fldV, gEither, gOwnIn, gOwnBin, gOwnEq, fIsiO, gIsiO, fProp, propV, fMeth, fMake, fMakeV, twoT, viewT, iZQ, iET, Option.bind_some, Option.map_some, Option.bind_none, Option.map_none, Option.bind, Option.map, List.getElem?_cons_zero, List.getElem?_cons_succ, List.getElem?_nil, List.set_cons_zero, List.set_cons_succ, List.set_nil, if_true, if_false, ↓reduceIte, Bool.not_true, Bool.not_false, decide_true, decide_false, Bool.false_eq_true, reduceCtorEq, true_and, false_and, and_true, and_false, not_true, not_false_eq_true, List.any_cons, List.any_nil, Bool.or_false, Bool.or_true, Bool.true_or, Bool.false_or, Bool.and_true, Bool.true_and, Bool.and_false, Bool.false_and, exists_eq_left, exists_eq_left', Option.some.injEq, A.d.injEq, D.int.injEq, D.bl.injEq, D.str.injEq, D.lst.injEq, D.tup.injEq, Except.ok.injEq, List.cons_append, List.nil_append, List.map_cons, List.map_nil, List.length_cons, List.length_nil, List.replicate, Nat.reduceSub, Nat.reduceAdd, List.append_nil, eq_self, or_true, true_or, or_false, false_or, Int.reduceNeg, Int.reducePow, Int.reduceLT, Int.reduceLE, List.length_set]
          rw [hj']
          exact ⟨_, _, rfl, rfl⟩
      · rw [(sortP_perm ps).length_eq]; simpa using hl
  · cases h
theorem lm_pop {f : QF} {Γ : Ga} {S : So} {ex : EK} {Q : AK} {k : Nat} {l : List A} {a : A} (h1 : f Γ S = some (.loc k)) (h2 : S[k]? = some (.lst (l ++ [a]))) (q : Q a (S.set k (.lst l))) : wLM gPop (wP f) wNil Γ S ex Q := by
  refine ⟨_, h1, k, l ++ [a], rfl, h2, l ++ [a], l, a, h2, ?_, q⟩
  simp [gPop]
theorem runs_turn {x0 x2 x3 x4 : Option A} {acc : List PZ} {p : PZ} {E : Dn} (hl : acc.length ≤ 60) (hE : ∀ Γ S' z4, S' = [accO (jstep acc p)] → Γ = [x0, some (.loc 0), some (.d (.int p.1)), some (.d (.int p.2)), z4] → E.nx Γ S') :
    w_l_runs_for1_0 [x0, some (.loc 0), some (.d (.int p.1)), some (.d (.int p.2)), x4] [accO acc] E := by
  have e0 := eq_loc (S := [accO acc]) (k := 0) true rfl
  have hz : ((acc.map pzD).map A.d).length < sizeLine := by rw [lenA]; exact of_eq_true (big60 hl)
  cases hg : acc.getLast? with
  | none =>
    have hn : acc = [] := by
      cases acc with
      | nil => rfl
      | cons a b => simp at hg
    subst hn
    have hd : decide (([] : List PZ) = []) = true := rfl
    have e0' : gEqU true [accO []] (.loc 0) (.d (.lst [])) = some (.bl false) := by rw [e0, hd]; rfl
    simp only [w_l_runs_for1_0, e0', stG, wSeq, wIf, wAsg, wRet, wRetN, wNext, wB, wCons, wNil, wOp, wFn, wPar, wAsgT, wTup, wLst, wNewL, setIx_eq, setA, wM1, wI, wFor, bV, bNot, bAnd, bOr, fOp, fC, fV, fCons, fNil, fCall, fIsi, fAnd, fOr, fNot, chain_le, fTup, fLst, fIf, fFn, tgN, tgT, setAll, gI, gLen, gLe, gLt, gGe, gGt, LP.gSub, gMod, gFdiv, gPow, gPlus, gTimes, gIntA, gInt, gIsN, gIx, tyA, TN.sub, LP.dataOf, A.toD, viewL, viewQ, viewT, gEq_ii, gEq_ss, gEq_bb, gEq_nn, fSl, slV, oN, oS, iL, iR1, wFnM, gFdivW, tNot', tV, wFrz, fFld, fldV, gEither, gOwnIn, gOwnBin, gOwnEq, fIsiO, gIsiO, fProp, propV, fMeth, fMake, fMakeV, twoT, viewT, iZQ, iET, Option.bind_some, Option.map_some, Option.bind_none, Option.map_none, Option.bind, Option.map, List.getElem?_cons_zero, List.getElem?_cons_succ, List.getElem?_nil, List.set_cons_zero, List.set_cons_succ, List.set_nil, if_true, if_false, ↓reduceIte, Bool.not_true, Bool.not_false, decide_true, decide_false, Bool.false_eq_true, reduceCtorEq, true_and, false_and, and_true, and_false, not_true, not_false_eq_true, List.any_cons, List.any_nil, Bool.or_false, Bool.or_true, Bool.true_or, Bool.false_or, Bool.and_true, Bool.true_and, Bool.and_false, Bool.false_and, exists_eq_left, exists_eq_left', Option.some.injEq, A.d.injEq, D.int.injEq, D.bl.injEq, D.str.injEq, D.lst.injEq, D.tup.injEq, Except.ok.injEq, List.cons_append, List.nil_append, List.map_cons, List.map_nil, List.length_cons, List.length_nil, List.replicate, Nat.reduceSub, Nat.reduceAdd, List.append_nil, eq_self, or_true, true_or, or_false, false_or, Int.reduceNeg, Int.reducePow, Int.reduceLT, Int.reduceLE, List.length_set]
    exact lm_app (l := []) rfl rfl rfl (by decide) (hE _ _ _ rfl rfl)
  | some q =>
    have hne : decide (acc = []) = false := decide_eq_false (by rintro rfl; cases hg)
    have hms := map_split hg
    have e0' : gEqU true [accO acc] (.loc 0) (.d (.lst [])) = some (.bl true) := by rw [e0, hne]; rfl
    have e1 : viewL [accO acc] (.loc 0) = some (acc.map pzD) := by simp only [viewL, accO, List.getElem?_cons_zero, dataOf_map]
    have e2 : gIx [accO acc] (.loc 0) (.d (.int ((acc.length : Int) - 1))) = some (.tup [.int q.1, .int q.2]) := by
      have el : (acc.length : Int) = ((acc.map pzD).length : Int) := by rw [List.length_map]
      simp only [gIx, viewQ, e1, Option.bind_some]
      rw [el, hms, atlen]
      rfl
    have e4 : gLen [accO acc] [.loc 0] = some (.int acc.length) := by
      simp only [gLen, viewQ, e1, Option.map_some, List.length_map]
    have z1 : gIx [accO acc] (.d (.tup [.int q.1, .int q.2])) (.d (.int 1)) = some (.int q.2) := rfl
    by_cases hc : p.1 ≤ q.2 + 1
    · have hc' := eq_true hc
      have hsp := last_split hg
      have e3 : jstep acc p = acc.dropLast ++ [(q.1, max q.2 p.2)] := by simp only [jstep, hg, if_pos hc]
      have hmx : (if p.2 > q.2 then p.2 else q.2) = max q.2 p.2 := by split <;> omega
      rw [hmx.symm] at e3
      simp only [w_l_runs_for1_0, e0', e4, e2, z1, hc', fNeg, stG, wSeq, wIf, wAsg, wRet, wRetN, wNext, wB, wCons, wNil, wOp, wFn, wPar, wAsgT, wTup, wLst, wNewL, setIx_eq, setA, wM1, wI, wFor, bV, bNot, bAnd, bOr, fOp, fC, fV, fCons, fNil, fCall, fIsi, fAnd, fOr, fNot, chain_le, fTup, fLst, fIf, fFn, tgN, tgT, setAll, gI, gLe, gLt, gGe, gGt, LP.gSub, gMod, gFdiv, gPow, gPlus, gTimes, gIntA, gInt, gIsN, tyA, TN.sub, LP.dataOf, A.toD, viewT, gEq_ii, gEq_ss, gEq_bb, gEq_nn, fSl, slV, oN, oS, iL, iR1, wFnM, gFdivW, tNot', tV, wFrz, fFld, fldV, gEither, gOwnIn, gOwnBin, gOwnEq, fIsiO, gIsiO, fProp, propV, fMeth, fMake, fMakeV, twoT, viewT, iZQ, iET, Option.bind_some, Option.map_some, Option.bind_none, Option.map_none, Option.bind, Option.map, List.getElem?_cons_zero, List.getElem?_cons_succ, List.getElem?_nil, List.set_cons_zero, List.set_cons_succ, List.set_nil, if_true, if_false, ↓reduceIte, Bool.not_true, Bool.not_false, decide_true, decide_false, Bool.false_eq_true, reduceCtorEq, true_and, false_and, and_true, and_false, not_true, not_false_eq_true, List.any_cons, List.any_nil, Bool.or_false, Bool.or_true, Bool.true_or, Bool.false_or, Bool.and_true, Bool.true_and, Bool.and_false, Bool.false_and, exists_eq_left, exists_eq_left', Option.some.injEq, A.d.injEq, D.int.injEq, D.bl.injEq, D.str.injEq, D.lst.injEq, D.tup.injEq, Except.ok.injEq, List.cons_append, List.nil_append, List.map_cons, List.map_nil, List.length_cons, List.length_nil, List.replicate, Nat.reduceSub, Nat.reduceAdd, List.append_nil, eq_self, or_true, true_or, or_false, false_or, Int.reduceNeg, Int.reducePow, Int.reduceLT, Int.reduceLE, List.length_set]
      refine lm_pop (a := .d (.tup [.int q.1, .int q.2])) (l := (acc.dropLast.map pzD).map A.d) rfl ?_ ?_
      · show some (accO acc) = _
        have : acc.map pzD = acc.dropLast.map pzD ++ [pzD q] := hms
        rw [accO, this, List.map_append]
        rfl
      · refine lm_app (a := .d (.tup [.int q.1, .int (if p.2 > q.2 then p.2 else q.2)])) (l := (acc.dropLast.map pzD).map A.d) rfl rfl ?_ (by rw [lenA, List.length_dropLast]; exact of_eq_true (big60 (by omega))) (hE _ _ _ ?_ rfl)
        · rfl
        · rw [e3]
          simp [accO, pzD]
    · have hc' := eq_false hc
      simp only [w_l_runs_for1_0, e0', e4, e2, z1, hc', fNeg, stG, wSeq, wIf, wAsg, wRet, wRetN, wNext, wB, wCons, wNil, wOp, wFn, wPar, wAsgT, wTup, wLst, wNewL, setIx_eq, setA, wM1, wI, wFor, bV, bNot, bAnd, bOr, fOp, fC, fV, fCons, fNil, fCall, fIsi, fAnd, fOr, fNot, chain_le, fTup, fLst, fIf, fFn, tgN, tgT, setAll, gI, gLe, gLt, gGe, gGt, LP.gSub, gMod, gFdiv, gPow, gPlus, gTimes, gIntA, gInt, gIsN, tyA, TN.sub, LP.dataOf, A.toD, viewT, gEq_ii, gEq_ss, gEq_bb, gEq_nn, fSl, slV, oN, oS, iL, iR1, wFnM, gFdivW, tNot', tV, wFrz, fFld, fldV, gEither, gOwnIn, gOwnBin, gOwnEq, fIsiO, gIsiO, fProp, propV, fMeth, fMake, fMakeV, twoT, viewT, iZQ, iET, Option.bind_some, Option.map_some, Option.bind_none, Option.map_none, Option.bind, Option.map, List.getElem?_cons_zero, List.getElem?_cons_succ, List.getElem?_nil, List.set_cons_zero, List.set_cons_succ, List.set_nil, if_true, if_false, ↓reduceIte, Bool.not_true, Bool.not_false, decide_true, decide_false, Bool.false_eq_true, reduceCtorEq, true_and, false_and, and_true, and_false, not_true, not_false_eq_true, List.any_cons, List.any_nil, Bool.or_false, Bool.or_true, Bool.true_or, Bool.false_or, Bool.and_true, Bool.true_and, Bool.and_false, Bool.false_and, exists_eq_left, exists_eq_left', Option.some.injEq, A.d.injEq, D.int.injEq, D.bl.injEq, D.str.injEq, D.lst.injEq, D.tup.injEq, Except.ok.injEq, List.cons_append, List.nil_append, List.map_cons, List.map_nil, List.length_cons, List.length_nil, List.replicate, Nat.reduceSub, Nat.reduceAdd, List.append_nil, eq_self, or_true, true_or, or_false, false_or, Int.reduceNeg, Int.reducePow, Int.reduceLT, Int.reduceLE, List.length_set]
      have e3 : jstep acc p = acc ++ [p] := by simp only [jstep, hg, if_neg hc]
      refine lm_app (l := (acc.map pzD).map A.d) rfl rfl rfl hz (hE _ _ _ ?_ rfl)
      rw [e3]
      simp [accO, pzD]
theorem v_l_runs (ds : List D) (o : Except Er D) (h : G_joined ds = some o) : w_l_runs (stG N_l_runs (ds.map A.d)) [] (dnP o) := by
  unfold G_joined at h
  split at h
  · rename_i d
    cases e : spansOf d with
    | none => rw [e] at h; cases h
    | some ps =>
      rw [e] at h; cases h
      have hs := sort_view (S := [MO.lst []]) e
      obtain ⟨ho, hl⟩ := oks_iff.mp (spansOf_some e).2
      simp only [w_l_runs_0, w_l_runs_1, N_l_runs, hs, stG, wSeq, wIf, wAsg, wRet, wRetN, wNext, wDrop, wP, wB, wPs, wCons, wNil, wOp, wFn, wPar, wAsgT, wTup, wLst, wNewL, setIx_eq, setA, wM1, wI, wFor, bV, bNot, bAnd, bOr, fOp, fC, fV, fCons, fNil, fCall, fIsi, fAnd, fOr, fNot, chain_le, fTup, fLst, fIf, fFn, tgN, tgT, setAll, gI, gLen, gLe, gLt, gGe, gGt, LP.gSub, gMod, gFdiv, gPow, gPlus, gTimes, gIntA, gInt, gIsN, gIx, tyA, TN.sub, LP.dataOf, A.toD, viewL, viewQ, viewT, gEq_ii, gEq_ss, gEq_bb, gEq_nn, fSl, slV, oN, oS, iL, iR1, wFnM, gFdivW, tNot', tV, wFrz, fFld, fldV, gEither, gOwnIn, gOwnBin, gOwnEq, fIsiO, gIsiO, fProp, propV, fMeth, fMake, fMakeV, twoT, viewT, iZQ, iET, Option.bind_some, Option.map_some, Option.bind_none, Option.map_none, Option.bind, Option.map, List.getElem?_cons_zero, List.getElem?_cons_succ, List.getElem?_nil, List.set_cons_zero, List.set_cons_succ, List.set_nil, if_true, if_false, ↓reduceIte, Bool.not_true, Bool.not_false, decide_true, decide_false, Bool.false_eq_true, reduceCtorEq, true_and, false_and, and_true, and_false, not_true, not_false_eq_true, List.any_cons, List.any_nil, Bool.or_false, Bool.or_true, Bool.true_or, Bool.false_or, Bool.and_true, Bool.true_and, Bool.and_false, Bool.false_and, exists_eq_left, exists_eq_left', Option.some.injEq, A.d.injEq, D.int.injEq, D.bl.injEq, D.str.injEq, D.lst.injEq, D.tup.injEq, Except.ok.injEq, List.cons_append, List.nil_append, List.map_cons, List.map_nil, List.length_cons, List.length_nil, List.replicate, Nat.reduceSub, Nat.reduceAdd, List.append_nil, eq_self, or_true, true_or, or_false, false_or, Int.reduceNeg, Int.reducePow, Int.reduceLT, Int.reduceLE, List.length_set]
      refine ⟨_, _, rfl, rfl, ?_⟩
      refine loop_inv (fun r Γ S' => ∃ (rp acc : List PZ) (x2 x3 x4 : Option A), r = rp.map pzD ∧ Γ = [some (.d d), some (.loc 0), x2, x3, x4] ∧ S' = [accO acc] ∧ acc.length + rp.length ≤ 60 ∧ rp.foldl jstep acc = joinL ps) ?_ ?_ _ _ _ ⟨sortP ps, [], none, none, none, rfl, rfl, rfl, ?_, rfl⟩
      · rintro d' r Γ S' nx ⟨rp, acc, x2, x3, x4, hr, rfl, rfl, hn, hj⟩ hnx
        cases rp with
        | nil => cases hr
        | cons p rp =>
          cases hr
          rw [List.length_cons] at hn
          refine ⟨_, rfl, runs_turn (x2 := x2) (x3 := x3) (by omega) fun Γ S' z4 hS hΓ => hnx _ _ rfl ⟨rp, jstep acc p, _, _, z4, rfl, hΓ, hS, ?_, hj⟩⟩
          have := jstep_len acc p
          omega
      · rintro Γ S' ⟨rp, acc, x2, x3, x4, hr, rfl, rfl, hn, hj⟩
        cases rp with
        | cons => cases hr
        | nil =>
          have hj' : acc = joinL ps := hj
          simp only [w_l_runs_2, frz_acc, stG, wSeq, wIf, wAsg, wRet, wRetN, wNext, wDrop, wP, wB, wPs, wCons, wNil, wOp, wFn, wPar, wAsgT, wTup, wLst, wNewL, setIx_eq, setA, wM1, wI, wFor, bV, bNot, bAnd, bOr, fOp, fC, fV, fCons, fNil, fCall, fIsi, fAnd, fOr, fNot, chain_le, fTup, fLst, fIf, fFn, tgN, tgT, setAll, gI, gLen, gLe, gLt, gGe, gGt, LP.gSub, gMod, gFdiv, gPow, gPlus, gTimes, gIntA, gInt, gIsN, gIx, tyA, TN.sub, LP.dataOf, A.toD, viewL, viewQ, viewT, gEq_ii, gEq_ss, gEq_bb, gEq_nn, fSl, slV, oN, oS, iL, iR1, wFnM, gFdivW, tNot', tV, wFrz, fFld, fldV, gEither, gOwnIn, gOwnBin, gOwnEq, fIsiO, gIsiO, fProp, propV, fMeth, fMake, fMakeV, twoT, viewT, iZQ, iET, Option.bind_some, Option.map_some, Option.bind_none, Option.map_none, Option.bind, Option.map, List.getElem?_cons_zero, List.getElem?_cons_succ, List.getElem?_nil, List.set_cons_zero, List.set_cons_succ, List.set_nil, if_true, if_false, ↓reduceIte, Bool.not_true, Bool.not_false, decide_true, decide_false, Bool.false_eq_true, reduceCtorEq, true_and, false_and, and_true, and_false, not_true, not_false_eq_true, List.any_cons, List.any_nil, Bool.or_false, Bool.or_true, Bool.true_or, Bool.false_or, Bool.and_true, Bool.true_and, Bool.and_false, Bool.false_and, exists_eq_left, exists_eq_left', Option.some.injEq, A.d.injEq, D.int.injEq, D.bl.injEq, D.str.injEq, D.lst.injEq, D.tup.injEq, Except.ok.injEq, List.cons_append, List.nil_append, List.map_cons, List.map_nil, List.length_cons, List.length_nil, List.replicate, Nat.reduceSub, Nat.reduceAdd, List.append_nil, eq_self, or_true, true_or, or_false, false_or, Int.reduceNeg, Int.reducePow, Int.reduceLT, Int.reduceLE, List.length_set]
          rw [hj']
          exact ⟨_, _, rfl, rfl⟩
      · rw [(sortP_perm ps).length_eq]; simpa using hl
  · cases h
theorem spanB_ok {p : PZ} (h : okP p = true) : spanB (pzD p) = some true := by
  obtain ⟨h1, h2, h3⟩ := okP_b h
  have a1 : (0 ≤ p.1 ∧ p.1 ≤ GR) := ⟨h1, by omega⟩
  have a2 : (0 ≤ p.2 ∧ p.2 ≤ GR) := ⟨by omega, h3⟩
  simp only [spanB, pzD, isNumD, a1, a2, leD, h2, and_self, decide_true, Option.bind_some, Option.map_some, Bool.and_self]
theorem span_no {d : D} (h : spanB d = some false) : G_is_span [d] = some (.ok (.bl false)) := by
  simp only [G_is_span, h, Option.map_some]
theorem span_yes {d : D} (h : spanB d = some true) : G_is_span [d] = some (.ok (.bl true)) := by
  simp only [G_is_span, h, Option.map_some]
theorem v_init (ds : List D) (o : Except Er (List D)) (h : G_init ds = some o) : w_Letter_init (stG N_Letter_init (.loc 0 :: ds.map A.d)) [.ins 0 []] { nx := fun _ S' => ∃ fs, o = .ok fs ∧ S'[0]? = some (.ins 0 (fs.map A.d)), rt := fun a S' => a = .d .non ∧ ∃ fs, o = .ok fs ∧ S'[0]? = some (.ins 0 (fs.map A.d)), ex := fun er _ => o = .error er } := by
  unfold G_init at h
  split at h
  · rename_i l
    have hst : (∃ ps, l = ps.map pzD ∧ oks 60 ps = true ∧ o = .ok [.lst ((joinL ps).map pzD)]) ∨ ∃ i, badAt l 0 = some i ∧ o = .error (eSpan i) := by
      cases e : spansOf (.tup l) with
      | some ps =>
        rw [e] at h; cases h
        obtain ⟨h1, h2⟩ := spansOf_some e
        have h1' : l = ps.map pzD := by rcases h1 with h1 | h1 <;> cases h1; rfl
        exact .inl ⟨ps, h1', h2, rfl⟩
      | none =>
        rw [e] at h
        cases e2 : badAt l 0 with
        | none => rw [e2] at h; cases h
        | some i => rw [e2] at h; cases h; exact .inr ⟨i, rfl, rfl⟩
    simp only [w_Letter_init_0, N_Letter_init, stG, wSeq, wIf, wAsg, wRet, wRetN, wNext, wDrop, wP, wB, wPs, wCons, wNil, wOp, wFn, wPar, wAsgT, wTup, wLst, wNewL, setIx_eq, setA, wM1, wI, wFor, bV, bNot, bAnd, bOr, fOp, fC, fV, fCons, fNil, fCall, fIsi, fAnd, fOr, fNot, chain_le, fTup, fLst, fIf, fFn, tgN, tgT, setAll, gI, gLen, gLe, gLt, gGe, gGt, LP.gSub, gMod, gFdiv, gPow, gPlus, gTimes, gIntA, gInt, gIsN, gIx, tyA, TN.sub, LP.dataOf, A.toD, viewL, viewQ, viewT, gEq_ii, gEq_ss, gEq_bb, gEq_nn, fSl, slV, oN, oS, iL, iR1, wFnM, gFdivW, tNot', tV, wFrz, fFld, fldV, gEither, gOwnIn, gOwnBin, gOwnEq, fIsiO, gIsiO, fProp, propV, fMeth, fMake, fMakeV, twoT, viewT, iZQ, iET, Option.bind_some, Option.map_some, Option.bind_none, Option.map_none, Option.bind, Option.map, List.getElem?_cons_zero, List.getElem?_cons_succ, List.getElem?_nil, List.set_cons_zero, List.set_cons_succ, List.set_nil, if_true, if_false, ↓reduceIte, Bool.not_true, Bool.not_false, decide_true, decide_false, Bool.false_eq_true, reduceCtorEq, true_and, false_and, and_true, and_false, not_true, not_false_eq_true, List.any_cons, List.any_nil, Bool.or_false, Bool.or_true, Bool.true_or, Bool.false_or, Bool.and_true, Bool.true_and, Bool.and_false, Bool.false_and, exists_eq_left, exists_eq_left', Option.some.injEq, A.d.injEq, D.int.injEq, D.bl.injEq, D.str.injEq, D.lst.injEq, D.tup.injEq, Except.ok.injEq, List.cons_append, List.nil_append, List.map_cons, List.map_nil, List.length_cons, List.length_nil, List.replicate, Nat.reduceSub, Nat.reduceAdd, List.append_nil, eq_self, or_true, true_or, or_false, false_or, Int.reduceNeg, Int.reducePow, Int.reduceLT, Int.reduceLE, List.length_set]
    refine ⟨_, _, rfl, rfl, ?_⟩
    refine loop_inv (fun r Γ S' => ∃ (k : Nat) (ds : List D) (x2 x3 : Option A), r = enumD k ds ∧ ((∃ ps, l = ps.map pzD ∧ oks 60 ps = true ∧ o = .ok [.lst ((joinL ps).map pzD)] ∧ ∀ d ∈ ds, spanB d = some true) ∨ ∃ i, badAt ds k = some i ∧ o = .error (eSpan i)) ∧ Γ = [some (.loc 0), some (.d (.tup l)), x2, x3] ∧ S' = [.ins 0 []]) ?_ ?_ _ _ _ ⟨0, l, none, none, enum0 l, ?_, rfl, rfl⟩
    · rintro d' r Γ S' nx ⟨k, ds, x2, x3, hr, hc, rfl, rfl⟩ hnx
      cases ds with
      | nil => cases hr
      | cons d ds =>
        cases hr
        refine ⟨_, rfl, ?_⟩
        rcases hc with ⟨ps, hl, hk, ho, hd⟩ | ⟨i, hi, ho⟩
        · have hsp := span_yes (hd d List.mem_cons_self)
          simp only [w_Letter_init_for1_0, hsp, stG, wSeq, wIf, wAsg, wRet, wRetN, wNext, wDrop, wP, wB, wPs, wCons, wNil, wOp, wFn, wPar, wAsgT, wTup, wLst, wNewL, setIx_eq, setA, wM1, wI, wFor, bV, bNot, bAnd, bOr, fOp, fC, fV, fCons, fNil, fCall, fIsi, fAnd, fOr, fNot, chain_le, fTup, fLst, fIf, fFn, tgN, tgT, setAll, gI, gLen, gLe, gLt, gGe, gGt, LP.gSub, gMod, gFdiv, gPow, gPlus, gTimes, gIntA, gInt, gIsN, gIx, tyA, TN.sub, LP.dataOf, A.toD, viewL, viewQ, viewT, gEq_ii, gEq_ss, gEq_bb, gEq_nn, fSl, slV, oN, oS, iL, iR1, wFnM, gFdivW, tNot', tV, wFrz, fFld, fldV, gEither, gOwnIn, gOwnBin, gOwnEq, fIsiO, gIsiO, fProp, propV, fMeth, fMake, fMakeV, twoT, viewT, iZQ, iET, Option.bind_some, Option.map_some, Option.bind_none, Option.map_none, Option.bind, Option.map, List.getElem?_cons_zero, List.getElem?_cons_succ, List.getElem?_nil, List.set_cons_zero, List.set_cons_succ, List.set_nil, if_true, if_false, ↓reduceIte, Bool.not_true, Bool.not_false, decide_true, decide_false, Bool.false_eq_true, reduceCtorEq, true_and, false_and, and_true, and_false, not_true, not_false_eq_true, List.any_cons, List.any_nil, Bool.or_false, Bool.or_true, Bool.true_or, Bool.false_or, Bool.and_true, Bool.true_and, Bool.and_false, Bool.false_and, exists_eq_left, exists_eq_left', Option.some.injEq, A.d.injEq, D.int.injEq, D.bl.injEq, D.str.injEq, D.lst.injEq, D.tup.injEq, Except.ok.injEq, List.cons_append, List.nil_append, List.map_cons, List.map_nil, List.length_cons, List.length_nil, List.replicate, Nat.reduceSub, Nat.reduceAdd, List.append_nil, eq_self, or_true, true_or, or_false, false_or, Int.reduceNeg, Int.reducePow, Int.reduceLT, Int.reduceLE, List.length_set]
          exact hnx _ _ rfl ⟨k + 1, ds, _, _, rfl, .inl ⟨ps, hl, hk, ho, fun x hx => hd x (List.mem_cons_of_mem _ hx)⟩, rfl, rfl⟩
        · unfold badAt at hi
          split at hi
          · rename_i hsd
            have hsp := span_yes hsd
            simp only [w_Letter_init_for1_0, hsp, stG, wSeq, wIf, wAsg, wRet, wRetN, wNext, wDrop, wP, wB, wPs, wCons, wNil, wOp, wFn, wPar, wAsgT, wTup, wLst, wNewL, setIx_eq, setA, wM1, wI, wFor, bV, bNot, bAnd, bOr, fOp, fC, fV, fCons, fNil, fCall, fIsi, fAnd, fOr, fNot, chain_le, fTup, fLst, fIf, fFn, tgN, tgT, setAll, gI, gLen, gLe, gLt, gGe, gGt, LP.gSub, gMod, gFdiv, gPow, gPlus, gTimes, gIntA, gInt, gIsN, gIx, tyA, TN.sub, LP.dataOf, A.toD, viewL, viewQ, viewT, gEq_ii, gEq_ss, gEq_bb, gEq_nn, fSl, slV, oN, oS, iL, iR1, wFnM, gFdivW, tNot', tV, wFrz, fFld, fldV, gEither, gOwnIn, gOwnBin, gOwnEq, fIsiO, gIsiO, fProp, propV, fMeth, fMake, fMakeV, twoT, viewT, iZQ, iET, Option.bind_some, Option.map_some, Option.bind_none, Option.map_none, Option.bind, Option.map, List.getElem?_cons_zero, List.getElem?_cons_succ, List.getElem?_nil, List.set_cons_zero, List.set_cons_succ, List.set_nil, if_true, if_false, ↓reduceIte, Bool.not_true, Bool.not_false, decide_true, decide_false, Bool.false_eq_true, reduceCtorEq, true_and, false_and, and_true, and_false, not_true, not_false_eq_true, List.any_cons, List.any_nil, Bool.or_false, Bool.or_true, Bool.true_or, Bool.false_or, Bool.and_true, Bool.true_and, Bool.and_false, Bool.false_and, exists_eq_left, exists_eq_left', Option.some.injEq, A.d.injEq, D.int.injEq, D.bl.injEq, D.str.injEq, D.lst.injEq, D.tup.injEq, Except.ok.injEq, List.cons_append, List.nil_append, List.map_cons, List.map_nil, List.length_cons, List.length_nil, List.replicate, Nat.reduceSub, Nat.reduceAdd, List.append_nil, eq_self, or_true, true_or, or_false, false_or, Int.reduceNeg, Int.reducePow, Int.reduceLT, Int.reduceLE, List.length_set]
            exact hnx _ _ rfl ⟨k + 1, ds, _, _, rfl, .inr ⟨i, hi, ho⟩, rfl, rfl⟩
          · rename_i hsd
            have hsp := span_no hsd
            cases hi
            simp only [w_Letter_init_for1_0, hsp, wRaise, stG, wSeq, wIf, wAsg, wRet, wRetN, wNext, wDrop, wP, wB, wPs, wCons, wNil, wOp, wFn, wPar, wAsgT, wTup, wLst, wNewL, setIx_eq, setA, wM1, wI, wFor, bV, bNot, bAnd, bOr, fOp, fC, fV, fCons, fNil, fCall, fIsi, fAnd, fOr, fNot, chain_le, fTup, fLst, fIf, fFn, tgN, tgT, setAll, gI, gLen, gLe, gLt, gGe, gGt, LP.gSub, gMod, gFdiv, gPow, gPlus, gTimes, gIntA, gInt, gIsN, gIx, tyA, TN.sub, LP.dataOf, A.toD, viewL, viewQ, viewT, gEq_ii, gEq_ss, gEq_bb, gEq_nn, fSl, slV, oN, oS, iL, iR1, wFnM, gFdivW, tNot', tV, wFrz, fFld, fldV, gEither, gOwnIn, gOwnBin, gOwnEq, fIsiO, gIsiO, fProp, propV, fMeth, fMake, fMakeV, twoT, viewT, iZQ, iET, Option.bind_some, Option.map_some, Option.bind_none, Option.map_none, Option.bind, Option.map, List.getElem?_cons_zero, List.getElem?_cons_succ, List.getElem?_nil, List.set_cons_zero, List.set_cons_succ, List.set_nil, if_true, if_false, ↓reduceIte, Bool.not_true, Bool.not_false, decide_true, decide_false, Bool.false_eq_true, reduceCtorEq, true_and, false_and, and_true, and_false, not_true, not_false_eq_true, List.any_cons, List.any_nil, Bool.or_false, Bool.or_true, Bool.true_or, Bool.false_or, Bool.and_true, Bool.true_and, Bool.and_false, Bool.false_and, exists_eq_left, exists_eq_left', Option.some.injEq, A.d.injEq, D.int.injEq, D.bl.injEq, D.str.injEq, D.lst.injEq, D.tup.injEq, Except.ok.injEq, List.cons_append, List.nil_append, List.map_cons, List.map_nil, List.length_cons, List.length_nil, List.replicate, Nat.reduceSub, Nat.reduceAdd, List.append_nil, eq_self, or_true, true_or, or_false, false_or, Int.reduceNeg, Int.reducePow, Int.reduceLT, Int.reduceLE, List.length_set]
            exact ho
          · cases hi
    · rintro Γ S' ⟨k, ds, x2, x3, hr, hc, rfl, rfl⟩
      cases ds with
      | cons d ds => cases hr
      | nil =>
        rcases hc with ⟨ps, rfl, h2, rfl, _⟩ | ⟨i, hi, _⟩
        · have hg : G_joined [.tup (ps.map pzD)] = some (.ok (.lst ((joinL ps).map pzD))) := by
            simp only [G_joined, spansOf_tup h2, Option.map_some]
          simp only [w_Letter_init_1, hg, wSetF, stG, wSeq, wIf, wAsg, wRet, wRetN, wNext, wDrop, wP, wB, wPs, wCons, wNil, wOp, wFn, wPar, wAsgT, wTup, wLst, wNewL, setIx_eq, setA, wM1, wI, wFor, bV, bNot, bAnd, bOr, fOp, fC, fV, fCons, fNil, fCall, fIsi, fAnd, fOr, fNot, chain_le, fTup, fLst, fIf, fFn, tgN, tgT, setAll, gI, gLen, gLe, gLt, gGe, gGt, LP.gSub, gMod, gFdiv, gPow, gPlus, gTimes, gIntA, gInt, gIsN, gIx, tyA, TN.sub, LP.dataOf, A.toD, viewL, viewQ, viewT, gEq_ii, gEq_ss, gEq_bb, gEq_nn, fSl, slV, oN, oS, iL, iR1, wFnM, gFdivW, tNot', tV, wFrz, fFld, fldV, gEither, gOwnIn, gOwnBin, gOwnEq, fIsiO, gIsiO, fProp, propV, fMeth, fMake, fMakeV, twoT, viewT, iZQ, iET, Option.bind_some, Option.map_some, Option.bind_none, Option.map_none, Option.bind, Option.map, List.getElem?_cons_zero, List.getElem?_cons_succ, List.getElem?_nil, List.set_cons_zero, List.set_cons_succ, List.set_nil, if_true, if_false, ↓reduceIte, Bool.not_true, Bool.not_false, decide_true, decide_false, Bool.false_eq_true, reduceCtorEq, true_and, false_and, and_true, and_false, not_true, not_false_eq_true, List.any_cons, List.any_nil, Bool.or_false, Bool.or_true, Bool.true_or, Bool.false_or, Bool.and_true, Bool.true_and, Bool.and_false, Bool.false_and, exists_eq_left, exists_eq_left', Option.some.injEq, A.d.injEq, D.int.injEq, D.bl.injEq, D.str.injEq, D.lst.injEq, D.tup.injEq, Except.ok.injEq, List.cons_append, List.nil_append, List.map_cons, List.map_nil, List.length_cons, List.length_nil, List.replicate, Nat.reduceSub, Nat.reduceAdd, List.append_nil, eq_self, or_true, true_or, or_false, false_or, Int.reduceNeg, Int.reducePow, Int.reduceLT, Int.reduceLE, List.length_set]
          refine ⟨0, 0, [], rfl, rfl, by decide, ?_⟩
          exact ⟨by decide, rfl⟩
        · cases hi
    · rcases hst with ⟨ps, hl, h2, ho⟩ | ⟨i, hi, ho⟩
      · refine .inl ⟨ps, hl, h2, ho, fun d hd => ?_⟩
        rw [hl] at hd
        obtain ⟨p, hp, rfl⟩ := List.mem_map.mp hd
        exact spanB_ok ((oks_iff.mp h2).1 p hp)
      · exact .inr ⟨i, hi, ho⟩
  · cases h
end K
set_option maxHeartbeats 4000000
namespace K
open PySem PySem.Spec PyProof.Rows L2 LP
theorem comp_map {α : Type} {fi : QI} {t : TgF} {vs : List Nat} {b : QB} {f : QF} {Γ : Ga} {S : So} {it : So → Option (List D)} {g h : α → D} {l : List α} (h1 : fi Γ S = some it) (h2 : it S = some (l.map g)) (h3 : ∀ x ∈ l, eltF t vs b f Γ S (g x) = some (some (h x))) : fComp fi t vs b f Γ S = some (.d (.lst (l.map h))) := by
  have c : compL (eltF t vs b f Γ S) (l.map g) = some (l.map h) := by
    rw [compL_map, ← compL_some]
    exact compL_congr h3
  simp only [fComp, h1, h2, c, Option.bind_some, Option.map_some]
theorem comp_filter {α : Type} {fi : QI} {t : TgF} {vs : List Nat} {b : QB} {f : QF} {Γ : Ga} {S : So} {it : So → Option (List D)} {g : α → D} {p : α → Bool} {l : List α} (h1 : fi Γ S = some it) (h2 : it S = some (l.map g)) (h3 : ∀ x ∈ l, eltF t vs b f Γ S (g x) = if p x = true then some (some (g x)) else some none) : fComp fi t vs b f Γ S = some (.d (.lst ((l.filter p).map g))) := by
  have c : compL (eltF t vs b f Γ S) (l.map g) = some ((l.filter p).map g) := by
    rw [compL_map, ← compL_if]
    exact compL_congr h3
  simp only [fComp, h1, h2, c, Option.bind_some, Option.map_some]
theorem ints_fun {α : Type} (f : α → Int) (l : List α) : dInts (l.map fun p => D.int (f p)) = some (l.map f) := by
  rw [← LP.ints_map, List.map_map]; rfl
theorem bools_fun {α : Type} (f : α → Bool) (l : List α) : dBools (l.map fun p => D.bl (f p)) = some (l.map f) := by
  rw [← dBools_map, List.map_map]; rfl
theorem letter_ok {ps : List PZ} (h : oks 60 ps = true) : G_Letter (ps.map pzD) = some (.ok [.lst ((joinL ps).map pzD)]) := by
  have hl := (oks_iff.mp h).2
  have : (ps.map pzD).length ≤ 1000 := by rw [List.length_map]; omega
  simp only [G_Letter, packI, this, if_true, G_init, spansOf_tup h, Option.map_some]
theorem v_runs (ds : List D) (o : Except Er D) (h : G_runs ds = some o) : w_Letter_runs (stG N_Letter_runs (ds.map A.d)) [] (dnP o) := by
  unfold G_runs at h
  split at h
  · rename_i d
    cases e : runsOf d with
    | none => rw [e] at h; cases h
    | some rs =>
      rw [e] at h; cases h
      obtain ⟨rfl, hk⟩ := runsOf_some e
      have c0 : [0].contains 0 = true := rfl
      simp only [w_Letter_runs_0, N_Letter_runs, ltr, gList, c0, stG, wSeq, wIf, wAsg, wRet, wRetN, wNext, wDrop, wP, wB, wPs, wCons, wNil, wOp, wFn, wPar, wAsgT, wTup, wLst, wNewL, setIx_eq, setA, wM1, wI, wFor, bV, bNot, bAnd, bOr, fOp, fC, fV, fCons, fNil, fCall, fIsi, fAnd, fOr, fNot, chain_le, fTup, fLst, fIf, fFn, tgN, tgT, setAll, gI, gLen, gLe, gLt, gGe, gGt, LP.gSub, gMod, gFdiv, gPow, gPlus, gTimes, gIntA, gInt, gIsN, gIx, tyA, TN.sub, LP.dataOf, A.toD, viewL, viewQ, viewT, gEq_ii, gEq_ss, gEq_bb, gEq_nn, fSl, slV, oN, oS, iL, iR1, wFnM, gFdivW, tNot', tV, wFrz, fFld, fldV, gEither, gOwnIn, gOwnBin, gOwnEq, fIsiO, gIsiO, fProp, propV, fMeth, fMake, fMakeV, twoT, viewT, iZQ, iET, Option.bind_some, Option.map_some, Option.bind_none, Option.map_none, Option.bind, Option.map, List.getElem?_cons_zero, List.getElem?_cons_succ, List.getElem?_nil, List.set_cons_zero, List.set_cons_succ, List.set_nil, if_true, if_false, ↓reduceIte, Bool.not_true, Bool.not_false, decide_true, decide_false, Bool.false_eq_true, reduceCtorEq, true_and, false_and, and_true, and_false, not_true, not_false_eq_true, List.any_cons, List.any_nil, Bool.or_false, Bool.or_true, Bool.true_or, Bool.false_or, Bool.and_true, Bool.true_and, Bool.and_false, Bool.false_and, exists_eq_left, exists_eq_left', Option.some.injEq, A.d.injEq, D.int.injEq, D.bl.injEq, D.str.injEq, D.lst.injEq, D.tup.injEq, Except.ok.injEq, List.cons_append, List.nil_append, List.map_cons, List.map_nil, List.length_cons, List.length_nil, List.replicate, Nat.reduceSub, Nat.reduceAdd, List.append_nil, eq_self, or_true, true_or, or_false, false_or, Int.reduceNeg, Int.reducePow, Int.reduceLT, Int.reduceLE, List.length_set]
  · cases h
theorem v_many (ds : List D) (o : Except Er D) (h : G_many ds = some o) : w_Letter_many (stG N_Letter_many (ds.map A.d)) [] (dnP o) := by
  unfold G_many at h
  split at h
  · rename_i d
    cases e : runsOf d with
    | none => rw [e] at h; cases h
    | some rs =>
      rw [e] at h; cases h
      obtain ⟨rfl, hk⟩ := runsOf_some e
      have c : fComp (iL (fFld [0] 0 (fV 0))) (tgT [1, 2]) [1, 2] (fun _ _ => some true) (fOp gPlus (fOp gSub (fV 2) (fV 1)) (fC (.int 1))) [some (.d (ltr rs)), none, none] [] = some (.d (.lst (rs.map fun p => .int (p.2 - p.1 + 1)))) := by
        refine comp_map rfl rfl fun p hp => ?_
        simp only [eltF, wipeG, pzD, stG, wSeq, wIf, wAsg, wRet, wRetN, wNext, wDrop, wP, wB, wPs, wCons, wNil, wOp, wFn, wPar, wAsgT, wTup, wLst, wNewL, setIx_eq, setA, wM1, wI, wFor, bV, bNot, bAnd, bOr, fOp, fC, fV, fCons, fNil, fCall, fIsi, fAnd, fOr, fNot, chain_le, fTup, fLst, fIf, fFn, tgN, tgT, setAll, gI, gLen, gLe, gLt, gGe, gGt, LP.gSub, gMod, gFdiv, gPow, gPlus, gTimes, gIntA, gInt, gIsN, gIx, tyA, TN.sub, LP.dataOf, A.toD, viewL, viewQ, viewT, gEq_ii, gEq_ss, gEq_bb, gEq_nn, fSl, slV, oN, oS, iL, iR1, wFnM, gFdivW, tNot', tV, wFrz, fFld, fldV, gEither, gOwnIn, gOwnBin, gOwnEq, fIsiO, gIsiO, fProp, propV, fMeth, fMake, fMakeV, twoT, viewT, iZQ, iET, Option.bind_some, Option.map_some, Option.bind_none, Option.map_none, Option.bind, Option.map, List.getElem?_cons_zero, List.getElem?_cons_succ, List.getElem?_nil, List.set_cons_zero, List.set_cons_succ, List.set_nil, if_true, if_false, ↓reduceIte, Bool.not_true, Bool.not_false, decide_true, decide_false, Bool.false_eq_true, reduceCtorEq, true_and, false_and, and_true, and_false, not_true, not_false_eq_true, List.any_cons, List.any_nil, Bool.or_false, Bool.or_true, Bool.true_or, Bool.false_or, Bool.and_true, Bool.true_and, Bool.and_false, Bool.false_and, exists_eq_left, exists_eq_left', Option.some.injEq, A.d.injEq, D.int.injEq, D.bl.injEq, D.str.injEq, D.lst.injEq, D.tup.injEq, Except.ok.injEq, List.cons_append, List.nil_append, List.map_cons, List.map_nil, List.length_cons, List.length_nil, List.replicate, Nat.reduceSub, Nat.reduceAdd, List.append_nil, eq_self, or_true, true_or, or_false, false_or, Int.reduceNeg, Int.reducePow, Int.reduceLT, Int.reduceLE, List.length_set]
      have hs := ints_fun (fun p : PZ => p.2 - p.1 + 1) rs
      simp only [w_Letter_many_0, N_Letter_many, c, gSum, hs, lenL, stG, wSeq, wIf, wAsg, wRet, wRetN, wNext, wDrop, wP, wB, wPs, wCons, wNil, wOp, wFn, wPar, wAsgT, wTup, wLst, wNewL, setIx_eq, setA, wM1, wI, wFor, bV, bNot, bAnd, bOr, fOp, fC, fV, fCons, fNil, fCall, fIsi, fAnd, fOr, fNot, chain_le, fTup, fLst, fIf, fFn, tgN, tgT, setAll, gI, gLen, gLe, gLt, gGe, gGt, LP.gSub, gMod, gFdiv, gPow, gPlus, gTimes, gIntA, gInt, gIsN, gIx, tyA, TN.sub, LP.dataOf, A.toD, viewL, viewQ, viewT, gEq_ii, gEq_ss, gEq_bb, gEq_nn, fSl, slV, oN, oS, iL, iR1, wFnM, gFdivW, tNot', tV, wFrz, fFld, fldV, gEither, gOwnIn, gOwnBin, gOwnEq, fIsiO, gIsiO, fProp, propV, fMeth, fMake, fMakeV, twoT, viewT, iZQ, iET, Option.bind_some, Option.map_some, Option.bind_none, Option.map_none, Option.bind, Option.map, List.getElem?_cons_zero, List.getElem?_cons_succ, List.getElem?_nil, List.set_cons_zero, List.set_cons_succ, List.set_nil, if_true, if_false, ↓reduceIte, Bool.not_true, Bool.not_false, decide_true, decide_false, Bool.false_eq_true, reduceCtorEq, true_and, false_and, and_true, and_false, not_true, not_false_eq_true, List.any_cons, List.any_nil, Bool.or_false, Bool.or_true, Bool.true_or, Bool.false_or, Bool.and_true, Bool.true_and, Bool.and_false, Bool.false_and, exists_eq_left, exists_eq_left', Option.some.injEq, A.d.injEq, D.int.injEq, D.bl.injEq, D.str.injEq, D.lst.injEq, D.tup.injEq, Except.ok.injEq, List.cons_append, List.nil_append, List.map_cons, List.map_nil, List.length_cons, List.length_nil, List.replicate, Nat.reduceSub, Nat.reduceAdd, List.append_nil, eq_self, or_true, true_or, or_false, false_or, Int.reduceNeg, Int.reducePow, Int.reduceLT, Int.reduceLE, List.length_set]
  · cases h
theorem cat_ok {S : So} {a b : List D} (h : a.length + b.length ≤ 1000) : gCat S (.d (.lst a)) (.d (.lst b)) = some (.lst (a ++ b)) := by
  have : a.length + b.length ≤ sizeLine := Nat.le_trans h (by decide)
  simp only [gCat, gCat.viewLs, Option.bind_some, this, if_true]
theorem c00 : [0].contains 0 = true := rfl
theorem runs_ok {rs : List PZ} (h : oks 60 rs = true) : G_runs [.ins 0 [.lst (rs.map pzD)]] = some (.ok (.lst (rs.map pzD))) := by
  show (runsOf (ltr rs)).map _ = _
  rw [runsOf_ltr h]; rfl
theorem many_ok {rs : List PZ} (h : oks 60 rs = true) : G_many [.ins 0 [.lst (rs.map pzD)]] = some (.ok (.int (lenL rs))) := by
  show (runsOf (ltr rs)).map _ = _
  rw [runsOf_ltr h]; rfl
theorem jn_oks {n : Nat} {l : List PZ} (h : oks n l = true) : oks n (joinL l) = true := by
  obtain ⟨h1, h2⟩ := oks_iff.mp h
  exact oks_iff.mpr ⟨join_ok h1, Nat.le_trans (join_len l) h2⟩
theorem letter_bad {l : List D} {i : Nat} (hl : l.length ≤ 1000) (hs : spansOf (.tup l) = none) (h : badAt l 0 = some i) : G_Letter l = some (.error (eSpan i)) := by
  simp only [G_Letter, packI, hl, if_true, G_init, hs, h, Option.map_some]
theorem v_letter (ds : List D) (o : Except Er D) (h : G_letter ds = some o) : w_l_letter (stG N_l_letter (ds.map A.d)) [] (dnP o) := by
  unfold G_letter at h
  split at h
  · rename_i l
    cases e : spansOf (.lst l) with
    | none => rw [e] at h; cases h
    | some ps =>
      rw [e, Option.bind_some] at h
      split at h
      · rename_i hl
        cases h
        obtain ⟨h1, h2⟩ := spansOf_some e
        have h1' : l = ps.map pzD := by rcases h1 with h1 | h1 <;> cases h1; rfl
        subst h1'
        have hm := letter_ok h2
        match ps, hl with
        | [], _ =>
          have he := eq_pairs false [] [] []
          have n0 : gLen [] [.d (.lst [])] = some (.int 0) := rfl
          simp only [List.map_nil] at he hm
          simp only [w_l_letter_0, w_l_letter_1, N_l_letter, he, hm, n0, ltr, Int.reduceEq, stG, wSeq, wIf, wAsg, wRet, wRetN, wNext, wDrop, wP, wB, wPs, wCons, wNil, wOp, wFn, wPar, wAsgT, wTup, wLst, wNewL, setIx_eq, setA, wM1, wI, wFor, bV, bNot, bAnd, bOr, fOp, fC, fV, fCons, fNil, fCall, fIsi, fAnd, fOr, fNot, chain_le, fTup, fLst, fIf, fFn, tgN, tgT, setAll, gI, gLe, gLt, gGe, gGt, LP.gSub, gMod, gFdiv, gPow, gPlus, gTimes, gIntA, gInt, gIsN, tyA, TN.sub, LP.dataOf, A.toD, viewL, viewQ, viewT, gEq_ii, gEq_ss, gEq_bb, gEq_nn, fSl, slV, oN, oS, iL, iR1, wFnM, gFdivW, tNot', tV, wFrz, fFld, fldV, gEither, gOwnIn, gOwnBin, gOwnEq, fIsiO, gIsiO, fProp, propV, fMeth, fMake, fMakeV, twoT, viewT, iZQ, iET, Option.bind_some, Option.map_some, Option.bind_none, Option.map_none, Option.bind, Option.map, List.getElem?_cons_zero, List.getElem?_cons_succ, List.getElem?_nil, List.set_cons_zero, List.set_cons_succ, List.set_nil, if_true, if_false, ↓reduceIte, Bool.not_true, Bool.not_false, decide_true, decide_false, Bool.false_eq_true, reduceCtorEq, true_and, false_and, and_true, and_false, not_true, not_false_eq_true, List.any_cons, List.any_nil, Bool.or_false, Bool.or_true, Bool.true_or, Bool.false_or, Bool.and_true, Bool.true_and, Bool.and_false, Bool.false_and, exists_eq_left, exists_eq_left', Option.some.injEq, A.d.injEq, D.int.injEq, D.bl.injEq, D.str.injEq, D.lst.injEq, D.tup.injEq, Except.ok.injEq, List.cons_append, List.nil_append, List.map_cons, List.map_nil, List.length_cons, List.length_nil, List.replicate, Nat.reduceSub, Nat.reduceAdd, List.append_nil, eq_self, or_true, true_or, or_false, false_or, Int.reduceNeg, Int.reducePow, Int.reduceLT, Int.reduceLE, List.length_set]
        | [p], _ =>
          have he := eq_pairs false [] [p] []
          have n0 : gLen [] [.d (.lst [pzD p])] = some (.int 1) := rfl
          have hd : decide ([p] = []) = false := rfl
          simp only [List.map_nil, List.map_cons, hd] at he hm
          have i0 : gIx [] (.d (.lst [pzD p])) (.d (.int 0)) = some (pzD p) := rfl
          simp only [w_l_letter_0, w_l_letter_1, N_l_letter, he, hm, i0, n0, ltr, Int.reduceEq, stG, wSeq, wIf, wAsg, wRet, wRetN, wNext, wDrop, wP, wB, wPs, wCons, wNil, wOp, wFn, wPar, wAsgT, wTup, wLst, wNewL, setIx_eq, setA, wM1, wI, wFor, bV, bNot, bAnd, bOr, fOp, fC, fV, fCons, fNil, fCall, fIsi, fAnd, fOr, fNot, chain_le, fTup, fLst, fIf, fFn, tgN, tgT, setAll, gI, gLe, gLt, gGe, gGt, LP.gSub, gMod, gFdiv, gPow, gPlus, gTimes, gIntA, gInt, gIsN, tyA, TN.sub, LP.dataOf, A.toD, viewL, viewQ, viewT, gEq_ii, gEq_ss, gEq_bb, gEq_nn, fSl, slV, oN, oS, iL, iR1, wFnM, gFdivW, tNot', tV, wFrz, fFld, fldV, gEither, gOwnIn, gOwnBin, gOwnEq, fIsiO, gIsiO, fProp, propV, fMeth, fMake, fMakeV, twoT, viewT, iZQ, iET, Option.bind_some, Option.map_some, Option.bind_none, Option.map_none, Option.bind, Option.map, List.getElem?_cons_zero, List.getElem?_cons_succ, List.getElem?_nil, List.set_cons_zero, List.set_cons_succ, List.set_nil, if_true, if_false, ↓reduceIte, Bool.not_true, Bool.not_false, decide_true, decide_false, Bool.false_eq_true, reduceCtorEq, true_and, false_and, and_true, and_false, not_true, not_false_eq_true, List.any_cons, List.any_nil, Bool.or_false, Bool.or_true, Bool.true_or, Bool.false_or, Bool.and_true, Bool.true_and, Bool.and_false, Bool.false_and, exists_eq_left, exists_eq_left', Option.some.injEq, A.d.injEq, D.int.injEq, D.bl.injEq, D.str.injEq, D.lst.injEq, D.tup.injEq, Except.ok.injEq, List.cons_append, List.nil_append, List.map_cons, List.map_nil, List.length_cons, List.length_nil, List.replicate, Nat.reduceSub, Nat.reduceAdd, List.append_nil, eq_self, or_true, true_or, or_false, false_or, Int.reduceNeg, Int.reducePow, Int.reduceLT, Int.reduceLE, List.length_set]
        | [p, q], _ =>
          simp only [List.map_nil, List.map_cons] at hm
          have n0 : gLen [] [.d (.lst [pzD p, pzD q])] = some (.int 2) := rfl
          have i0 : gIx [] (.d (.lst [pzD p, pzD q])) (.d (.int 0)) = some (pzD p) := rfl
          have i1 : gIx [] (.d (.lst [pzD p, pzD q])) (.d (.int 1)) = some (pzD q) := rfl
          simp only [w_l_letter_0, w_l_letter_1, N_l_letter, hm, i0, i1, n0, ltr, Int.reduceEq, stG, wSeq, wIf, wAsg, wRet, wRetN, wNext, wDrop, wP, wB, wPs, wCons, wNil, wOp, wFn, wPar, wAsgT, wTup, wLst, wNewL, setIx_eq, setA, wM1, wI, wFor, bV, bNot, bAnd, bOr, fOp, fC, fV, fCons, fNil, fCall, fIsi, fAnd, fOr, fNot, chain_le, fTup, fLst, fIf, fFn, tgN, tgT, setAll, gI, gLe, gLt, gGe, gGt, LP.gSub, gMod, gFdiv, gPow, gPlus, gTimes, gIntA, gInt, gIsN, tyA, TN.sub, LP.dataOf, A.toD, viewL, viewQ, viewT, gEq_ii, gEq_ss, gEq_bb, gEq_nn, fSl, slV, oN, oS, iL, iR1, wFnM, gFdivW, tNot', tV, wFrz, fFld, fldV, gEither, gOwnIn, gOwnBin, gOwnEq, fIsiO, gIsiO, fProp, propV, fMeth, fMake, fMakeV, twoT, viewT, iZQ, iET, Option.bind_some, Option.map_some, Option.bind_none, Option.map_none, Option.bind, Option.map, List.getElem?_cons_zero, List.getElem?_cons_succ, List.getElem?_nil, List.set_cons_zero, List.set_cons_succ, List.set_nil, if_true, if_false, ↓reduceIte, Bool.not_true, Bool.not_false, decide_true, decide_false, Bool.false_eq_true, reduceCtorEq, true_and, false_and, and_true, and_false, not_true, not_false_eq_true, List.any_cons, List.any_nil, Bool.or_false, Bool.or_true, Bool.true_or, Bool.false_or, Bool.and_true, Bool.true_and, Bool.and_false, Bool.false_and, exists_eq_left, exists_eq_left', Option.some.injEq, A.d.injEq, D.int.injEq, D.bl.injEq, D.str.injEq, D.lst.injEq, D.tup.injEq, Except.ok.injEq, List.cons_append, List.nil_append, List.map_cons, List.map_nil, List.length_cons, List.length_nil, List.replicate, Nat.reduceSub, Nat.reduceAdd, List.append_nil, eq_self, or_true, true_or, or_false, false_or, Int.reduceNeg, Int.reducePow, Int.reduceLT, Int.reduceLE, List.length_set]
        | [p, q, r], _ =>
          simp only [List.map_nil, List.map_cons] at hm
          have n0 : gLen [] [.d (.lst [pzD p, pzD q, pzD r])] = some (.int 3) := rfl
          have i0 : gIx [] (.d (.lst [pzD p, pzD q, pzD r])) (.d (.int 0)) = some (pzD p) := rfl
          have i1 : gIx [] (.d (.lst [pzD p, pzD q, pzD r])) (.d (.int 1)) = some (pzD q) := rfl
          have i2 : gIx [] (.d (.lst [pzD p, pzD q, pzD r])) (.d (.int 2)) = some (pzD r) := rfl
          simp only [w_l_letter_0, w_l_letter_1, N_l_letter, hm, i0, i1, i2, n0, ltr, Int.reduceEq, stG, wSeq, wIf, wAsg, wRet, wRetN, wNext, wDrop, wP, wB, wPs, wCons, wNil, wOp, wFn, wPar, wAsgT, wTup, wLst, wNewL, setIx_eq, setA, wM1, wI, wFor, bV, bNot, bAnd, bOr, fOp, fC, fV, fCons, fNil, fCall, fIsi, fAnd, fOr, fNot, chain_le, fTup, fLst, fIf, fFn, tgN, tgT, setAll, gI, gLe, gLt, gGe, gGt, LP.gSub, gMod, gFdiv, gPow, gPlus, gTimes, gIntA, gInt, gIsN, tyA, TN.sub, LP.dataOf, A.toD, viewL, viewQ, viewT, gEq_ii, gEq_ss, gEq_bb, gEq_nn, fSl, slV, oN, oS, iL, iR1, wFnM, gFdivW, tNot', tV, wFrz, fFld, fldV, gEither, gOwnIn, gOwnBin, gOwnEq, fIsiO, gIsiO, fProp, propV, fMeth, fMake, fMakeV, twoT, viewT, iZQ, iET, Option.bind_some, Option.map_some, Option.bind_none, Option.map_none, Option.bind, Option.map, List.getElem?_cons_zero, List.getElem?_cons_succ, List.getElem?_nil, List.set_cons_zero, List.set_cons_succ, List.set_nil, if_true, if_false, ↓reduceIte, Bool.not_true, Bool.not_false, decide_true, decide_false, Bool.false_eq_true, reduceCtorEq, true_and, false_and, and_true, and_false, not_true, not_false_eq_true, List.any_cons, List.any_nil, Bool.or_false, Bool.or_true, Bool.true_or, Bool.false_or, Bool.and_true, Bool.true_and, Bool.and_false, Bool.false_and, exists_eq_left, exists_eq_left', Option.some.injEq, A.d.injEq, D.int.injEq, D.bl.injEq, D.str.injEq, D.lst.injEq, D.tup.injEq, Except.ok.injEq, List.cons_append, List.nil_append, List.map_cons, List.map_nil, List.length_cons, List.length_nil, List.replicate, Nat.reduceSub, Nat.reduceAdd, List.append_nil, eq_self, or_true, true_or, or_false, false_or, Int.reduceNeg, Int.reducePow, Int.reduceLT, Int.reduceLE, List.length_set]
      · cases h
  · cases h
theorem v_span (as : List A) (S : So) (ex : EK) (Q : AK) (h : fc_span as S ex Q) : w_l_span (stG N_l_span as) S { nx := fun _ S' => Q (.d .non) S', rt := Q, ex := ex } := by
  obtain ⟨k, m, base, rfl, hS, hb, hQ⟩ := h
  simp only [w_l_span_0, N_l_span, stG, wSeq, wIf, wAsg, wRet, wRetN, wNext, wDrop, wP, wB, wPs, wCons, wNil, wOp, wFn, wPar, wAsgT, wTup, wLst, wNewL, setIx_eq, setA, wM1, wI, wFor, bV, bNot, bAnd, bOr, fOp, fC, fV, fCons, fNil, fCall, fIsi, fAnd, fOr, fNot, chain_le, fTup, fLst, fIf, fFn, tgN, tgT, setAll, gI, gLen, gLe, gLt, gGe, gGt, LP.gSub, gMod, gFdiv, gPow, gPlus, gTimes, gIntA, gInt, gIsN, gIx, tyA, TN.sub, LP.dataOf, A.toD, viewL, viewQ, viewT, gEq_ii, gEq_ss, gEq_bb, gEq_nn, fSl, slV, oN, oS, iL, iR1, wFnM, gFdivW, tNot', tV, wFrz, fFld, fldV, gEither, gOwnIn, gOwnBin, gOwnEq, fIsiO, gIsiO, fProp, propV, fMeth, fMake, fMakeV, twoT, viewT, iZQ, iET, Option.bind_some, Option.map_some, Option.bind_none, Option.map_none, Option.bind, Option.map, List.getElem?_cons_zero, List.getElem?_cons_succ, List.getElem?_nil, List.set_cons_zero, List.set_cons_succ, List.set_nil, if_true, if_false, ↓reduceIte, Bool.not_true, Bool.not_false, decide_true, decide_false, Bool.false_eq_true, reduceCtorEq, true_and, false_and, and_true, and_false, not_true, not_false_eq_true, List.any_cons, List.any_nil, Bool.or_false, Bool.or_true, Bool.true_or, Bool.false_or, Bool.and_true, Bool.true_and, Bool.and_false, Bool.false_and, exists_eq_left, exists_eq_left', Option.some.injEq, A.d.injEq, D.int.injEq, D.bl.injEq, D.str.injEq, D.lst.injEq, D.tup.injEq, Except.ok.injEq, List.cons_append, List.nil_append, List.map_cons, List.map_nil, List.length_cons, List.length_nil, List.replicate, Nat.reduceSub, Nat.reduceAdd, List.append_nil, eq_self, or_true, true_or, or_false, false_or, Int.reduceNeg, Int.reducePow, Int.reduceLT, Int.reduceLE, List.length_set]
  refine ⟨k, m, 12, rfl, hS, hb, by decide, by decide, fun r m' b r0 r1 => ?_⟩
  have hk := lt_of hS
  simp only [w_l_span_1, stG, wSeq, wIf, wAsg, wRet, wRetN, wNext, wDrop, wP, wB, wPs, wCons, wNil, wOp, wFn, wPar, wAsgT, wTup, wLst, wNewL, setIx_eq, setA, wM1, wI, wFor, bV, bNot, bAnd, bOr, fOp, fC, fV, fCons, fNil, fCall, fIsi, fAnd, fOr, fNot, chain_le, fTup, fLst, fIf, fFn, tgN, tgT, setAll, gI, gLen, gLe, gLt, gGe, gGt, LP.gSub, gMod, gFdiv, gPow, gPlus, gTimes, gIntA, gInt, gIsN, gIx, tyA, TN.sub, LP.dataOf, A.toD, viewL, viewQ, viewT, gEq_ii, gEq_ss, gEq_bb, gEq_nn, fSl, slV, oN, oS, iL, iR1, wFnM, gFdivW, tNot', tV, wFrz, fFld, fldV, gEither, gOwnIn, gOwnBin, gOwnEq, fIsiO, gIsiO, fProp, propV, fMeth, fMake, fMakeV, twoT, viewT, iZQ, iET, Option.bind_some, Option.map_some, Option.bind_none, Option.map_none, Option.bind, Option.map, List.getElem?_cons_zero, List.getElem?_cons_succ, List.getElem?_nil, List.set_cons_zero, List.set_cons_succ, List.set_nil, if_true, if_false, ↓reduceIte, Bool.not_true, Bool.not_false, decide_true, decide_false, Bool.false_eq_true, reduceCtorEq, true_and, false_and, and_true, and_false, not_true, not_false_eq_true, List.any_cons, List.any_nil, Bool.or_false, Bool.or_true, Bool.true_or, Bool.false_or, Bool.and_true, Bool.true_and, Bool.and_false, Bool.false_and, exists_eq_left, exists_eq_left', Option.some.injEq, A.d.injEq, D.int.injEq, D.bl.injEq, D.str.injEq, D.lst.injEq, D.tup.injEq, Except.ok.injEq, List.cons_append, List.nil_append, List.map_cons, List.map_nil, List.length_cons, List.length_nil, List.replicate, Nat.reduceSub, Nat.reduceAdd, List.append_nil, eq_self, or_true, true_or, or_false, false_or, Int.reduceNeg, Int.reducePow, Int.reduceLT, Int.reduceLE, List.length_set]
  refine ⟨k, m', 6, rfl, List.getElem?_set_self hk, b, by decide, by decide, fun r2 m2 b2 r20 r21 => ?_⟩
  refine ⟨_, rfl, k, m2, _, _, rfl, by rw [List.set_set]; exact List.getElem?_set_self hk, b2, rfl, by simp, by simp, fun d m3 b3 hd => ?_⟩
  have hcase : ∃ i : Int, d = .int i ∧ 0 ≤ i ∧ i ≤ 5 := by
    rcases List.mem_cons.mp hd with rfl | hd
    · exact ⟨0, rfl, by omega, by omega⟩
    rcases List.mem_cons.mp hd with rfl | hd
    · exact ⟨0, rfl, by omega, by omega⟩
    rcases List.mem_cons.mp hd with rfl | hd
    · exact ⟨1, rfl, by omega, by omega⟩
    rcases List.mem_cons.mp hd with rfl | hd
    · exact ⟨r2, rfl, by omega, by omega⟩
    cases hd
  obtain ⟨i, rfl, i0, i1⟩ := hcase
  refine ⟨_, rfl, ?_⟩
  rw [List.set_set, List.set_set]
  exact hQ (base + r, base + r + i) m3 b3 ⟨by simp only; omega, by simp only; omega, by simp only; omega⟩
theorem v_bool (ds : List D) (o : Except Er D) (h : G_bool ds = some o) : w_Letter_bool (stG N_Letter_bool (ds.map A.d)) [] (dnP o) := by
  unfold G_bool at h
  split at h
  · rename_i d
    cases e : runsOf d with
    | none => rw [e] at h; cases h
    | some a =>
      rw [e] at h; cases h
      obtain ⟨rfl, hk⟩ := runsOf_some e
      have hi : (a.map pzD).isEmpty = a.isEmpty := by cases a <;> rfl
      simp only [w_Letter_bool_0, N_Letter_bool, ltr, gBoolL, c00, hi, stG, wSeq, wIf, wAsg, wRet, wRetN, wNext, wDrop, wP, wB, wPs, wCons, wNil, wOp, wFn, wPar, wAsgT, wTup, wLst, wNewL, setIx_eq, setA, wM1, wI, wFor, bV, bNot, bAnd, bOr, fOp, fC, fV, fCons, fNil, fCall, fIsi, fAnd, fOr, fNot, chain_le, fTup, fLst, fIf, fFn, tgN, tgT, setAll, gI, gLen, gLe, gLt, gGe, gGt, LP.gSub, gMod, gFdiv, gPow, gPlus, gTimes, gIntA, gInt, gIsN, gIx, tyA, TN.sub, LP.dataOf, A.toD, viewL, viewQ, viewT, gEq_ii, gEq_ss, gEq_bb, gEq_nn, fSl, slV, oN, oS, iL, iR1, wFnM, gFdivW, tNot', tV, wFrz, fFld, fldV, gEither, gOwnIn, gOwnBin, gOwnEq, fIsiO, gIsiO, fProp, propV, fMeth, fMake, fMakeV, twoT, viewT, iZQ, iET, Option.bind_some, Option.map_some, Option.bind_none, Option.map_none, Option.bind, Option.map, List.getElem?_cons_zero, List.getElem?_cons_succ, List.getElem?_nil, List.set_cons_zero, List.set_cons_succ, List.set_nil, if_true, if_false, ↓reduceIte, Bool.not_true, Bool.not_false, decide_true, decide_false, Bool.false_eq_true, reduceCtorEq, true_and, false_and, and_true, and_false, not_true, not_false_eq_true, List.any_cons, List.any_nil, Bool.or_false, Bool.or_true, Bool.true_or, Bool.false_or, Bool.and_true, Bool.true_and, Bool.and_false, Bool.false_and, exists_eq_left, exists_eq_left', Option.some.injEq, A.d.injEq, D.int.injEq, D.bl.injEq, D.str.injEq, D.lst.injEq, D.tup.injEq, Except.ok.injEq, List.cons_append, List.nil_append, List.map_cons, List.map_nil, List.length_cons, List.length_nil, List.replicate, Nat.reduceSub, Nat.reduceAdd, List.append_nil, eq_self, or_true, true_or, or_false, false_or, Int.reduceNeg, Int.reducePow, Int.reduceLT, Int.reduceLE, List.length_set]
  · cases h
theorem v_in (ds : List D) (o : Except Er D) (h : G_in ds = some o) : w_l_in (stG N_l_in (ds.map A.d)) [] (dnP o) := by
  unfold G_in at h
  split at h
  · rename_i x l
    cases e : spansOf (.lst l) with
    | none => rw [e] at h; cases h
    | some ps =>
      rw [e] at h; cases h
      obtain ⟨h1, h2⟩ := spansOf_some e
      have h1' : l = ps.map pzD := by rcases h1 with h1 | h1 <;> cases h1; rfl
      subst h1'
      have c : fComp (iL (fV 1)) (tgT [2, 3]) [2, 3] (fun _ _ => some true) (fChain gLe gLe (fV 2) (fV 0) (fV 3)) [some (.d (.int x)), some (.d (.lst (ps.map pzD))), none, none] [] = some (.d (.lst (ps.map fun p => .bl (decide (p.1 ≤ x ∧ x ≤ p.2))))) := by
        refine comp_map rfl rfl fun p hp => ?_
        by_cases h1 : p.1 ≤ x <;> by_cases h2 : x ≤ p.2 <;> simp [eltF, wipeG, pzD, h1, h2, stG, wSeq, wIf, wAsg, wRet, wRetN, wNext, wDrop, wP, wB, wPs, wCons, wNil, wOp, wFn, wPar, wAsgT, wTup, wLst, wNewL, setIx_eq, setA, wM1, wI, wFor, bV, bNot, bAnd, bOr, fOp, fC, fV, fCons, fNil, fCall, fIsi, fAnd, fOr, fNot, chain_le, fTup, fLst, fIf, fFn, tgN, tgT, setAll, gI, gLen, gLe, gLt, gGe, gGt, LP.gSub, gMod, gFdiv, gPow, gPlus, gTimes, gIntA, gInt, gIsN, gIx, tyA, TN.sub, LP.dataOf, A.toD, viewL, viewQ, viewT, gEq_ii, gEq_ss, gEq_bb, gEq_nn, fSl, slV, oN, oS, iL, iR1, wFnM, gFdivW, tNot', tV, wFrz, fFld, fldV, gEither, gOwnIn, gOwnBin, gOwnEq, fIsiO, gIsiO, fProp, propV, fMeth, fMake, fMakeV, twoT, viewT, iZQ, iET, Option.bind_some, Option.map_some, Option.bind_none, Option.map_none, Option.bind, Option.map, List.getElem?_cons_zero, List.getElem?_cons_succ, List.getElem?_nil, List.set_cons_zero, List.set_cons_succ, List.set_nil, if_true, if_false, ↓reduceIte, Bool.not_true, Bool.not_false, decide_true, decide_false, Bool.false_eq_true, reduceCtorEq, true_and, false_and, and_true, and_false, not_true, not_false_eq_true, List.any_cons, List.any_nil, Bool.or_false, Bool.or_true, Bool.true_or, Bool.false_or, Bool.and_true, Bool.true_and, Bool.and_false, Bool.false_and, exists_eq_left, exists_eq_left', Option.some.injEq, A.d.injEq, D.int.injEq, D.bl.injEq, D.str.injEq, D.lst.injEq, D.tup.injEq, Except.ok.injEq, List.cons_append, List.nil_append, List.map_cons, List.map_nil, List.length_cons, List.length_nil, List.replicate, Nat.reduceSub, Nat.reduceAdd, List.append_nil, eq_self, or_true, true_or, or_false, false_or, Int.reduceNeg, Int.reducePow, Int.reduceLT, Int.reduceLE, List.length_set]
      have hs := bools_fun (fun p : PZ => decide (p.1 ≤ x ∧ x ≤ p.2)) ps
      simp only [w_l_in_0, N_l_in, c, gBools, hs, stG, wSeq, wIf, wAsg, wRet, wRetN, wNext, wDrop, wP, wB, wPs, wCons, wNil, wOp, wFn, wPar, wAsgT, wTup, wLst, wNewL, setIx_eq, setA, wM1, wI, wFor, bV, bNot, bAnd, bOr, fOp, fC, fV, fCons, fNil, fCall, fIsi, fAnd, fOr, fNot, chain_le, fTup, fLst, fIf, fFn, tgN, tgT, setAll, gI, gLen, gLe, gLt, gGe, gGt, LP.gSub, gMod, gFdiv, gPow, gPlus, gTimes, gIntA, gInt, gIsN, gIx, tyA, TN.sub, LP.dataOf, A.toD, viewL, viewQ, viewT, gEq_ii, gEq_ss, gEq_bb, gEq_nn, fSl, slV, oN, oS, iL, iR1, wFnM, gFdivW, tNot', tV, wFrz, fFld, fldV, gEither, gOwnIn, gOwnBin, gOwnEq, fIsiO, gIsiO, fProp, propV, fMeth, fMake, fMakeV, twoT, viewT, iZQ, iET, Option.bind_some, Option.map_some, Option.bind_none, Option.map_none, Option.bind, Option.map, List.getElem?_cons_zero, List.getElem?_cons_succ, List.getElem?_nil, List.set_cons_zero, List.set_cons_succ, List.set_nil, if_true, if_false, ↓reduceIte, Bool.not_true, Bool.not_false, decide_true, decide_false, Bool.false_eq_true, reduceCtorEq, true_and, false_and, and_true, and_false, not_true, not_false_eq_true, List.any_cons, List.any_nil, Bool.or_false, Bool.or_true, Bool.true_or, Bool.false_or, Bool.and_true, Bool.true_and, Bool.and_false, Bool.false_and, exists_eq_left, exists_eq_left', Option.some.injEq, A.d.injEq, D.int.injEq, D.bl.injEq, D.str.injEq, D.lst.injEq, D.tup.injEq, Except.ok.injEq, List.cons_append, List.nil_append, List.map_cons, List.map_nil, List.length_cons, List.length_nil, List.replicate, Nat.reduceSub, Nat.reduceAdd, List.append_nil, eq_self, or_true, true_or, or_false, false_or, Int.reduceNeg, Int.reducePow, Int.reduceLT, Int.reduceLE, List.length_set]
      simp [inL, List.any_map, Function.comp_def]
  · cases h
theorem isNum_no {v : D} {b : Bool} (h : isNumD v = some b) (hv : ∀ x, v ≠ .int x) : b = false := by
  cases v <;> simp only [isNumD, Option.some.injEq, reduceCtorEq] at h <;> first | exact h.symm | exact absurd rfl (hv _)
theorem num_is {x : Int} : G_is_number [.int x, .int 0, .int 999999999999999999] = some (.ok (.bl (decide (0 ≤ x ∧ x ≤ GR)))) := rfl
theorem v_contains (ds : List D) (o : Except Er D) (h : G_contains ds = some o) : w_Letter_contains (stG N_Letter_contains (ds.map A.d)) [] (dnP o) := by
  unfold G_contains at h
  split at h
  · rename_i d v
    cases e : runsOf d with
    | none => rw [e] at h; cases h
    | some rs =>
      rw [e, Option.bind_some] at h
      obtain ⟨rfl, hk⟩ := runsOf_some e
      split at h
      · rename_i x
        cases h
        have hn := num_is (x := x)
        have c : fComp (iL (fFld [0] 0 (fV 0))) (tgT [2, 3]) [2, 3] (fun _ _ => some true) (fChain gLe gLe (fV 2) (fV 1) (fV 3)) [some (.d (ltr rs)), some (.d (.int x)), none, none] [] = some (.d (.lst (rs.map fun p => .bl (decide (p.1 ≤ x ∧ x ≤ p.2))))) := by
          refine comp_map rfl rfl fun p hp => ?_
          by_cases h1 : p.1 ≤ x <;> by_cases h2 : x ≤ p.2 <;> simp [eltF, wipeG, pzD, h1, h2, stG, wSeq, wIf, wAsg, wRet, wRetN, wNext, wDrop, wP, wB, wPs, wCons, wNil, wOp, wFn, wPar, wAsgT, wTup, wLst, wNewL, setIx_eq, setA, wM1, wI, wFor, bV, bNot, bAnd, bOr, fOp, fC, fV, fCons, fNil, fCall, fIsi, fAnd, fOr, fNot, chain_le, fTup, fLst, fIf, fFn, tgN, tgT, setAll, gI, gLen, gLe, gLt, gGe, gGt, LP.gSub, gMod, gFdiv, gPow, gPlus, gTimes, gIntA, gInt, gIsN, gIx, tyA, TN.sub, LP.dataOf, A.toD, viewL, viewQ, viewT, gEq_ii, gEq_ss, gEq_bb, gEq_nn, fSl, slV, oN, oS, iL, iR1, wFnM, gFdivW, tNot', tV, wFrz, fFld, fldV, gEither, gOwnIn, gOwnBin, gOwnEq, fIsiO, gIsiO, fProp, propV, fMeth, fMake, fMakeV, twoT, viewT, iZQ, iET, Option.bind_some, Option.map_some, Option.bind_none, Option.map_none, Option.bind, Option.map, List.getElem?_cons_zero, List.getElem?_cons_succ, List.getElem?_nil, List.set_cons_zero, List.set_cons_succ, List.set_nil, if_true, if_false, ↓reduceIte, Bool.not_true, Bool.not_false, decide_true, decide_false, Bool.false_eq_true, reduceCtorEq, true_and, false_and, and_true, and_false, not_true, not_false_eq_true, List.any_cons, List.any_nil, Bool.or_false, Bool.or_true, Bool.true_or, Bool.false_or, Bool.and_true, Bool.true_and, Bool.and_false, Bool.false_and, exists_eq_left, exists_eq_left', Option.some.injEq, A.d.injEq, D.int.injEq, D.bl.injEq, D.str.injEq, D.lst.injEq, D.tup.injEq, Except.ok.injEq, List.cons_append, List.nil_append, List.map_cons, List.map_nil, List.length_cons, List.length_nil, List.replicate, Nat.reduceSub, Nat.reduceAdd, List.append_nil, eq_self, or_true, true_or, or_false, false_or, Int.reduceNeg, Int.reducePow, Int.reduceLT, Int.reduceLE, List.length_set]
        have hs := bools_fun (fun p : PZ => decide (p.1 ≤ x ∧ x ≤ p.2)) rs
        have hi : inL x rs = (rs.map fun p => decide (p.1 ≤ x ∧ x ≤ p.2)).any id := by
          simp [inL, List.any_map, Function.comp_def]
        rw [hi]
        cases hb : decide (0 ≤ x ∧ x ≤ GR) with
        | false => rw [hb] at hn; simp only [w_Letter_contains_0, N_Letter_contains, hn, Bool.false_and, stG, wSeq, wIf, wAsg, wRet, wRetN, wNext, wDrop, wP, wB, wPs, wCons, wNil, wOp, wFn, wPar, wAsgT, wTup, wLst, wNewL, setIx_eq, setA, wM1, wI, wFor, bV, bNot, bAnd, bOr, fOp, fC, fV, fCons, fNil, fCall, fIsi, fAnd, fOr, fNot, chain_le, fTup, fLst, fIf, fFn, tgN, tgT, setAll, gI, gLen, gLe, gLt, gGe, gGt, LP.gSub, gMod, gFdiv, gPow, gPlus, gTimes, gIntA, gInt, gIsN, gIx, tyA, TN.sub, LP.dataOf, A.toD, viewL, viewQ, viewT, gEq_ii, gEq_ss, gEq_bb, gEq_nn, fSl, slV, oN, oS, iL, iR1, wFnM, gFdivW, tNot', tV, wFrz, fFld, fldV, gEither, gOwnIn, gOwnBin, gOwnEq, fIsiO, gIsiO, fProp, propV, fMeth, fMake, fMakeV, twoT, viewT, iZQ, iET, Option.bind_some, Option.map_some, Option.bind_none, Option.map_none, Option.bind, Option.map, List.getElem?_cons_zero, List.getElem?_cons_succ, List.getElem?_nil, List.set_cons_zero, List.set_cons_succ, List.set_nil, if_true, if_false, ↓reduceIte, Bool.not_true, Bool.not_false, decide_true, decide_false, Bool.false_eq_true, reduceCtorEq, true_and, false_and, and_true, and_false, not_true, not_false_eq_true, List.any_cons, List.any_nil, Bool.or_false, Bool.or_true, Bool.true_or, Bool.false_or, Bool.and_true, Bool.true_and, Bool.and_false, Bool.false_and, exists_eq_left, exists_eq_left', Option.some.injEq, A.d.injEq, D.int.injEq, D.bl.injEq, D.str.injEq, D.lst.injEq, D.tup.injEq, Except.ok.injEq, List.cons_append, List.nil_append, List.map_cons, List.map_nil, List.length_cons, List.length_nil, List.replicate, Nat.reduceSub, Nat.reduceAdd, List.append_nil, eq_self, or_true, true_or, or_false, false_or, Int.reduceNeg, Int.reducePow, Int.reduceLT, Int.reduceLE, List.length_set]
        | true => rw [hb] at hn; simp only [w_Letter_contains_0, N_Letter_contains, hn, Bool.true_and, c, gBools, hs, stG, wSeq, wIf, wAsg, wRet, wRetN, wNext, wDrop, wP, wB, wPs, wCons, wNil, wOp, wFn, wPar, wAsgT, wTup, wLst, wNewL, setIx_eq, setA, wM1, wI, wFor, bV, bNot, bAnd, bOr, fOp, fC, fV, fCons, fNil, fCall, fIsi, fAnd, fOr, fNot, chain_le, fTup, fLst, fIf, fFn, tgN, tgT, setAll, gI, gLen, gLe, gLt, gGe, gGt, LP.gSub, gMod, gFdiv, gPow, gPlus, gTimes, gIntA, gInt, gIsN, gIx, tyA, TN.sub, LP.dataOf, A.toD, viewL, viewQ, viewT, gEq_ii, gEq_ss, gEq_bb, gEq_nn, fSl, slV, oN, oS, iL, iR1, wFnM, gFdivW, tNot', tV, wFrz, fFld, fldV, gEither, gOwnIn, gOwnBin, gOwnEq, fIsiO, gIsiO, fProp, propV, fMeth, fMake, fMakeV, twoT, viewT, iZQ, iET, Option.bind_some, Option.map_some, Option.bind_none, Option.map_none, Option.bind, Option.map, List.getElem?_cons_zero, List.getElem?_cons_succ, List.getElem?_nil, List.set_cons_zero, List.set_cons_succ, List.set_nil, if_true, if_false, ↓reduceIte, Bool.not_true, Bool.not_false, decide_true, decide_false, Bool.false_eq_true, reduceCtorEq, true_and, false_and, and_true, and_false, not_true, not_false_eq_true, List.any_cons, List.any_nil, Bool.or_false, Bool.or_true, Bool.true_or, Bool.false_or, Bool.and_true, Bool.true_and, Bool.and_false, Bool.false_and, exists_eq_left, exists_eq_left', Option.some.injEq, A.d.injEq, D.int.injEq, D.bl.injEq, D.str.injEq, D.lst.injEq, D.tup.injEq, Except.ok.injEq, List.cons_append, List.nil_append, List.map_cons, List.map_nil, List.length_cons, List.length_nil, List.replicate, Nat.reduceSub, Nat.reduceAdd, List.append_nil, eq_self, or_true, true_or, or_false, false_or, Int.reduceNeg, Int.reducePow, Int.reduceLT, Int.reduceLE, List.length_set]
      · rename_i hv
        cases e2 : isNumD v with
        | none => rw [e2] at h; cases h
        | some b =>
          rw [e2] at h; cases h
          have hn := numD_ok e2
          rw [isNum_no e2 (fun x hx => hv x hx)] at hn
          simp only [w_Letter_contains_0, N_Letter_contains, hn, stG, wSeq, wIf, wAsg, wRet, wRetN, wNext, wDrop, wP, wB, wPs, wCons, wNil, wOp, wFn, wPar, wAsgT, wTup, wLst, wNewL, setIx_eq, setA, wM1, wI, wFor, bV, bNot, bAnd, bOr, fOp, fC, fV, fCons, fNil, fCall, fIsi, fAnd, fOr, fNot, chain_le, fTup, fLst, fIf, fFn, tgN, tgT, setAll, gI, gLen, gLe, gLt, gGe, gGt, LP.gSub, gMod, gFdiv, gPow, gPlus, gTimes, gIntA, gInt, gIsN, gIx, tyA, TN.sub, LP.dataOf, A.toD, viewL, viewQ, viewT, gEq_ii, gEq_ss, gEq_bb, gEq_nn, fSl, slV, oN, oS, iL, iR1, wFnM, gFdivW, tNot', tV, wFrz, fFld, fldV, gEither, gOwnIn, gOwnBin, gOwnEq, fIsiO, gIsiO, fProp, propV, fMeth, fMake, fMakeV, twoT, viewT, iZQ, iET, Option.bind_some, Option.map_some, Option.bind_none, Option.map_none, Option.bind, Option.map, List.getElem?_cons_zero, List.getElem?_cons_succ, List.getElem?_nil, List.set_cons_zero, List.set_cons_succ, List.set_nil, if_true, if_false, ↓reduceIte, Bool.not_true, Bool.not_false, decide_true, decide_false, Bool.false_eq_true, reduceCtorEq, true_and, false_and, and_true, and_false, not_true, not_false_eq_true, List.any_cons, List.any_nil, Bool.or_false, Bool.or_true, Bool.true_or, Bool.false_or, Bool.and_true, Bool.true_and, Bool.and_false, Bool.false_and, exists_eq_left, exists_eq_left', Option.some.injEq, A.d.injEq, D.int.injEq, D.bl.injEq, D.str.injEq, D.lst.injEq, D.tup.injEq, Except.ok.injEq, List.cons_append, List.nil_append, List.map_cons, List.map_nil, List.length_cons, List.length_nil, List.replicate, Nat.reduceSub, Nat.reduceAdd, List.append_nil, eq_self, or_true, true_or, or_false, false_or, Int.reduceNeg, Int.reducePow, Int.reduceLT, Int.reduceLE, List.length_set]
  · cases h
theorem v_runsN (as : List A) (S : So) (ex : EK) (Q : AK) (h : fc_runsN as S ex Q) : w_Letter_runsN (stG N_Letter_runsN as) S { nx := fun _ S' => Q (.d .non) S', rt := Q, ex := ex } := by
  obtain ⟨rs, rfl, hk, hQ⟩ := h
  simp only [w_Letter_runsN_0, N_Letter_runsN, wListN, ltr, c00, stG, wSeq, wIf, wAsg, wRet, wRetN, wNext, wDrop, wP, wB, wPs, wCons, wNil, wOp, wFn, wPar, wAsgT, wTup, wLst, wNewL, setIx_eq, setA, wM1, wI, wFor, bV, bNot, bAnd, bOr, fOp, fC, fV, fCons, fNil, fCall, fIsi, fAnd, fOr, fNot, chain_le, fTup, fLst, fIf, fFn, tgN, tgT, setAll, gI, gLen, gLe, gLt, gGe, gGt, LP.gSub, gMod, gFdiv, gPow, gPlus, gTimes, gIntA, gInt, gIsN, gIx, tyA, TN.sub, LP.dataOf, A.toD, viewL, viewQ, viewT, gEq_ii, gEq_ss, gEq_bb, gEq_nn, fSl, slV, oN, oS, iL, iR1, wFnM, gFdivW, tNot', tV, wFrz, fFld, fldV, gEither, gOwnIn, gOwnBin, gOwnEq, fIsiO, gIsiO, fProp, propV, fMeth, fMake, fMakeV, twoT, viewT, iZQ, iET, Option.bind_some, Option.map_some, Option.bind_none, Option.map_none, Option.bind, Option.map, List.getElem?_cons_zero, List.getElem?_cons_succ, List.getElem?_nil, List.set_cons_zero, List.set_cons_succ, List.set_nil, if_true, if_false, ↓reduceIte, Bool.not_true, Bool.not_false, decide_true, decide_false, Bool.false_eq_true, reduceCtorEq, true_and, false_and, and_true, and_false, not_true, not_false_eq_true, List.any_cons, List.any_nil, Bool.or_false, Bool.or_true, Bool.true_or, Bool.false_or, Bool.and_true, Bool.true_and, Bool.and_false, Bool.false_and, exists_eq_left, exists_eq_left', Option.some.injEq, A.d.injEq, D.int.injEq, D.bl.injEq, D.str.injEq, D.lst.injEq, D.tup.injEq, Except.ok.injEq, List.cons_append, List.nil_append, List.map_cons, List.map_nil, List.length_cons, List.length_nil, List.replicate, Nat.reduceSub, Nat.reduceAdd, List.append_nil, eq_self, or_true, true_or, or_false, false_or, Int.reduceNeg, Int.reducePow, Int.reduceLT, Int.reduceLE, List.length_set]
  exact ⟨_, _, rfl, rfl, hQ⟩
end K
set_option maxHeartbeats 4000000
namespace K
open PySem PySem.Spec PyProof.Rows L2 LP
theorem big_b {i : Int} (h : big i = true) : -1000000000000000000000 < i ∧ i < 1000000000000000000000 := of_decide_eq_true h
theorem big_log {i : Int} (h : big i = true) : i.natAbs.log2 < 1920 := by
  have hb := big_b h
  by_cases h0 : i.natAbs = 0
  · rw [h0]; decide
  · have h1 : i.natAbs < 2 ^ 70 := Nat.lt_of_lt_of_le (by omega : i.natAbs < 1000000000000000000000) (by decide)
    have := (Nat.log2_lt h0).mpr h1
    omega
theorem itos_len {i : Int} (h : big i = true) : (itos i).length ≤ 71 := by
  have hb := big_b h
  have h1 : i.natAbs.log2 < 70 := by
    by_cases h0 : i.natAbs = 0
    · rw [h0]; decide
    · exact (Nat.log2_lt h0).mpr (Nat.lt_of_lt_of_le (by omega : i.natAbs < 1000000000000000000000) (by decide))
  have h2 := PySem.int_text_length_le (k := 70) (by decide) h1
  have e : (itos i).length = (toString i).length := ofString_len _
  rw [e]
  exact h2
theorem stext_len {a b : Int} (ha : big a = true) (hb : big b = true) : (stext a b).length ≤ 143 := by
  have h1 := itos_len ha
  have h2 := itos_len hb
  have h3 : ("-" : Str).length = 1 := by decide +kernel
  unfold stext
  split
  · omega
  · rw [app_len, app_len, h3]; omega
theorem bigP_b {p : PZ} (h : bigP p = true) : big p.1 = true ∧ big p.2 = true := Bool.and_eq_true_iff.mp h
theorem texts_len {l : List PZ} (h : ∀ p ∈ l, bigP p = true) : ((l.map fun p => stext p.1 p.2).map (·.length)).sum ≤ 143 * l.length := by
  induction l with
  | nil => simp
  | cons p l ih =>
    have h1 := bigP_b (h p List.mem_cons_self)
    have h2 := stext_len h1.1 h1.2
    have h3 := ih fun q hq => h q (List.mem_cons_of_mem _ hq)
    rw [List.map_cons, List.map_cons, List.sum_cons, List.length_cons]
    omega
theorem gStr_ok {S : So} {i : Int} (h : big i = true) : gStr S [.d (.int i)] = some (.str (itos i)) := by
  simp only [gStr]
  rw [if_pos (big_log h)]
  rfl
theorem prs_some {n : Nat} {l : List D} {ps : List PZ} (h : prs n l = some ps) : l = ps.map pzD ∧ (∀ p ∈ ps, bigP p = true) ∧ ps.length ≤ n := by
  unfold prs at h
  cases e : pairsOf l with
  | none => rw [e] at h; cases h
  | some q =>
    rw [e, Option.bind_some] at h
    split at h
    · rename_i hk
      cases h
      rw [Bool.and_eq_true, List.all_eq_true, decide_eq_true_eq] at hk
      exact ⟨pairsOf_some e, hk.1, hk.2⟩
    · cases h
theorem prs_ok {n : Nat} {ps : List PZ} (h : ∀ p ∈ ps, bigP p = true) (hn : ps.length ≤ n) : prs n (ps.map pzD) = some ps := by
  have hk : (ps.all bigP && decide (ps.length ≤ n)) = true := by
    rw [Bool.and_eq_true, List.all_eq_true, decide_eq_true_eq]
    exact ⟨h, hn⟩
  simp only [prs, pairsOf_map, Option.bind_some, hk, if_true]
theorem stext_ok {a b : Int} (ha : big a = true) (hb : big b = true) : G_stext [.int a, .int b] = some (.ok (.str (stext a b))) := by
  simp only [G_stext, ha, hb, Bool.and_self, if_true]
theorem ok_big {p : PZ} (h : okP p = true) : bigP p = true := by
  obtain ⟨h1, h2, h3⟩ := okP_b h
  unfold GR at h3
  unfold bigP big
  rw [Bool.and_eq_true]
  exact ⟨decide_eq_true (by omega), decide_eq_true (by omega)⟩
theorem stext_some {ds : List D} {o : Except Er D} (h : G_stext ds = some o) : ∃ a b, ds = [.int a, .int b] ∧ big a = true ∧ big b = true ∧ o = .ok (.str (stext a b)) := by
  unfold G_stext at h
  split at h
  · rename_i a b
    split at h
    · rename_i hk
      cases h
      have := Bool.and_eq_true_iff.mp hk
      exact ⟨a, b, rfl, this.1, this.2, rfl⟩
    · cases h
  · cases h
theorem v_stext (ds : List D) (o : Except Er D) (h : G_stext ds = some o) : w_span_text (stG N_span_text (ds.map A.d)) [] (dnP o) := by
  obtain ⟨a, b, rfl, ha, hb, rfl⟩ := stext_some h
  have s1 := gStr_ok (S := []) ha
  have l1 := itos_len ha
  have l2 := itos_len hb
  have l3 : ("-" : Str).length = 1 := by decide +kernel
  have hj : fJoin [fFmt (fV 0), fC (.str "-"), fFmt (fV 1)] [some (.d (.int a)), some (.d (.int b))] [] = some (.d (.str (itos a ++ "-" ++ itos b))) := by
    have e : evs [some (.d (.int a)), some (.d (.int b))] [] [fFmt (fV 0), fC (.str "-"), fFmt (fV 1)] = some [itos a, "-", itos b] := by
      simp only [evs, fFmt, big_log ha, big_log hb, stG, wSeq, wIf, wAsg, wRet, wRetN, wNext, wDrop, wP, wB, wPs, wCons, wNil, wOp, wFn, wPar, wAsgT, wTup, wLst, wNewL, setIx_eq, setA, wM1, wI, wFor, bV, bNot, bAnd, bOr, fOp, fC, fV, fCons, fNil, fCall, fIsi, fAnd, fOr, fNot, chain_le, fTup, fLst, fIf, fFn, tgN, tgT, setAll, gI, gLen, gLe, gLt, gGe, gGt, LP.gSub, gMod, gFdiv, gPow, gPlus, gTimes, gIntA, gInt, gIsN, gIx, tyA, TN.sub, LP.dataOf, A.toD, viewL, viewQ, viewT, gEq_ii, gEq_ss, gEq_bb, gEq_nn, fSl, slV, oN, oS, iL, iR1, wFnM, gFdivW, tNot', tV, wFrz, fFld, fldV, gEither, gOwnIn, gOwnBin, gOwnEq, fIsiO, gIsiO, fProp, propV, fMeth, fMake, fMakeV, twoT, viewT, iZQ, iET, Option.bind_some, Option.map_some, Option.bind_none, Option.map_none, Option.bind, Option.map, List.getElem?_cons_zero, List.getElem?_cons_succ, List.getElem?_nil, List.set_cons_zero, List.set_cons_succ, List.set_nil, if_true, if_false, ↓reduceIte, Bool.not_true, Bool.not_false, decide_true, decide_false, Bool.false_eq_true, reduceCtorEq, true_and, false_and, and_true, and_false, not_true, not_false_eq_true, List.any_cons, List.any_nil, Bool.or_false, Bool.or_true, Bool.true_or, Bool.false_or, Bool.and_true, Bool.true_and, Bool.and_false, Bool.false_and, exists_eq_left, exists_eq_left', Option.some.injEq, A.d.injEq, D.int.injEq, D.bl.injEq, D.str.injEq, D.lst.injEq, D.tup.injEq, Except.ok.injEq, List.cons_append, List.nil_append, List.map_cons, List.map_nil, List.length_cons, List.length_nil, List.replicate, Nat.reduceSub, Nat.reduceAdd, List.append_nil, eq_self, or_true, true_or, or_false, false_or, Int.reduceNeg, Int.reducePow, Int.reduceLT, Int.reduceLE, List.length_set]
      rfl
    have := fJoin_of e (Nat.le_trans (by simp only [List.map_cons, List.map_nil, List.sum_cons, List.sum_nil]; omega : _ ≤ 1000) (by decide))
    rw [this]
    simp only [glued, empty_app]
  by_cases hab : a = b
  · have hab' := eq_true hab
    have e2 : stext a b = itos a := by unfold stext; rw [if_pos hab]
    simp only [w_span_text_0, N_span_text, hab', s1, e2, stG, wSeq, wIf, wAsg, wRet, wRetN, wNext, wDrop, wP, wB, wPs, wCons, wNil, wOp, wFn, wPar, wAsgT, wTup, wLst, wNewL, setIx_eq, setA, wM1, wI, wFor, bV, bNot, bAnd, bOr, fOp, fC, fV, fCons, fNil, fCall, fIsi, fAnd, fOr, fNot, chain_le, fTup, fLst, fIf, fFn, tgN, tgT, setAll, gI, gLen, gLe, gLt, gGe, gGt, LP.gSub, gMod, gFdiv, gPow, gPlus, gTimes, gIntA, gInt, gIsN, gIx, tyA, TN.sub, LP.dataOf, A.toD, viewL, viewQ, viewT, gEq_ii, gEq_ss, gEq_bb, gEq_nn, fSl, slV, oN, oS, iL, iR1, wFnM, gFdivW, tNot', tV, wFrz, fFld, fldV, gEither, gOwnIn, gOwnBin, gOwnEq, fIsiO, gIsiO, fProp, propV, fMeth, fMake, fMakeV, twoT, viewT, iZQ, iET, Option.bind_some, Option.map_some, Option.bind_none, Option.map_none, Option.bind, Option.map, List.getElem?_cons_zero, List.getElem?_cons_succ, List.getElem?_nil, List.set_cons_zero, List.set_cons_succ, List.set_nil, if_true, if_false, ↓reduceIte, Bool.not_true, Bool.not_false, decide_true, decide_false, Bool.false_eq_true, reduceCtorEq, true_and, false_and, and_true, and_false, not_true, not_false_eq_true, List.any_cons, List.any_nil, Bool.or_false, Bool.or_true, Bool.true_or, Bool.false_or, Bool.and_true, Bool.true_and, Bool.and_false, Bool.false_and, exists_eq_left, exists_eq_left', Option.some.injEq, A.d.injEq, D.int.injEq, D.bl.injEq, D.str.injEq, D.lst.injEq, D.tup.injEq, Except.ok.injEq, List.cons_append, List.nil_append, List.map_cons, List.map_nil, List.length_cons, List.length_nil, List.replicate, Nat.reduceSub, Nat.reduceAdd, List.append_nil, eq_self, or_true, true_or, or_false, false_or, Int.reduceNeg, Int.reducePow, Int.reduceLT, Int.reduceLE, List.length_set]
  · have hab' := eq_false hab
    have e2 : stext a b = itos a ++ "-" ++ itos b := by unfold stext; rw [if_neg hab]
    simp only [w_span_text_0, N_span_text, hab', hj, e2, stG, wSeq, wIf, wAsg, wRet, wRetN, wNext, wDrop, wP, wB, wPs, wCons, wNil, wOp, wFn, wPar, wAsgT, wTup, wLst, wNewL, setIx_eq, setA, wM1, wI, wFor, bV, bNot, bAnd, bOr, fOp, fC, fV, fCons, fNil, fCall, fIsi, fAnd, fOr, fNot, chain_le, fTup, fLst, fIf, fFn, tgN, tgT, setAll, gI, gLen, gLe, gLt, gGe, gGt, LP.gSub, gMod, gFdiv, gPow, gPlus, gTimes, gIntA, gInt, gIsN, gIx, tyA, TN.sub, LP.dataOf, A.toD, viewL, viewQ, viewT, gEq_ii, gEq_ss, gEq_bb, gEq_nn, fSl, slV, oN, oS, iL, iR1, wFnM, gFdivW, tNot', tV, wFrz, fFld, fldV, gEither, gOwnIn, gOwnBin, gOwnEq, fIsiO, gIsiO, fProp, propV, fMeth, fMake, fMakeV, twoT, viewT, iZQ, iET, Option.bind_some, Option.map_some, Option.bind_none, Option.map_none, Option.bind, Option.map, List.getElem?_cons_zero, List.getElem?_cons_succ, List.getElem?_nil, List.set_cons_zero, List.set_cons_succ, List.set_nil, if_true, if_false, ↓reduceIte, Bool.not_true, Bool.not_false, decide_true, decide_false, Bool.false_eq_true, reduceCtorEq, true_and, false_and, and_true, and_false, not_true, not_false_eq_true, List.any_cons, List.any_nil, Bool.or_false, Bool.or_true, Bool.true_or, Bool.false_or, Bool.and_true, Bool.true_and, Bool.and_false, Bool.false_and, exists_eq_left, exists_eq_left', Option.some.injEq, A.d.injEq, D.int.injEq, D.bl.injEq, D.str.injEq, D.lst.injEq, D.tup.injEq, Except.ok.injEq, List.cons_append, List.nil_append, List.map_cons, List.map_nil, List.length_cons, List.length_nil, List.replicate, Nat.reduceSub, Nat.reduceAdd, List.append_nil, eq_self, or_true, true_or, or_false, false_or, Int.reduceNeg, Int.reducePow, Int.reduceLT, Int.reduceLE, List.length_set]
theorem v_l_stext (ds : List D) (o : Except Er D) (h : G_stext ds = some o) : w_l_span_text (stG N_l_span_text (ds.map A.d)) [] (dnP o) := by
  obtain ⟨a, b, rfl, ha, hb, rfl⟩ := stext_some h
  have s1 := gStr_ok (S := []) ha
  have s2 := gStr_ok (S := []) hb
  have l1 := itos_len ha
  have l2 := itos_len hb
  have l3 : ("-" : Str).length = 1 := by decide +kernel
  have z1 : ((itos a).length + ("-" : Str).length ≤ sizeLine) = True := eq_true (Nat.le_trans (by omega : _ ≤ 1000) (by decide))
  have z2 : ((itos a ++ "-" : Str).length + (itos b).length ≤ sizeLine) = True := eq_true (Nat.le_trans (by rw [app_len]; omega : _ ≤ 1000) (by decide))
  by_cases hab : a = b
  · have hab' := eq_true hab
    have e2 : stext a b = itos a := by unfold stext; rw [if_pos hab]
    simp only [w_l_span_text_0, N_l_span_text, hab', s1, e2, stG, wSeq, wIf, wAsg, wRet, wRetN, wNext, wDrop, wP, wB, wPs, wCons, wNil, wOp, wFn, wPar, wAsgT, wTup, wLst, wNewL, setIx_eq, setA, wM1, wI, wFor, bV, bNot, bAnd, bOr, fOp, fC, fV, fCons, fNil, fCall, fIsi, fAnd, fOr, fNot, chain_le, fTup, fLst, fIf, fFn, tgN, tgT, setAll, gI, gLen, gLe, gLt, gGe, gGt, LP.gSub, gMod, gFdiv, gPow, gPlus, gTimes, gIntA, gInt, gIsN, gIx, tyA, TN.sub, LP.dataOf, A.toD, viewL, viewQ, viewT, gEq_ii, gEq_ss, gEq_bb, gEq_nn, fSl, slV, oN, oS, iL, iR1, wFnM, gFdivW, tNot', tV, wFrz, fFld, fldV, gEither, gOwnIn, gOwnBin, gOwnEq, fIsiO, gIsiO, fProp, propV, fMeth, fMake, fMakeV, twoT, viewT, iZQ, iET, Option.bind_some, Option.map_some, Option.bind_none, Option.map_none, Option.bind, Option.map, List.getElem?_cons_zero, List.getElem?_cons_succ, List.getElem?_nil, List.set_cons_zero, List.set_cons_succ, List.set_nil, if_true, if_false, ↓reduceIte, Bool.not_true, Bool.not_false, decide_true, decide_false, Bool.false_eq_true, reduceCtorEq, true_and, false_and, and_true, and_false, not_true, not_false_eq_true, List.any_cons, List.any_nil, Bool.or_false, Bool.or_true, Bool.true_or, Bool.false_or, Bool.and_true, Bool.true_and, Bool.and_false, Bool.false_and, exists_eq_left, exists_eq_left', Option.some.injEq, A.d.injEq, D.int.injEq, D.bl.injEq, D.str.injEq, D.lst.injEq, D.tup.injEq, Except.ok.injEq, List.cons_append, List.nil_append, List.map_cons, List.map_nil, List.length_cons, List.length_nil, List.replicate, Nat.reduceSub, Nat.reduceAdd, List.append_nil, eq_self, or_true, true_or, or_false, false_or, Int.reduceNeg, Int.reducePow, Int.reduceLT, Int.reduceLE, List.length_set]
  · have hab' := eq_false hab
    have e2 : stext a b = itos a ++ "-" ++ itos b := by unfold stext; rw [if_neg hab]
    simp only [w_l_span_text_0, N_l_span_text, hab', s1, s2, z1, z2, e2, stG, wSeq, wIf, wAsg, wRet, wRetN, wNext, wDrop, wP, wB, wPs, wCons, wNil, wOp, wFn, wPar, wAsgT, wTup, wLst, wNewL, setIx_eq, setA, wM1, wI, wFor, bV, bNot, bAnd, bOr, fOp, fC, fV, fCons, fNil, fCall, fIsi, fAnd, fOr, fNot, chain_le, fTup, fLst, fIf, fFn, tgN, tgT, setAll, gI, gLen, gLe, gLt, gGe, gGt, LP.gSub, gMod, gFdiv, gPow, gPlus, gTimes, gIntA, gInt, gIsN, gIx, tyA, TN.sub, LP.dataOf, A.toD, viewL, viewQ, viewT, gEq_ii, gEq_ss, gEq_bb, gEq_nn, fSl, slV, oN, oS, iL, iR1, wFnM, gFdivW, tNot', tV, wFrz, fFld, fldV, gEither, gOwnIn, gOwnBin, gOwnEq, fIsiO, gIsiO, fProp, propV, fMeth, fMake, fMakeV, twoT, viewT, iZQ, iET, Option.bind_some, Option.map_some, Option.bind_none, Option.map_none, Option.bind, Option.map, List.getElem?_cons_zero, List.getElem?_cons_succ, List.getElem?_nil, List.set_cons_zero, List.set_cons_succ, List.set_nil, if_true, if_false, ↓reduceIte, Bool.not_true, Bool.not_false, decide_true, decide_false, Bool.false_eq_true, reduceCtorEq, true_and, false_and, and_true, and_false, not_true, not_false_eq_true, List.any_cons, List.any_nil, Bool.or_false, Bool.or_true, Bool.true_or, Bool.false_or, Bool.and_true, Bool.true_and, Bool.and_false, Bool.false_and, exists_eq_left, exists_eq_left', Option.some.injEq, A.d.injEq, D.int.injEq, D.bl.injEq, D.str.injEq, D.lst.injEq, D.tup.injEq, Except.ok.injEq, List.cons_append, List.nil_append, List.map_cons, List.map_nil, List.length_cons, List.length_nil, List.replicate, Nat.reduceSub, Nat.reduceAdd, List.append_nil, eq_self, or_true, true_or, or_false, false_or, Int.reduceNeg, Int.reducePow, Int.reduceLT, Int.reduceLE, List.length_set]
end K
set_option maxHeartbeats 4000000
namespace K
open PySem PySem.Spec PyProof.Rows L2 LP
theorem strs_fun {α : Type} (f : α → Str) (l : List α) : dStrs (l.map fun p => D.str (f p)) = some (l.map f) := by
  rw [← LP.strs_map, List.map_map]; rfl
theorem texts_join {S : So} {sep : Str} {l : List PZ} (h : ∀ p ∈ l, bigP p = true) (hl : l.length ≤ 60) (hs : sep.length ≤ 10) : gJoin S sep (.d (.lst (l.map fun p => .str (stext p.1 p.2)))) = some (.str (Str.join sep (l.map fun p => stext p.1 p.2))) := by
  have h1 := texts_len h
  have h2 := strs_fun (fun p : PZ => stext p.1 p.2) l
  have h3 : l.length * sep.length ≤ 60 * 10 := Nat.mul_le_mul hl hs
  unfold gJoin
  simp only [viewQ, viewL, Option.bind_some, h2]
  rw [if_pos]
  rw [List.length_map]
  omega
theorem eq_l {S : So} (l : List PZ) (neg : Bool) : gEqU neg S (.d (.lst (l.map pzD))) (.d (.lst [])) = some (.bl (if neg then !decide (l = []) else decide (l = []))) := by
  have e := deq_pairs l []
  simp only [gEqU, D.flat, Bool.false_eq_true, false_and, if_false, gEq, valD, Option.bind_some]
  rw [show (D.lst ([] : List D)) = .lst (([] : List PZ).map pzD) from rfl, e]
  rfl
theorem sep2 : ("; " : Str).length ≤ 10 := by decide +kernel
theorem bigs_of {rs : List PZ} {n : Nat} (h : oks n rs = true) : (∀ p ∈ rs, bigP p = true) ∧ rs.length ≤ n :=
  ⟨fun p hp => ok_big ((oks_iff.mp h).1 p hp), (oks_iff.mp h).2⟩
theorem v_text (ds : List D) (o : Except Er D) (h : G_text ds = some o) : w_Letter_text (stG N_Letter_text (ds.map A.d)) [] (dnP o) := by
  unfold G_text at h
  split at h
  · rename_i d
    cases e : runsOf d with
    | none => rw [e] at h; cases h
    | some rs =>
      rw [e] at h; cases h
      obtain ⟨rfl, hk⟩ := runsOf_some e
      obtain ⟨hb, hl⟩ := bigs_of hk
      have c : fComp (iL (fFld [0] 0 (fV 0))) (tgT [1, 2]) [1, 2] (fun _ _ => some true) (fFn [] G_stext (fCons (fV 1) (fCons (fV 2) fNil))) [some (.d (ltr rs)), none, none] [] = some (.d (.lst (rs.map fun p => .str (stext p.1 p.2)))) := by
        refine comp_map rfl rfl fun p hp => ?_
        have hp' := bigP_b (hb p hp)
        have hs := stext_ok hp'.1 hp'.2
        simp only [eltF, wipeG, pzD, hs, stG, wSeq, wIf, wAsg, wRet, wRetN, wNext, wDrop, wP, wB, wPs, wCons, wNil, wOp, wFn, wPar, wAsgT, wTup, wLst, wNewL, setIx_eq, setA, wM1, wI, wFor, bV, bNot, bAnd, bOr, fOp, fC, fV, fCons, fNil, fCall, fIsi, fAnd, fOr, fNot, chain_le, fTup, fLst, fIf, fFn, tgN, tgT, setAll, gI, gLen, gLe, gLt, gGe, gGt, LP.gSub, gMod, gFdiv, gPow, gPlus, gTimes, gIntA, gInt, gIsN, gIx, tyA, TN.sub, LP.dataOf, A.toD, viewL, viewQ, viewT, gEq_ii, gEq_ss, gEq_bb, gEq_nn, fSl, slV, oN, oS, iL, iR1, wFnM, gFdivW, tNot', tV, wFrz, fFld, fldV, gEither, gOwnIn, gOwnBin, gOwnEq, fIsiO, gIsiO, fProp, propV, fMeth, fMake, fMakeV, twoT, viewT, iZQ, iET, Option.bind_some, Option.map_some, Option.bind_none, Option.map_none, Option.bind, Option.map, List.getElem?_cons_zero, List.getElem?_cons_succ, List.getElem?_nil, List.set_cons_zero, List.set_cons_succ, List.set_nil, if_true, if_false, ↓reduceIte, Bool.not_true, Bool.not_false, decide_true, decide_false, Bool.false_eq_true, reduceCtorEq, true_and, false_and, and_true, and_false, not_true, not_false_eq_true, List.any_cons, List.any_nil, Bool.or_false, Bool.or_true, Bool.true_or, Bool.false_or, Bool.and_true, Bool.true_and, Bool.and_false, Bool.false_and, exists_eq_left, exists_eq_left', Option.some.injEq, A.d.injEq, D.int.injEq, D.bl.injEq, D.str.injEq, D.lst.injEq, D.tup.injEq, Except.ok.injEq, List.cons_append, List.nil_append, List.map_cons, List.map_nil, List.length_cons, List.length_nil, List.replicate, Nat.reduceSub, Nat.reduceAdd, List.append_nil, eq_self, or_true, true_or, or_false, false_or, Int.reduceNeg, Int.reducePow, Int.reduceLT, Int.reduceLE, List.length_set]
      have e0 := eq_l (S := []) rs false
      have hj := texts_join (S := []) hb hl sep2
      by_cases h0 : rs = []
      · have e1 : rtext rs = "none" := by unfold rtext; rw [if_pos h0]
        rw [decide_eq_true h0] at e0
        simp only [w_Letter_text_0, N_Letter_text, c00, ltr, e0, e1, stG, wSeq, wIf, wAsg, wRet, wRetN, wNext, wDrop, wP, wB, wPs, wCons, wNil, wOp, wFn, wPar, wAsgT, wTup, wLst, wNewL, setIx_eq, setA, wM1, wI, wFor, bV, bNot, bAnd, bOr, fOp, fC, fV, fCons, fNil, fCall, fIsi, fAnd, fOr, fNot, chain_le, fTup, fLst, fIf, fFn, tgN, tgT, setAll, gI, gLen, gLe, gLt, gGe, gGt, LP.gSub, gMod, gFdiv, gPow, gPlus, gTimes, gIntA, gInt, gIsN, gIx, tyA, TN.sub, LP.dataOf, A.toD, viewL, viewQ, viewT, gEq_ii, gEq_ss, gEq_bb, gEq_nn, fSl, slV, oN, oS, iL, iR1, wFnM, gFdivW, tNot', tV, wFrz, fFld, fldV, gEither, gOwnIn, gOwnBin, gOwnEq, fIsiO, gIsiO, fProp, propV, fMeth, fMake, fMakeV, twoT, viewT, iZQ, iET, Option.bind_some, Option.map_some, Option.bind_none, Option.map_none, Option.bind, Option.map, List.getElem?_cons_zero, List.getElem?_cons_succ, List.getElem?_nil, List.set_cons_zero, List.set_cons_succ, List.set_nil, if_true, if_false, ↓reduceIte, Bool.not_true, Bool.not_false, decide_true, decide_false, Bool.false_eq_true, reduceCtorEq, true_and, false_and, and_true, and_false, not_true, not_false_eq_true, List.any_cons, List.any_nil, Bool.or_false, Bool.or_true, Bool.true_or, Bool.false_or, Bool.and_true, Bool.true_and, Bool.and_false, Bool.false_and, exists_eq_left, exists_eq_left', Option.some.injEq, A.d.injEq, D.int.injEq, D.bl.injEq, D.str.injEq, D.lst.injEq, D.tup.injEq, Except.ok.injEq, List.cons_append, List.nil_append, List.map_cons, List.map_nil, List.length_cons, List.length_nil, List.replicate, Nat.reduceSub, Nat.reduceAdd, List.append_nil, eq_self, or_true, true_or, or_false, false_or, Int.reduceNeg, Int.reducePow, Int.reduceLT, Int.reduceLE, List.length_set]
      · have e1 : rtext rs = Str.join "; " (rs.map fun p => stext p.1 p.2) := by unfold rtext; rw [if_neg h0]
        rw [decide_eq_false h0] at e0
        have c' := c
        simp only [ltr] at c'
        simp only [w_Letter_text_0, N_Letter_text, c00, ltr, e0, e1, c', fM1, hj, stG, wSeq, wIf, wAsg, wRet, wRetN, wNext, wDrop, wP, wB, wPs, wCons, wNil, wOp, wFn, wPar, wAsgT, wTup, wLst, wNewL, setIx_eq, setA, wM1, wI, wFor, bV, bNot, bAnd, bOr, fOp, fC, fV, fCons, fNil, fCall, fIsi, fAnd, fOr, fNot, chain_le, fTup, fLst, fIf, fFn, tgN, tgT, setAll, gI, gLen, gLe, gLt, gGe, gGt, LP.gSub, gMod, gFdiv, gPow, gPlus, gTimes, gIntA, gInt, gIsN, gIx, tyA, TN.sub, LP.dataOf, A.toD, viewL, viewQ, viewT, gEq_ii, gEq_ss, gEq_bb, gEq_nn, fSl, slV, oN, oS, iL, iR1, wFnM, gFdivW, tNot', tV, wFrz, fFld, fldV, gEither, gOwnIn, gOwnBin, gOwnEq, fIsiO, gIsiO, fProp, propV, fMeth, fMake, fMakeV, twoT, viewT, iZQ, iET, Option.bind_some, Option.map_some, Option.bind_none, Option.map_none, Option.bind, Option.map, List.getElem?_cons_zero, List.getElem?_cons_succ, List.getElem?_nil, List.set_cons_zero, List.set_cons_succ, List.set_nil, if_true, if_false, ↓reduceIte, Bool.not_true, Bool.not_false, decide_true, decide_false, Bool.false_eq_true, reduceCtorEq, true_and, false_and, and_true, and_false, not_true, not_false_eq_true, List.any_cons, List.any_nil, Bool.or_false, Bool.or_true, Bool.true_or, Bool.false_or, Bool.and_true, Bool.true_and, Bool.and_false, Bool.false_and, exists_eq_left, exists_eq_left', Option.some.injEq, A.d.injEq, D.int.injEq, D.bl.injEq, D.str.injEq, D.lst.injEq, D.tup.injEq, Except.ok.injEq, List.cons_append, List.nil_append, List.map_cons, List.map_nil, List.length_cons, List.length_nil, List.replicate, Nat.reduceSub, Nat.reduceAdd, List.append_nil, eq_self, or_true, true_or, or_false, false_or, Int.reduceNeg, Int.reducePow, Int.reduceLT, Int.reduceLE, List.length_set]
  · cases h
theorem v_l_rtext (ds : List D) (o : Except Er D) (h : G_rtext ds = some o) : w_l_runs_text (stG N_l_runs_text (ds.map A.d)) [] (dnP o) := by
  unfold G_rtext at h
  split at h
  · rename_i l
    cases e : prs 60 l with
    | none => rw [e] at h; cases h
    | some rs =>
      rw [e] at h; cases h
      obtain ⟨rfl, hb, hl⟩ := prs_some e
      have c : fComp (iL (fV 0)) (tgT [1, 2]) [1, 2] (fun _ _ => some true) (fFn [] G_stext (fCons (fV 1) (fCons (fV 2) fNil))) [some (.d (.lst (rs.map pzD))), none, none] [] = some (.d (.lst (rs.map fun p => .str (stext p.1 p.2)))) := by
        refine comp_map rfl rfl fun p hp => ?_
        have hp' := bigP_b (hb p hp)
        have hs := stext_ok hp'.1 hp'.2
        simp only [eltF, wipeG, pzD, hs, stG, wSeq, wIf, wAsg, wRet, wRetN, wNext, wDrop, wP, wB, wPs, wCons, wNil, wOp, wFn, wPar, wAsgT, wTup, wLst, wNewL, setIx_eq, setA, wM1, wI, wFor, bV, bNot, bAnd, bOr, fOp, fC, fV, fCons, fNil, fCall, fIsi, fAnd, fOr, fNot, chain_le, fTup, fLst, fIf, fFn, tgN, tgT, setAll, gI, gLen, gLe, gLt, gGe, gGt, LP.gSub, gMod, gFdiv, gPow, gPlus, gTimes, gIntA, gInt, gIsN, gIx, tyA, TN.sub, LP.dataOf, A.toD, viewL, viewQ, viewT, gEq_ii, gEq_ss, gEq_bb, gEq_nn, fSl, slV, oN, oS, iL, iR1, wFnM, gFdivW, tNot', tV, wFrz, fFld, fldV, gEither, gOwnIn, gOwnBin, gOwnEq, fIsiO, gIsiO, fProp, propV, fMeth, fMake, fMakeV, twoT, viewT, iZQ, iET, Option.bind_some, Option.map_some, Option.bind_none, Option.map_none, Option.bind, Option.map, List.getElem?_cons_zero, List.getElem?_cons_succ, List.getElem?_nil, List.set_cons_zero, List.set_cons_succ, List.set_nil, if_true, if_false, ↓reduceIte, Bool.not_true, Bool.not_false, decide_true, decide_false, Bool.false_eq_true, reduceCtorEq, true_and, false_and, and_true, and_false, not_true, not_false_eq_true, List.any_cons, List.any_nil, Bool.or_false, Bool.or_true, Bool.true_or, Bool.false_or, Bool.and_true, Bool.true_and, Bool.and_false, Bool.false_and, exists_eq_left, exists_eq_left', Option.some.injEq, A.d.injEq, D.int.injEq, D.bl.injEq, D.str.injEq, D.lst.injEq, D.tup.injEq, Except.ok.injEq, List.cons_append, List.nil_append, List.map_cons, List.map_nil, List.length_cons, List.length_nil, List.replicate, Nat.reduceSub, Nat.reduceAdd, List.append_nil, eq_self, or_true, true_or, or_false, false_or, Int.reduceNeg, Int.reducePow, Int.reduceLT, Int.reduceLE, List.length_set]
      have e0 := eq_l (S := []) rs false
      have hj := texts_join (S := []) hb hl sep2
      by_cases h0 : rs = []
      · have e1 : rtext rs = "none" := by unfold rtext; rw [if_pos h0]
        rw [decide_eq_true h0] at e0
        simp only [w_l_runs_text_0, N_l_runs_text, e0, e1, stG, wSeq, wIf, wAsg, wRet, wRetN, wNext, wDrop, wP, wB, wPs, wCons, wNil, wOp, wFn, wPar, wAsgT, wTup, wLst, wNewL, setIx_eq, setA, wM1, wI, wFor, bV, bNot, bAnd, bOr, fOp, fC, fV, fCons, fNil, fCall, fIsi, fAnd, fOr, fNot, chain_le, fTup, fLst, fIf, fFn, tgN, tgT, setAll, gI, gLen, gLe, gLt, gGe, gGt, LP.gSub, gMod, gFdiv, gPow, gPlus, gTimes, gIntA, gInt, gIsN, gIx, tyA, TN.sub, LP.dataOf, A.toD, viewL, viewQ, viewT, gEq_ii, gEq_ss, gEq_bb, gEq_nn, fSl, slV, oN, oS, iL, iR1, wFnM, gFdivW, tNot', tV, wFrz, fFld, fldV, gEither, gOwnIn, gOwnBin, gOwnEq, fIsiO, gIsiO, fProp, propV, fMeth, fMake, fMakeV, twoT, viewT, iZQ, iET, Option.bind_some, Option.map_some, Option.bind_none, Option.map_none, Option.bind, Option.map, List.getElem?_cons_zero, List.getElem?_cons_succ, List.getElem?_nil, List.set_cons_zero, List.set_cons_succ, List.set_nil, if_true, if_false, ↓reduceIte, Bool.not_true, Bool.not_false, decide_true, decide_false, Bool.false_eq_true, reduceCtorEq, true_and, false_and, and_true, and_false, not_true, not_false_eq_true, List.any_cons, List.any_nil, Bool.or_false, Bool.or_true, Bool.true_or, Bool.false_or, Bool.and_true, Bool.true_and, Bool.and_false, Bool.false_and, exists_eq_left, exists_eq_left', Option.some.injEq, A.d.injEq, D.int.injEq, D.bl.injEq, D.str.injEq, D.lst.injEq, D.tup.injEq, Except.ok.injEq, List.cons_append, List.nil_append, List.map_cons, List.map_nil, List.length_cons, List.length_nil, List.replicate, Nat.reduceSub, Nat.reduceAdd, List.append_nil, eq_self, or_true, true_or, or_false, false_or, Int.reduceNeg, Int.reducePow, Int.reduceLT, Int.reduceLE, List.length_set]
      · have e1 : rtext rs = Str.join "; " (rs.map fun p => stext p.1 p.2) := by unfold rtext; rw [if_neg h0]
        rw [decide_eq_false h0] at e0
        simp only [w_l_runs_text_0, N_l_runs_text, e0, e1, c, fM1, hj, stG, wSeq, wIf, wAsg, wRet, wRetN, wNext, wDrop, wP, wB, wPs, wCons, wNil, wOp, wFn, wPar, wAsgT, wTup, wLst, wNewL, setIx_eq, setA, wM1, wI, wFor, bV, bNot, bAnd, bOr, fOp, fC, fV, fCons, fNil, fCall, fIsi, fAnd, fOr, fNot, chain_le, fTup, fLst, fIf, fFn, tgN, tgT, setAll, gI, gLen, gLe, gLt, gGe, gGt, LP.gSub, gMod, gFdiv, gPow, gPlus, gTimes, gIntA, gInt, gIsN, gIx, tyA, TN.sub, LP.dataOf, A.toD, viewL, viewQ, viewT, gEq_ii, gEq_ss, gEq_bb, gEq_nn, fSl, slV, oN, oS, iL, iR1, wFnM, gFdivW, tNot', tV, wFrz, fFld, fldV, gEither, gOwnIn, gOwnBin, gOwnEq, fIsiO, gIsiO, fProp, propV, fMeth, fMake, fMakeV, twoT, viewT, iZQ, iET, Option.bind_some, Option.map_some, Option.bind_none, Option.map_none, Option.bind, Option.map, List.getElem?_cons_zero, List.getElem?_cons_succ, List.getElem?_nil, List.set_cons_zero, List.set_cons_succ, List.set_nil, if_true, if_false, ↓reduceIte, Bool.not_true, Bool.not_false, decide_true, decide_false, Bool.false_eq_true, reduceCtorEq, true_and, false_and, and_true, and_false, not_true, not_false_eq_true, List.any_cons, List.any_nil, Bool.or_false, Bool.or_true, Bool.true_or, Bool.false_or, Bool.and_true, Bool.true_and, Bool.and_false, Bool.false_and, exists_eq_left, exists_eq_left', Option.some.injEq, A.d.injEq, D.int.injEq, D.bl.injEq, D.str.injEq, D.lst.injEq, D.tup.injEq, Except.ok.injEq, List.cons_append, List.nil_append, List.map_cons, List.map_nil, List.length_cons, List.length_nil, List.replicate, Nat.reduceSub, Nat.reduceAdd, List.append_nil, eq_self, or_true, true_or, or_false, false_or, Int.reduceNeg, Int.reducePow, Int.reduceLT, Int.reduceLE, List.length_set]
  · cases h
theorem big_le {n : Nat} (h : n ≤ 100000) : (n ≤ sizeLine) = True := eq_true (Nat.le_trans h (by decide))
theorem rtext_len {rs : List PZ} (h : ∀ p ∈ rs, bigP p = true) (hl : rs.length ≤ 60) : (rtext rs).length ≤ 9180 := by
  have h1 := texts_len h
  have h2 := StrLaws.join_length_le ("; " : Str) (rs.map fun p => stext p.1 p.2)
  have h3 : rs.length * ("; " : Str).length ≤ 60 * 10 := Nat.mul_le_mul hl sep2
  have h4 : ("none" : Str).length = 4 := by decide +kernel
  rw [List.length_map] at h2
  unfold rtext
  split
  · omega
  · omega
theorem text_ok {rs : List PZ} (h : oks 60 rs = true) : G_text [.ins 0 [.lst (rs.map pzD)]] = some (.ok (.str (rtext rs))) := by
  show (runsOf (ltr rs)).map _ = _
  rw [runsOf_ltr h]; rfl
theorem v_repr (ds : List D) (o : Except Er D) (h : G_repr ds = some o) : w_Letter_repr (stG N_Letter_repr (ds.map A.d)) [] (dnP o) := by
  unfold G_repr at h
  split at h
  · rename_i d
    cases e : runsOf d with
    | none => rw [e] at h; cases h
    | some rs =>
      rw [e] at h; cases h
      obtain ⟨rfl, hk⟩ := runsOf_some e
      obtain ⟨hb, hl⟩ := bigs_of hk
      have ht := text_ok hk
      have hr := rtext_len hb hl
      have l1 : ("Letter(" : Str).length = 7 := by decide +kernel
      have l2 : (")" : Str).length = 1 := by decide +kernel
      have hj : fJoin [fC (.str "Letter("), fFmt (fMeth mt_text (fV 0) fNil), fC (.str ")")] [some (.d (ltr rs))] [] = some (.d (.str ("Letter(" ++ rtext rs ++ ")"))) := by
        have e : evs [some (.d (ltr rs))] [] [fC (.str "Letter("), fFmt (fMeth mt_text (fV 0) fNil), fC (.str ")")] = some ([("Letter(" : Str), rtext rs, ")"] : List Str) := by
          simp only [evs, fFmt, ltr, mt_text, ht, (big_le (by omega) : ((rtext rs).length ≤ sizeLine) = True), stG, wSeq, wIf, wAsg, wRet, wRetN, wNext, wDrop, wP, wB, wPs, wCons, wNil, wOp, wFn, wPar, wAsgT, wTup, wLst, wNewL, setIx_eq, setA, wM1, wI, wFor, bV, bNot, bAnd, bOr, fOp, fC, fV, fCons, fNil, fCall, fIsi, fAnd, fOr, fNot, chain_le, fTup, fLst, fIf, fFn, tgN, tgT, setAll, gI, gLen, gLe, gLt, gGe, gGt, LP.gSub, gMod, gFdiv, gPow, gPlus, gTimes, gIntA, gInt, gIsN, gIx, tyA, TN.sub, LP.dataOf, A.toD, viewL, viewQ, viewT, gEq_ii, gEq_ss, gEq_bb, gEq_nn, fSl, slV, oN, oS, iL, iR1, wFnM, gFdivW, tNot', tV, wFrz, fFld, fldV, gEither, gOwnIn, gOwnBin, gOwnEq, fIsiO, gIsiO, fProp, propV, fMeth, fMake, fMakeV, twoT, viewT, iZQ, iET, Option.bind_some, Option.map_some, Option.bind_none, Option.map_none, Option.bind, Option.map, List.getElem?_cons_zero, List.getElem?_cons_succ, List.getElem?_nil, List.set_cons_zero, List.set_cons_succ, List.set_nil, if_true, if_false, ↓reduceIte, Bool.not_true, Bool.not_false, decide_true, decide_false, Bool.false_eq_true, reduceCtorEq, true_and, false_and, and_true, and_false, not_true, not_false_eq_true, List.any_cons, List.any_nil, Bool.or_false, Bool.or_true, Bool.true_or, Bool.false_or, Bool.and_true, Bool.true_and, Bool.and_false, Bool.false_and, exists_eq_left, exists_eq_left', Option.some.injEq, A.d.injEq, D.int.injEq, D.bl.injEq, D.str.injEq, D.lst.injEq, D.tup.injEq, Except.ok.injEq, List.cons_append, List.nil_append, List.map_cons, List.map_nil, List.length_cons, List.length_nil, List.replicate, Nat.reduceSub, Nat.reduceAdd, List.append_nil, eq_self, or_true, true_or, or_false, false_or, Int.reduceNeg, Int.reducePow, Int.reduceLT, Int.reduceLE, List.length_set]
        have := fJoin_of e (Nat.le_trans (by simp only [List.map_cons, List.map_nil, List.sum_cons, List.sum_nil]; omega : _ ≤ 10000) (by decide))
        rw [this]
        simp only [glued, empty_app]
      simp only [w_Letter_repr_0, N_Letter_repr, hj, reprS, stG, wSeq, wIf, wAsg, wRet, wRetN, wNext, wDrop, wP, wB, wPs, wCons, wNil, wOp, wFn, wPar, wAsgT, wTup, wLst, wNewL, setIx_eq, setA, wM1, wI, wFor, bV, bNot, bAnd, bOr, fOp, fC, fV, fCons, fNil, fCall, fIsi, fAnd, fOr, fNot, chain_le, fTup, fLst, fIf, fFn, tgN, tgT, setAll, gI, gLen, gLe, gLt, gGe, gGt, LP.gSub, gMod, gFdiv, gPow, gPlus, gTimes, gIntA, gInt, gIsN, gIx, tyA, TN.sub, LP.dataOf, A.toD, viewL, viewQ, viewT, gEq_ii, gEq_ss, gEq_bb, gEq_nn, fSl, slV, oN, oS, iL, iR1, wFnM, gFdivW, tNot', tV, wFrz, fFld, fldV, gEither, gOwnIn, gOwnBin, gOwnEq, fIsiO, gIsiO, fProp, propV, fMeth, fMake, fMakeV, twoT, viewT, iZQ, iET, Option.bind_some, Option.map_some, Option.bind_none, Option.map_none, Option.bind, Option.map, List.getElem?_cons_zero, List.getElem?_cons_succ, List.getElem?_nil, List.set_cons_zero, List.set_cons_succ, List.set_nil, if_true, if_false, ↓reduceIte, Bool.not_true, Bool.not_false, decide_true, decide_false, Bool.false_eq_true, reduceCtorEq, true_and, false_and, and_true, and_false, not_true, not_false_eq_true, List.any_cons, List.any_nil, Bool.or_false, Bool.or_true, Bool.true_or, Bool.false_or, Bool.and_true, Bool.true_and, Bool.and_false, Bool.false_and, exists_eq_left, exists_eq_left', Option.some.injEq, A.d.injEq, D.int.injEq, D.bl.injEq, D.str.injEq, D.lst.injEq, D.tup.injEq, Except.ok.injEq, List.cons_append, List.nil_append, List.map_cons, List.map_nil, List.length_cons, List.length_nil, List.replicate, Nat.reduceSub, Nat.reduceAdd, List.append_nil, eq_self, or_true, true_or, or_false, false_or, Int.reduceNeg, Int.reducePow, Int.reduceLT, Int.reduceLE, List.length_set]
  · cases h
end K
set_option maxHeartbeats 4000000
namespace K
open PySem PySem.Spec PyProof.Rows L2 LP
open PySem PySem.Spec PyProof.Rows L2 LP
theorem near_okP {base : Int} (h0 : 0 ≤ base) (h1 : base ≤ 999999999999999970) {p : PZ} (h : near base p) : okP p = true := by
  obtain ⟨a, b, c⟩ := h
  have : 0 ≤ p.1 ∧ p.1 ≤ p.2 ∧ p.2 ≤ GR := by unfold GR; omega
  exact decide_eq_true this
theorem get_eq {S : So} {i : Nat} {a b : MO} (h : S[i]? = some a) : (S.set i b)[i]? = some b := List.getElem?_set_self (List.getElem?_eq_some_iff.mp h).1
theorem v_odd (as : List A) (S : So) (ex : EK) (Q : AK) (h : fc_odd as S ex Q) : w_l_odd (stG N_l_odd as) S { nx := fun _ S' => Q (.d .non) S', rt := Q, ex := ex } := by
  obtain ⟨k, m, rfl, hS, hb, hQ⟩ := h
  simp only [w_l_odd_0, N_l_odd, wFnM, n10, stG, wSeq, wIf, wAsg, wRet, wRetN, wNext, wDrop, wP, wB, wPs, wCons, wNil, wOp, wFn, wPar, wAsgT, wTup, wLst, wNewL, setIx_eq, setA, wM1, wI, wFor, bV, bNot, bAnd, bOr, fOp, fC, fV, fCons, fNil, fCall, fIsi, fAnd, fOr, fNot, chain_le, fTup, fLst, fIf, fFn, tgN, tgT, setAll, gI, gLen, gLe, gLt, gGe, gGt, LP.gSub, gMod, gFdiv, gPow, gPlus, gTimes, gIntA, gInt, gIsN, gIx, tyA, TN.sub, LP.dataOf, A.toD, viewL, viewQ, viewT, gEq_ii, gEq_ss, gEq_bb, gEq_nn, fSl, slV, oN, oS, iL, iR1, wFnM, gFdivW, tNot', tV, wFrz, fFld, fldV, gEither, gOwnIn, gOwnBin, gOwnEq, fIsiO, gIsiO, fProp, propV, fMeth, fMake, fMakeV, twoT, viewT, iZQ, iET, Option.bind_some, Option.map_some, Option.bind_none, Option.map_none, Option.bind, Option.map, List.getElem?_cons_zero, List.getElem?_cons_succ, List.getElem?_nil, List.set_cons_zero, List.set_cons_succ, List.set_nil, if_true, if_false, ↓reduceIte, Bool.not_true, Bool.not_false, decide_true, decide_false, Bool.false_eq_true, reduceCtorEq, true_and, false_and, and_true, and_false, not_true, not_false_eq_true, List.any_cons, List.any_nil, Bool.or_false, Bool.or_true, Bool.true_or, Bool.false_or, Bool.and_true, Bool.true_and, Bool.and_false, Bool.false_and, exists_eq_left, exists_eq_left', Option.some.injEq, A.d.injEq, D.int.injEq, D.bl.injEq, D.str.injEq, D.lst.injEq, D.tup.injEq, Except.ok.injEq, List.cons_append, List.nil_append, List.map_cons, List.map_nil, List.length_cons, List.length_nil, List.replicate, Nat.reduceSub, Nat.reduceAdd, List.append_nil, eq_self, or_true, true_or, or_false, false_or, Int.reduceNeg, Int.reducePow, Int.reduceLT, Int.reduceLE, List.length_set]
  exact ⟨k, m, _, oddL, rfl, hS, hb, rfl, by decide, by decide, fun d m' b hd => hQ d m' b hd⟩
theorem v_spans (as : List A) (S : So) (ex : EK) (Q : AK) (h : fc_spans as S ex Q) : w_l_spans (stG N_l_spans as) S { nx := fun _ S' => Q (.d .non) S', rt := Q, ex := ex } := by
  obtain ⟨k, m, rfl, hS, hb, hQ⟩ := h
  have p17 : (10 : Int) ^ Int.toNat 17 = 100000000000000000 := by decide
  have p18 : (10 : Int) ^ Int.toNat 18 = 1000000000000000000 := by decide
  simp only [w_l_spans_0, N_l_spans, n10, p17, p18, stG, wSeq, wIf, wAsg, wRet, wRetN, wNext, wDrop, wP, wB, wPs, wCons, wNil, wOp, wFn, wPar, wAsgT, wTup, wLst, wNewL, setIx_eq, setA, wM1, wI, wFor, bV, bNot, bAnd, bOr, fOp, fC, fV, fCons, fNil, fCall, fIsi, fAnd, fOr, fNot, chain_le, fTup, fLst, fIf, fFn, tgN, tgT, setAll, gI, gLen, gLe, gLt, gGe, gGt, LP.gSub, gMod, gFdiv, gPow, gPlus, gTimes, gIntA, gInt, gIsN, gIx, tyA, TN.sub, LP.dataOf, A.toD, viewL, viewQ, viewT, gEq_ii, gEq_ss, gEq_bb, gEq_nn, fSl, slV, oN, oS, iL, iR1, wFnM, gFdivW, tNot', tV, wFrz, fFld, fldV, gEither, gOwnIn, gOwnBin, gOwnEq, fIsiO, gIsiO, fProp, propV, fMeth, fMake, fMakeV, twoT, viewT, iZQ, iET, Option.bind_some, Option.map_some, Option.bind_none, Option.map_none, Option.bind, Option.map, List.getElem?_cons_zero, List.getElem?_cons_succ, List.getElem?_nil, List.set_cons_zero, List.set_cons_succ, List.set_nil, if_true, if_false, ↓reduceIte, Bool.not_true, Bool.not_false, decide_true, decide_false, Bool.false_eq_true, reduceCtorEq, true_and, false_and, and_true, and_false, not_true, not_false_eq_true, List.any_cons, List.any_nil, Bool.or_false, Bool.or_true, Bool.true_or, Bool.false_or, Bool.and_true, Bool.true_and, Bool.and_false, Bool.false_and, exists_eq_left, exists_eq_left', Option.some.injEq, A.d.injEq, D.int.injEq, D.bl.injEq, D.str.injEq, D.lst.injEq, D.tup.injEq, Except.ok.injEq, List.cons_append, List.nil_append, List.map_cons, List.map_nil, List.length_cons, List.length_nil, List.replicate, Nat.reduceSub, Nat.reduceAdd, List.append_nil, eq_self, or_true, true_or, or_false, false_or, Int.reduceNeg, Int.reducePow, Int.reduceLT, Int.reduceLE, List.length_set]
  refine ⟨k, m, _, rfl, hS, hb, by decide, by decide, fun r m1 hb1 r0 r1 => ?_⟩
  refine ⟨_, rfl, k, m1, _, _, rfl, get_eq hS, hb1, rfl, by simp, by simp, fun d m2 hb2 hd => ?_⟩
  have hcase : ∃ base : Int, d = .int base ∧ 0 ≤ base ∧ base ≤ 999999999999999970 := by
    rcases List.mem_cons.mp hd with rfl | hd
    · exact ⟨0, rfl, by omega, by omega⟩
    rcases List.mem_cons.mp hd with rfl | hd
    · exact ⟨5, rfl, by omega, by omega⟩
    rcases List.mem_cons.mp hd with rfl | hd
    · exact ⟨90, rfl, by omega, by omega⟩
    rcases List.mem_cons.mp hd with rfl | hd
    · exact ⟨999999999999999970, rfl, by omega, by omega⟩
    rcases List.mem_cons.mp hd with rfl | hd
    · exact ⟨r, rfl, by omega, by omega⟩
    cases hd
  obtain ⟨base, rfl, b0, b1⟩ := hcase
  simp only [List.set_set]
  have hS2 : (S.set k m2)[k]? = some m2 := get_eq hS
  simp only [w_l_spans_1, wLc, wIR1, stG, wSeq, wIf, wAsg, wRet, wRetN, wNext, wDrop, wP, wB, wPs, wCons, wNil, wOp, wFn, wPar, wAsgT, wTup, wLst, wNewL, setIx_eq, setA, wM1, wI, wFor, bV, bNot, bAnd, bOr, fOp, fC, fV, fCons, fNil, fCall, fIsi, fAnd, fOr, fNot, chain_le, fTup, fLst, fIf, fFn, tgN, tgT, setAll, gI, gLen, gLe, gLt, gGe, gGt, LP.gSub, gMod, gFdiv, gPow, gPlus, gTimes, gIntA, gInt, gIsN, gIx, tyA, TN.sub, LP.dataOf, A.toD, viewL, viewQ, viewT, gEq_ii, gEq_ss, gEq_bb, gEq_nn, fSl, slV, oN, oS, iL, iR1, wFnM, gFdivW, tNot', tV, wFrz, fFld, fldV, gEither, gOwnIn, gOwnBin, gOwnEq, fIsiO, gIsiO, fProp, propV, fMeth, fMake, fMakeV, twoT, viewT, iZQ, iET, Option.bind_some, Option.map_some, Option.bind_none, Option.map_none, Option.bind, Option.map, List.getElem?_cons_zero, List.getElem?_cons_succ, List.getElem?_nil, List.set_cons_zero, List.set_cons_succ, List.set_nil, if_true, if_false, ↓reduceIte, Bool.not_true, Bool.not_false, decide_true, decide_false, Bool.false_eq_true, reduceCtorEq, true_and, false_and, and_true, and_false, not_true, not_false_eq_true, List.any_cons, List.any_nil, Bool.or_false, Bool.or_true, Bool.true_or, Bool.false_or, Bool.and_true, Bool.true_and, Bool.and_false, Bool.false_and, exists_eq_left, exists_eq_left', Option.some.injEq, A.d.injEq, D.int.injEq, D.bl.injEq, D.str.injEq, D.lst.injEq, D.tup.injEq, Except.ok.injEq, List.cons_append, List.nil_append, List.map_cons, List.map_nil, List.length_cons, List.length_nil, List.replicate, Nat.reduceSub, Nat.reduceAdd, List.append_nil, eq_self, or_true, true_or, or_false, false_or, Int.reduceNeg, Int.reducePow, Int.reduceLT, Int.reduceLE, List.length_set]
  refine ⟨k, m2, _, rfl, hS2, hb2, by decide, by decide, fun n m3 hb3 n0 n1 => ?_⟩
  simp only [List.set_set]
  refine ⟨n, rfl, by omega, by omega, ?_⟩
  refine lc_inv (fun acc r S' => ∃ ps m', acc = ps.map pzD ∧ (∀ p ∈ ps, okP p = true) ∧ ps.length + r.length ≤ 3 ∧ S' = S.set k m' ∧ Bag m') ?_ ?_ _ _ _ ⟨[], m3, rfl, fun p hp => (by cases hp), by simp [rangeD]; omega, rfl, hb3⟩
  · rintro acc d r S' kk ⟨ps, m', rfl, h1, h2, rfl, h4⟩ hk
    refine ⟨_, rfl, ?_⟩
    simp only [wipeG, stG, wSeq, wIf, wAsg, wRet, wRetN, wNext, wDrop, wP, wB, wPs, wCons, wNil, wOp, wFn, wPar, wAsgT, wTup, wLst, wNewL, setIx_eq, setA, wM1, wI, wFor, bV, bNot, bAnd, bOr, fOp, fC, fV, fCons, fNil, fCall, fIsi, fAnd, fOr, fNot, chain_le, fTup, fLst, fIf, fFn, tgN, tgT, setAll, gI, gLen, gLe, gLt, gGe, gGt, LP.gSub, gMod, gFdiv, gPow, gPlus, gTimes, gIntA, gInt, gIsN, gIx, tyA, TN.sub, LP.dataOf, A.toD, viewL, viewQ, viewT, gEq_ii, gEq_ss, gEq_bb, gEq_nn, fSl, slV, oN, oS, iL, iR1, wFnM, gFdivW, tNot', tV, wFrz, fFld, fldV, gEither, gOwnIn, gOwnBin, gOwnEq, fIsiO, gIsiO, fProp, propV, fMeth, fMake, fMakeV, twoT, viewT, iZQ, iET, Option.bind_some, Option.map_some, Option.bind_none, Option.map_none, Option.bind, Option.map, List.getElem?_cons_zero, List.getElem?_cons_succ, List.getElem?_nil, List.set_cons_zero, List.set_cons_succ, List.set_nil, if_true, if_false, ↓reduceIte, Bool.not_true, Bool.not_false, decide_true, decide_false, Bool.false_eq_true, reduceCtorEq, true_and, false_and, and_true, and_false, not_true, not_false_eq_true, List.any_cons, List.any_nil, Bool.or_false, Bool.or_true, Bool.true_or, Bool.false_or, Bool.and_true, Bool.true_and, Bool.and_false, Bool.false_and, exists_eq_left, exists_eq_left', Option.some.injEq, A.d.injEq, D.int.injEq, D.bl.injEq, D.str.injEq, D.lst.injEq, D.tup.injEq, Except.ok.injEq, List.cons_append, List.nil_append, List.map_cons, List.map_nil, List.length_cons, List.length_nil, List.replicate, Nat.reduceSub, Nat.reduceAdd, List.append_nil, eq_self, or_true, true_or, or_false, false_or, Int.reduceNeg, Int.reducePow, Int.reduceLT, Int.reduceLE, List.length_set]
    refine ⟨k, m', base, rfl, get_eq hS, h4, fun p m2 hb2 hp => ⟨_, rfl, hk _ _ rfl ⟨ps ++ [p], m2, ?_, ?_, ?_, by rw [List.set_set], hb2⟩⟩⟩
    · rw [List.map_append]; rfl
    · intro q hq
      rcases List.mem_append.mp hq with hq | hq
      · exact h1 q hq
      · rw [List.mem_singleton] at hq; subst hq; exact near_okP b0 b1 hp
    · rw [List.length_cons] at h2
      rw [List.length_append, List.length_singleton]
      omega
  · rintro acc S' ⟨ps, m', rfl, h1, h2, rfl, h4⟩
    exact hQ ps m' h4 h1 (by simpa using h2)
/-- the error's attributes -/
theorem field_some {fs : List (Str × D)} {d : D} (h : G_field fs = some d) : ∃ (f x : Str) (y : D), fs = [(f, y), ("code", .str x)] ∧ (f, x) ∈ errL ∧ d = .tup [y] := by
  unfold G_field at h
  split at h
  · rename_i f y c x
    split at h
    · rename_i hh
      obtain ⟨rfl, hm⟩ := hh
      cases h
      exact ⟨f, x, y, rfl, hm, rfl⟩
    · cases h
  · cases h
theorem xf_code {a dx : Addr} {x1 : Option A} {f x : Str} {y : D} (hf : (("code" : Str) == f) = false) : fXf a dx (fV 0) "code" [some (.loc 0)] [.exo a dx [(f, y), ("code", .str x)]] = some (.d (.str x)) := by
  simp only [fXf, fV, List.getElem?_cons_zero, Option.bind_some, and_self, if_true, List.lookup_cons, hf, beq_self_eq_true, Option.map_some]
theorem xf_own {a dx : Addr} {f x : Str} {y : D} : fXf a dx (fV 0) f [some (.loc 0)] [.exo a dx [(f, y), ("code", .str x)]] = some (.d y) := by
  simp only [fXf, fV, List.getElem?_cons_zero, Option.bind_some, and_self, if_true, List.lookup_cons, beq_self_eq_true, Option.map_some]
theorem flat_strs (l : List Str) : (l.map D.str).all D.flat = true := by
  rw [List.all_eq_true]
  intro d hd
  obtain ⟨i, _, rfl⟩ := List.mem_map.mp hd
  rfl
theorem any_strs (n : Str) (l : List Str) : ((l.map D.str).any fun y => feq y (.str n)) = decide (n ∈ l) := by
  rw [List.any_map]
  induction l with
  | nil => simp
  | cons x l ih =>
    rw [List.any_cons, ih]
    by_cases h : x = n
    · subst h; simp [feq]
    · have : ¬ n = x := fun e => h e.symm
      simp [feq, h, this]
theorem in_strs (S : So) (n : Str) (l : List Str) : gInU false S (.d (.str n)) (.d (.tup (l.map .str))) = some (.bl (decide (n ∈ l))) := by
  simp only [gInU, gIn, viewQ, viewL, Option.bind_some, flat_strs, any_strs, D.flat, Bool.and_self, if_true, Bool.false_eq_true, if_false]
abbrev fT1 : List Str := ["InvalidSpan", "InvalidSeat", "InvalidRecord", "Clash", "Contradiction", "InvalidCommand"]
abbrev fT2 : List Str := ["DuplicateName", "NotAThing", "UnknownName"]
abbrev fT3 : List Str := ["TooMany", "Full"]
/-- which way a code goes -/
def way (x : Str) : Bool × Bool × Bool × Bool × Bool × Bool := (decide (x ∈ fT1), decide (x ∈ fT2), decide (x ∈ fT3), decide (x = "TooMany"), decide (x = "NothingLeft"), decide (x = "InvalidPage"))
def goesF (f x : Str) : Bool := match way x with
  | (true, _) => f == "at"
  | (false, true, _) => f == "name"
  | (false, false, true, true, _) => f == "most"
  | (false, false, true, false, _) => f == "limit"
  | (false, false, false, _, true, _) => false
  | (false, false, false, _, false, true) => f == "line"
  | (false, false, false, _, false, false) => f == "given"
theorem v_field (a dx : Addr) (fs : List (Str × D)) (d : D) (h : G_field fs = some d) : w_l_field a dx (stG N_l_field [.loc 0]) [.exo a dx fs] { nx := fun _ _ => False, rt := fun b _ => b = .d d, ex := fun _ _ => False } := by
  obtain ⟨f, x, y, rfl, hm, rfl⟩ := field_some h
  have hf : (("code" : Str) == f) = false := by
    have : ∀ q ∈ errL, (("code" : Str) == q.1) = false := by decide +kernel
    exact this _ hm
  have hg : goesF f x = true := by
    have : ∀ q ∈ errL, goesF q.1 q.2 = true := by decide +kernel
    exact this _ hm
  have hc := xf_code (a := a) (dx := dx) (x1 := none) (x := x) (y := y) hf
  have ho := xf_own (a := a) (dx := dx) (f := f) (x := x) (y := y)
  have i1 := fun S => in_strs S x fT1
  have i2 := fun S => in_strs S x fT2
  have i3 := fun S => in_strs S x fT3
  simp only [List.map_cons, List.map_nil, fT1, fT2, fT3] at i1 i2 i3
  unfold goesF way at hg
  simp only [fT1, fT2, fT3] at hg
  generalize decide (x ∈ (["InvalidSpan", "InvalidSeat", "InvalidRecord", "Clash", "Contradiction", "InvalidCommand"] : List Str)) = b1 at hg i1
  generalize decide (x ∈ (["DuplicateName", "NotAThing", "UnknownName"] : List Str)) = b2 at hg i2
  generalize decide (x ∈ (["TooMany", "Full"] : List Str)) = b3 at hg i3
  have e4 : ∀ S, gEqU false S (.d (.str x)) (.d (.str "TooMany")) = some (.bl (decide (x = "TooMany"))) := fun S => by simp only [stG, wSeq, wIf, wAsg, wRet, wRetN, wNext, wDrop, wP, wB, wPs, wCons, wNil, wOp, wFn, wPar, wAsgT, wTup, wLst, wNewL, setIx_eq, setA, wM1, wI, wFor, bV, bNot, bAnd, bOr, fOp, fC, fV, fCons, fNil, fCall, fIsi, fAnd, fOr, fNot, chain_le, fTup, fLst, fIf, fFn, tgN, tgT, setAll, gI, gLen, gLe, gLt, gGe, gGt, LP.gSub, gMod, gFdiv, gPow, gPlus, gTimes, gIntA, gInt, gIsN, gIx, tyA, TN.sub, LP.dataOf, A.toD, viewL, viewQ, viewT, gEq_ii, gEq_ss, gEq_bb, gEq_nn, fSl, slV, oN, oS, iL, iR1, wFnM, gFdivW, tNot', tV, wFrz, fFld, fldV, gEither, gOwnIn, gOwnBin, gOwnEq, fIsiO, gIsiO, fProp, propV, fMeth, fMake, fMakeV, twoT, viewT, iZQ, iET, Option.bind_some, Option.map_some, Option.bind_none, Option.map_none, Option.bind, Option.map, List.getElem?_cons_zero, List.getElem?_cons_succ, List.getElem?_nil, List.set_cons_zero, List.set_cons_succ, List.set_nil, if_true, if_false, ↓reduceIte, Bool.not_true, Bool.not_false, decide_true, decide_false, Bool.false_eq_true, reduceCtorEq, true_and, false_and, and_true, and_false, not_true, not_false_eq_true, List.any_cons, List.any_nil, Bool.or_false, Bool.or_true, Bool.true_or, Bool.false_or, Bool.and_true, Bool.true_and, Bool.and_false, Bool.false_and, exists_eq_left, exists_eq_left', Option.some.injEq, A.d.injEq, D.int.injEq, D.bl.injEq, D.str.injEq, D.lst.injEq, D.tup.injEq, Except.ok.injEq, List.cons_append, List.nil_append, List.map_cons, List.map_nil, List.length_cons, List.length_nil, List.replicate, Nat.reduceSub, Nat.reduceAdd, List.append_nil, eq_self, or_true, true_or, or_false, false_or, Int.reduceNeg, Int.reducePow, Int.reduceLT, Int.reduceLE, List.length_set]
  have e5 : ∀ S, gEqU false S (.d (.str x)) (.d (.str "NothingLeft")) = some (.bl (decide (x = "NothingLeft"))) := fun S => by simp only [stG, wSeq, wIf, wAsg, wRet, wRetN, wNext, wDrop, wP, wB, wPs, wCons, wNil, wOp, wFn, wPar, wAsgT, wTup, wLst, wNewL, setIx_eq, setA, wM1, wI, wFor, bV, bNot, bAnd, bOr, fOp, fC, fV, fCons, fNil, fCall, fIsi, fAnd, fOr, fNot, chain_le, fTup, fLst, fIf, fFn, tgN, tgT, setAll, gI, gLen, gLe, gLt, gGe, gGt, LP.gSub, gMod, gFdiv, gPow, gPlus, gTimes, gIntA, gInt, gIsN, gIx, tyA, TN.sub, LP.dataOf, A.toD, viewL, viewQ, viewT, gEq_ii, gEq_ss, gEq_bb, gEq_nn, fSl, slV, oN, oS, iL, iR1, wFnM, gFdivW, tNot', tV, wFrz, fFld, fldV, gEither, gOwnIn, gOwnBin, gOwnEq, fIsiO, gIsiO, fProp, propV, fMeth, fMake, fMakeV, twoT, viewT, iZQ, iET, Option.bind_some, Option.map_some, Option.bind_none, Option.map_none, Option.bind, Option.map, List.getElem?_cons_zero, List.getElem?_cons_succ, List.getElem?_nil, List.set_cons_zero, List.set_cons_succ, List.set_nil, if_true, if_false, ↓reduceIte, Bool.not_true, Bool.not_false, decide_true, decide_false, Bool.false_eq_true, reduceCtorEq, true_and, false_and, and_true, and_false, not_true, not_false_eq_true, List.any_cons, List.any_nil, Bool.or_false, Bool.or_true, Bool.true_or, Bool.false_or, Bool.and_true, Bool.true_and, Bool.and_false, Bool.false_and, exists_eq_left, exists_eq_left', Option.some.injEq, A.d.injEq, D.int.injEq, D.bl.injEq, D.str.injEq, D.lst.injEq, D.tup.injEq, Except.ok.injEq, List.cons_append, List.nil_append, List.map_cons, List.map_nil, List.length_cons, List.length_nil, List.replicate, Nat.reduceSub, Nat.reduceAdd, List.append_nil, eq_self, or_true, true_or, or_false, false_or, Int.reduceNeg, Int.reducePow, Int.reduceLT, Int.reduceLE, List.length_set]
  have e6 : ∀ S, gEqU false S (.d (.str x)) (.d (.str "InvalidPage")) = some (.bl (decide (x = "InvalidPage"))) := fun S => by simp only [stG, wSeq, wIf, wAsg, wRet, wRetN, wNext, wDrop, wP, wB, wPs, wCons, wNil, wOp, wFn, wPar, wAsgT, wTup, wLst, wNewL, setIx_eq, setA, wM1, wI, wFor, bV, bNot, bAnd, bOr, fOp, fC, fV, fCons, fNil, fCall, fIsi, fAnd, fOr, fNot, chain_le, fTup, fLst, fIf, fFn, tgN, tgT, setAll, gI, gLen, gLe, gLt, gGe, gGt, LP.gSub, gMod, gFdiv, gPow, gPlus, gTimes, gIntA, gInt, gIsN, gIx, tyA, TN.sub, LP.dataOf, A.toD, viewL, viewQ, viewT, gEq_ii, gEq_ss, gEq_bb, gEq_nn, fSl, slV, oN, oS, iL, iR1, wFnM, gFdivW, tNot', tV, wFrz, fFld, fldV, gEither, gOwnIn, gOwnBin, gOwnEq, fIsiO, gIsiO, fProp, propV, fMeth, fMake, fMakeV, twoT, viewT, iZQ, iET, Option.bind_some, Option.map_some, Option.bind_none, Option.map_none, Option.bind, Option.map, List.getElem?_cons_zero, List.getElem?_cons_succ, List.getElem?_nil, List.set_cons_zero, List.set_cons_succ, List.set_nil, if_true, if_false, ↓reduceIte, Bool.not_true, Bool.not_false, decide_true, decide_false, Bool.false_eq_true, reduceCtorEq, true_and, false_and, and_true, and_false, not_true, not_false_eq_true, List.any_cons, List.any_nil, Bool.or_false, Bool.or_true, Bool.true_or, Bool.false_or, Bool.and_true, Bool.true_and, Bool.and_false, Bool.false_and, exists_eq_left, exists_eq_left', Option.some.injEq, A.d.injEq, D.int.injEq, D.bl.injEq, D.str.injEq, D.lst.injEq, D.tup.injEq, Except.ok.injEq, List.cons_append, List.nil_append, List.map_cons, List.map_nil, List.length_cons, List.length_nil, List.replicate, Nat.reduceSub, Nat.reduceAdd, List.append_nil, eq_self, or_true, true_or, or_false, false_or, Int.reduceNeg, Int.reducePow, Int.reduceLT, Int.reduceLE, List.length_set]
  generalize decide (x = "TooMany") = b4 at hg e4
  generalize decide (x = "NothingLeft") = b5 at hg e5
  generalize decide (x = "InvalidPage") = b6 at hg e6
  cases b1 with
  | true => obtain rfl := beq_iff_eq.mp hg; simp only [w_l_field_0, N_l_field, hc, i1, ho, stG, wSeq, wIf, wAsg, wRet, wRetN, wNext, wDrop, wP, wB, wPs, wCons, wNil, wOp, wFn, wPar, wAsgT, wTup, wLst, wNewL, setIx_eq, setA, wM1, wI, wFor, bV, bNot, bAnd, bOr, fOp, fC, fV, fCons, fNil, fCall, fIsi, fAnd, fOr, fNot, chain_le, fTup, fLst, fIf, fFn, tgN, tgT, setAll, gI, gLen, gLe, gLt, gGe, gGt, LP.gSub, gMod, gFdiv, gPow, gPlus, gTimes, gIntA, gInt, gIsN, gIx, tyA, TN.sub, LP.dataOf, A.toD, viewL, viewQ, viewT, gEq_ii, gEq_ss, gEq_bb, gEq_nn, fSl, slV, oN, oS, iL, iR1, wFnM, gFdivW, tNot', tV, wFrz, fFld, fldV, gEither, gOwnIn, gOwnBin, gOwnEq, fIsiO, gIsiO, fProp, propV, fMeth, fMake, fMakeV, twoT, viewT, iZQ, iET, Option.bind_some, Option.map_some, Option.bind_none, Option.map_none, Option.bind, Option.map, List.getElem?_cons_zero, List.getElem?_cons_succ, List.getElem?_nil, List.set_cons_zero, List.set_cons_succ, List.set_nil, if_true, if_false, ↓reduceIte, Bool.not_true, Bool.not_false, decide_true, decide_false, Bool.false_eq_true, reduceCtorEq, true_and, false_and, and_true, and_false, not_true, not_false_eq_true, List.any_cons, List.any_nil, Bool.or_false, Bool.or_true, Bool.true_or, Bool.false_or, Bool.and_true, Bool.true_and, Bool.and_false, Bool.false_and, exists_eq_left, exists_eq_left', Option.some.injEq, A.d.injEq, D.int.injEq, D.bl.injEq, D.str.injEq, D.lst.injEq, D.tup.injEq, Except.ok.injEq, List.cons_append, List.nil_append, List.map_cons, List.map_nil, List.length_cons, List.length_nil, List.replicate, Nat.reduceSub, Nat.reduceAdd, List.append_nil, eq_self, or_true, true_or, or_false, false_or, Int.reduceNeg, Int.reducePow, Int.reduceLT, Int.reduceLE, List.length_set]
  | false =>
    cases b2 with
    | true => obtain rfl := beq_iff_eq.mp hg; simp only [w_l_field_0, w_l_field_1, N_l_field, hc, i1, i2, ho, stG, wSeq, wIf, wAsg, wRet, wRetN, wNext, wDrop, wP, wB, wPs, wCons, wNil, wOp, wFn, wPar, wAsgT, wTup, wLst, wNewL, setIx_eq, setA, wM1, wI, wFor, bV, bNot, bAnd, bOr, fOp, fC, fV, fCons, fNil, fCall, fIsi, fAnd, fOr, fNot, chain_le, fTup, fLst, fIf, fFn, tgN, tgT, setAll, gI, gLen, gLe, gLt, gGe, gGt, LP.gSub, gMod, gFdiv, gPow, gPlus, gTimes, gIntA, gInt, gIsN, gIx, tyA, TN.sub, LP.dataOf, A.toD, viewL, viewQ, viewT, gEq_ii, gEq_ss, gEq_bb, gEq_nn, fSl, slV, oN, oS, iL, iR1, wFnM, gFdivW, tNot', tV, wFrz, fFld, fldV, gEither, gOwnIn, gOwnBin, gOwnEq, fIsiO, gIsiO, fProp, propV, fMeth, fMake, fMakeV, twoT, viewT, iZQ, iET, Option.bind_some, Option.map_some, Option.bind_none, Option.map_none, Option.bind, Option.map, List.getElem?_cons_zero, List.getElem?_cons_succ, List.getElem?_nil, List.set_cons_zero, List.set_cons_succ, List.set_nil, if_true, if_false, ↓reduceIte, Bool.not_true, Bool.not_false, decide_true, decide_false, Bool.false_eq_true, reduceCtorEq, true_and, false_and, and_true, and_false, not_true, not_false_eq_true, List.any_cons, List.any_nil, Bool.or_false, Bool.or_true, Bool.true_or, Bool.false_or, Bool.and_true, Bool.true_and, Bool.and_false, Bool.false_and, exists_eq_left, exists_eq_left', Option.some.injEq, A.d.injEq, D.int.injEq, D.bl.injEq, D.str.injEq, D.lst.injEq, D.tup.injEq, Except.ok.injEq, List.cons_append, List.nil_append, List.map_cons, List.map_nil, List.length_cons, List.length_nil, List.replicate, Nat.reduceSub, Nat.reduceAdd, List.append_nil, eq_self, or_true, true_or, or_false, false_or, Int.reduceNeg, Int.reducePow, Int.reduceLT, Int.reduceLE, List.length_set]
    | false =>
      cases b3 with
      | true =>
        cases b4 with
        | true => obtain rfl := beq_iff_eq.mp hg; simp only [w_l_field_0, w_l_field_1, w_l_field_2, N_l_field, hc, i1, i2, i3, e4, ho, stG, wSeq, wIf, wAsg, wRet, wRetN, wNext, wDrop, wP, wB, wPs, wCons, wNil, wOp, wFn, wPar, wAsgT, wTup, wLst, wNewL, setIx_eq, setA, wM1, wI, wFor, bV, bNot, bAnd, bOr, fOp, fC, fV, fCons, fNil, fCall, fIsi, fAnd, fOr, fNot, chain_le, fTup, fLst, fIf, fFn, tgN, tgT, setAll, gI, gLen, gLe, gLt, gGe, gGt, LP.gSub, gMod, gFdiv, gPow, gPlus, gTimes, gIntA, gInt, gIsN, gIx, tyA, TN.sub, LP.dataOf, A.toD, viewL, viewQ, viewT, gEq_ii, gEq_ss, gEq_bb, gEq_nn, fSl, slV, oN, oS, iL, iR1, wFnM, gFdivW, tNot', tV, wFrz, fFld, fldV, gEither, gOwnIn, gOwnBin, gOwnEq, fIsiO, gIsiO, fProp, propV, fMeth, fMake, fMakeV, twoT, viewT, iZQ, iET, Option.bind_some, Option.map_some, Option.bind_none, Option.map_none, Option.bind, Option.map, List.getElem?_cons_zero, List.getElem?_cons_succ, List.getElem?_nil, List.set_cons_zero, List.set_cons_succ, List.set_nil, if_true, if_false, ↓reduceIte, Bool.not_true, Bool.not_false, decide_true, decide_false, Bool.false_eq_true, reduceCtorEq, true_and, false_and, and_true, and_false, not_true, not_false_eq_true, List.any_cons, List.any_nil, Bool.or_false, Bool.or_true, Bool.true_or, Bool.false_or, Bool.and_true, Bool.true_and, Bool.and_false, Bool.false_and, exists_eq_left, exists_eq_left', Option.some.injEq, A.d.injEq, D.int.injEq, D.bl.injEq, D.str.injEq, D.lst.injEq, D.tup.injEq, Except.ok.injEq, List.cons_append, List.nil_append, List.map_cons, List.map_nil, List.length_cons, List.length_nil, List.replicate, Nat.reduceSub, Nat.reduceAdd, List.append_nil, eq_self, or_true, true_or, or_false, false_or, Int.reduceNeg, Int.reducePow, Int.reduceLT, Int.reduceLE, List.length_set]
        | false => obtain rfl := beq_iff_eq.mp hg; simp only [w_l_field_0, w_l_field_1, w_l_field_2, N_l_field, hc, i1, i2, i3, e4, ho, stG, wSeq, wIf, wAsg, wRet, wRetN, wNext, wDrop, wP, wB, wPs, wCons, wNil, wOp, wFn, wPar, wAsgT, wTup, wLst, wNewL, setIx_eq, setA, wM1, wI, wFor, bV, bNot, bAnd, bOr, fOp, fC, fV, fCons, fNil, fCall, fIsi, fAnd, fOr, fNot, chain_le, fTup, fLst, fIf, fFn, tgN, tgT, setAll, gI, gLen, gLe, gLt, gGe, gGt, LP.gSub, gMod, gFdiv, gPow, gPlus, gTimes, gIntA, gInt, gIsN, gIx, tyA, TN.sub, LP.dataOf, A.toD, viewL, viewQ, viewT, gEq_ii, gEq_ss, gEq_bb, gEq_nn, fSl, slV, oN, oS, iL, iR1, wFnM, gFdivW, tNot', tV, wFrz, fFld, fldV, gEither, gOwnIn, gOwnBin, gOwnEq, fIsiO, gIsiO, fProp, propV, fMeth, fMake, fMakeV, twoT, viewT, iZQ, iET, Option.bind_some, Option.map_some, Option.bind_none, Option.map_none, Option.bind, Option.map, List.getElem?_cons_zero, List.getElem?_cons_succ, List.getElem?_nil, List.set_cons_zero, List.set_cons_succ, List.set_nil, if_true, if_false, ↓reduceIte, Bool.not_true, Bool.not_false, decide_true, decide_false, Bool.false_eq_true, reduceCtorEq, true_and, false_and, and_true, and_false, not_true, not_false_eq_true, List.any_cons, List.any_nil, Bool.or_false, Bool.or_true, Bool.true_or, Bool.false_or, Bool.and_true, Bool.true_and, Bool.and_false, Bool.false_and, exists_eq_left, exists_eq_left', Option.some.injEq, A.d.injEq, D.int.injEq, D.bl.injEq, D.str.injEq, D.lst.injEq, D.tup.injEq, Except.ok.injEq, List.cons_append, List.nil_append, List.map_cons, List.map_nil, List.length_cons, List.length_nil, List.replicate, Nat.reduceSub, Nat.reduceAdd, List.append_nil, eq_self, or_true, true_or, or_false, false_or, Int.reduceNeg, Int.reducePow, Int.reduceLT, Int.reduceLE, List.length_set]
      | false =>
        cases b5 with
        | true => cases b4 <;> cases hg
        | false =>
          cases b6 with
          | true => obtain rfl := beq_iff_eq.mp (show (f == "line") = true by cases b4 <;> exact hg); simp only [w_l_field_0, w_l_field_1, w_l_field_2, w_l_field_3, w_l_field_4, N_l_field, hc, i1, i2, i3, e5, e6, ho, stG, wSeq, wIf, wAsg, wRet, wRetN, wNext, wDrop, wP, wB, wPs, wCons, wNil, wOp, wFn, wPar, wAsgT, wTup, wLst, wNewL, setIx_eq, setA, wM1, wI, wFor, bV, bNot, bAnd, bOr, fOp, fC, fV, fCons, fNil, fCall, fIsi, fAnd, fOr, fNot, chain_le, fTup, fLst, fIf, fFn, tgN, tgT, setAll, gI, gLen, gLe, gLt, gGe, gGt, LP.gSub, gMod, gFdiv, gPow, gPlus, gTimes, gIntA, gInt, gIsN, gIx, tyA, TN.sub, LP.dataOf, A.toD, viewL, viewQ, viewT, gEq_ii, gEq_ss, gEq_bb, gEq_nn, fSl, slV, oN, oS, iL, iR1, wFnM, gFdivW, tNot', tV, wFrz, fFld, fldV, gEither, gOwnIn, gOwnBin, gOwnEq, fIsiO, gIsiO, fProp, propV, fMeth, fMake, fMakeV, twoT, viewT, iZQ, iET, Option.bind_some, Option.map_some, Option.bind_none, Option.map_none, Option.bind, Option.map, List.getElem?_cons_zero, List.getElem?_cons_succ, List.getElem?_nil, List.set_cons_zero, List.set_cons_succ, List.set_nil, if_true, if_false, ↓reduceIte, Bool.not_true, Bool.not_false, decide_true, decide_false, Bool.false_eq_true, reduceCtorEq, true_and, false_and, and_true, and_false, not_true, not_false_eq_true, List.any_cons, List.any_nil, Bool.or_false, Bool.or_true, Bool.true_or, Bool.false_or, Bool.and_true, Bool.true_and, Bool.and_false, Bool.false_and, exists_eq_left, exists_eq_left', Option.some.injEq, A.d.injEq, D.int.injEq, D.bl.injEq, D.str.injEq, D.lst.injEq, D.tup.injEq, Except.ok.injEq, List.cons_append, List.nil_append, List.map_cons, List.map_nil, List.length_cons, List.length_nil, List.replicate, Nat.reduceSub, Nat.reduceAdd, List.append_nil, eq_self, or_true, true_or, or_false, false_or, Int.reduceNeg, Int.reducePow, Int.reduceLT, Int.reduceLE, List.length_set]
          | false => obtain rfl := beq_iff_eq.mp (show (f == "given") = true by cases b4 <;> exact hg); simp only [w_l_field_0, w_l_field_1, w_l_field_2, w_l_field_3, w_l_field_4, N_l_field, hc, i1, i2, i3, e5, e6, ho, stG, wSeq, wIf, wAsg, wRet, wRetN, wNext, wDrop, wP, wB, wPs, wCons, wNil, wOp, wFn, wPar, wAsgT, wTup, wLst, wNewL, setIx_eq, setA, wM1, wI, wFor, bV, bNot, bAnd, bOr, fOp, fC, fV, fCons, fNil, fCall, fIsi, fAnd, fOr, fNot, chain_le, fTup, fLst, fIf, fFn, tgN, tgT, setAll, gI, gLen, gLe, gLt, gGe, gGt, LP.gSub, gMod, gFdiv, gPow, gPlus, gTimes, gIntA, gInt, gIsN, gIx, tyA, TN.sub, LP.dataOf, A.toD, viewL, viewQ, viewT, gEq_ii, gEq_ss, gEq_bb, gEq_nn, fSl, slV, oN, oS, iL, iR1, wFnM, gFdivW, tNot', tV, wFrz, fFld, fldV, gEither, gOwnIn, gOwnBin, gOwnEq, fIsiO, gIsiO, fProp, propV, fMeth, fMake, fMakeV, twoT, viewT, iZQ, iET, Option.bind_some, Option.map_some, Option.bind_none, Option.map_none, Option.bind, Option.map, List.getElem?_cons_zero, List.getElem?_cons_succ, List.getElem?_nil, List.set_cons_zero, List.set_cons_succ, List.set_nil, if_true, if_false, ↓reduceIte, Bool.not_true, Bool.not_false, decide_true, decide_false, Bool.false_eq_true, reduceCtorEq, true_and, false_and, and_true, and_false, not_true, not_false_eq_true, List.any_cons, List.any_nil, Bool.or_false, Bool.or_true, Bool.true_or, Bool.false_or, Bool.and_true, Bool.true_and, Bool.and_false, Bool.false_and, exists_eq_left, exists_eq_left', Option.some.injEq, A.d.injEq, D.int.injEq, D.bl.injEq, D.str.injEq, D.lst.injEq, D.tup.injEq, Except.ok.injEq, List.cons_append, List.nil_append, List.map_cons, List.map_nil, List.length_cons, List.length_nil, List.replicate, Nat.reduceSub, Nat.reduceAdd, List.append_nil, eq_self, or_true, true_or, or_false, false_or, Int.reduceNeg, Int.reducePow, Int.reduceLT, Int.reduceLE, List.length_set]
theorem flat4_len (l : List PZ) : (l.flatMap fun p => [p.1 - 1, p.1, p.2, p.2 + 1]).length = 4 * l.length := by
  induction l with
  | nil => rfl
  | cons p l ih => rw [List.flatMap_cons, List.length_append, ih, List.length_cons, List.length_cons, List.length_cons, List.length_cons, List.length_cons, List.length_nil]; omega
theorem v_near (ds : List D) (o : Except Er D) (h : G_near ds = some o) : w_l_near (stG N_l_near (ds.map A.d)) [] (dnP o) := by
  unfold G_near at h
  split at h
  · rename_i l
    cases e : spansOf (.lst l) with
    | none => rw [e] at h; cases h
    | some ps =>
      rw [e, Option.bind_some] at h
      split at h
      · rename_i hl
        cases h
        obtain ⟨h1, h2⟩ := spansOf_some e
        have h1' : l = ps.map pzD := by rcases h1 with h1 | h1 <;> cases h1; rfl
        subst h1'
        clear e
        have p18 : (10 : Int) ^ Int.toNat 18 = 1000000000000000000 := by decide
        simp only [w_l_near_0, N_l_near, n10, p18, stG, wSeq, wIf, wAsg, wRet, wRetN, wNext, wDrop, wP, wB, wPs, wCons, wNil, wOp, wFn, wPar, wAsgT, wTup, wLst, wNewL, setIx_eq, setA, wM1, wI, wFor, bV, bNot, bAnd, bOr, fOp, fC, fV, fCons, fNil, fCall, fIsi, fAnd, fOr, fNot, chain_le, fTup, fLst, fIf, fFn, tgN, tgT, setAll, gI, gLen, gLe, gLt, gGe, gGt, LP.gSub, gMod, gFdiv, gPow, gPlus, gTimes, gIntA, gInt, gIsN, gIx, tyA, TN.sub, LP.dataOf, A.toD, viewL, viewQ, viewT, gEq_ii, gEq_ss, gEq_bb, gEq_nn, fSl, slV, oN, oS, iL, iR1, wFnM, gFdivW, tNot', tV, wFrz, fFld, fldV, gEither, gOwnIn, gOwnBin, gOwnEq, fIsiO, gIsiO, fProp, propV, fMeth, fMake, fMakeV, twoT, viewT, iZQ, iET, Option.bind_some, Option.map_some, Option.bind_none, Option.map_none, Option.bind, Option.map, List.getElem?_cons_zero, List.getElem?_cons_succ, List.getElem?_nil, List.set_cons_zero, List.set_cons_succ, List.set_nil, if_true, if_false, ↓reduceIte, Bool.not_true, Bool.not_false, decide_true, decide_false, Bool.false_eq_true, reduceCtorEq, true_and, false_and, and_true, and_false, not_true, not_false_eq_true, List.any_cons, List.any_nil, Bool.or_false, Bool.or_true, Bool.true_or, Bool.false_or, Bool.and_true, Bool.true_and, Bool.and_false, Bool.false_and, exists_eq_left, exists_eq_left', Option.some.injEq, A.d.injEq, D.int.injEq, D.bl.injEq, D.str.injEq, D.lst.injEq, D.tup.injEq, Except.ok.injEq, List.cons_append, List.nil_append, List.map_cons, List.map_nil, List.length_cons, List.length_nil, List.replicate, Nat.reduceSub, Nat.reduceAdd, List.append_nil, eq_self, or_true, true_or, or_false, false_or, Int.reduceNeg, Int.reducePow, Int.reduceLT, Int.reduceLE, List.length_set]
        simp only [w_l_near_1, wSeq, wFor, wI, stG, wSeq, wIf, wAsg, wRet, wRetN, wNext, wDrop, wP, wB, wPs, wCons, wNil, wOp, wFn, wPar, wAsgT, wTup, wLst, wNewL, setIx_eq, setA, wM1, wI, wFor, bV, bNot, bAnd, bOr, fOp, fC, fV, fCons, fNil, fCall, fIsi, fAnd, fOr, fNot, chain_le, fTup, fLst, fIf, fFn, tgN, tgT, setAll, gI, gLen, gLe, gLt, gGe, gGt, LP.gSub, gMod, gFdiv, gPow, gPlus, gTimes, gIntA, gInt, gIsN, gIx, tyA, TN.sub, LP.dataOf, A.toD, viewQ, viewT, gEq_ii, gEq_ss, gEq_bb, gEq_nn, fSl, slV, oN, oS, iL, iR1, wFnM, gFdivW, tNot', tV, wFrz, fFld, fldV, gEither, gOwnIn, gOwnBin, gOwnEq, fIsiO, gIsiO, fProp, propV, fMeth, fMake, fMakeV, twoT, viewT, iZQ, iET, Option.bind_some, Option.map_some, Option.bind_none, Option.map_none, Option.bind, Option.map, List.getElem?_cons_zero, List.getElem?_cons_succ, List.getElem?_nil, List.set_cons_zero, List.set_cons_succ, List.set_nil, if_true, if_false, ↓reduceIte, Bool.not_true, Bool.not_false, decide_true, decide_false, Bool.false_eq_true, reduceCtorEq, true_and, false_and, and_true, and_false, not_true, not_false_eq_true, List.any_cons, List.any_nil, Bool.or_false, Bool.or_true, Bool.true_or, Bool.false_or, Bool.and_true, Bool.true_and, Bool.and_false, Bool.false_and, exists_eq_left, exists_eq_left', Option.some.injEq, A.d.injEq, D.int.injEq, D.bl.injEq, D.str.injEq, D.lst.injEq, D.tup.injEq, Except.ok.injEq, List.cons_append, List.nil_append, List.map_cons, List.map_nil, List.length_cons, List.length_nil, List.replicate, Nat.reduceSub, Nat.reduceAdd, List.append_nil, eq_self, or_true, true_or, or_false, false_or, Int.reduceNeg, Int.reducePow, Int.reduceLT, Int.reduceLE, List.length_set]
        refine ⟨_, _, rfl, rfl, ?_⟩
        refine loop_inv (fun r Γ S' => ∃ (done rest : List PZ) (x2 x3 : Option A), ps = done ++ rest ∧ r = rest.map pzD ∧ S' = [] ∧ Γ = [some (.d (.lst (ps.map pzD))), some (.d (.lst (((0 : Int) :: GR :: done.flatMap fun p => [p.1 - 1, p.1, p.2, p.2 + 1]).map D.int))), x2, x3, none]) ?_ ?_ _ _ _ ⟨[], ps, none, none, rfl, rfl, rfl, rfl⟩
        · rintro d r Γ S' nx ⟨done, rest, x2, x3, hps, hr, rfl, rfl⟩ hnx
          cases rest with
          | nil => cases hr
          | cons p rest =>
            cases hr
            refine ⟨_, rfl, ?_⟩
            have hlen : done.length ≤ 3 := by
              have := congrArg List.length hps
              rw [List.length_append, List.length_cons] at this
              omega
            have hc : ∀ S, gPlus S (.d (.lst (((0 : Int) :: GR :: done.flatMap fun p => [p.1 - 1, p.1, p.2, p.2 + 1]).map D.int))) (.d (.lst [.int (p.1 - 1), .int p.1, .int p.2, .int (p.2 + 1)])) = some (.lst (((0 : Int) :: GR :: (done ++ [p]).flatMap fun p => [p.1 - 1, p.1, p.2, p.2 + 1]).map D.int)) := by
              intro S
              have hf := flat4_len done
              show gCat S _ _ = _
              rw [cat_ok (by rw [List.length_map]; simp only [List.length_cons, List.length_nil]; omega)]
              simp only [List.flatMap_append, List.map_append, List.map_cons, List.flatMap_cons, List.flatMap_nil, List.append_nil, List.cons_append, List.map_nil, List.nil_append]
            have a1 : ∀ S (x y : Int), gPlus S (.d (.int x)) (.d (.int y)) = some (.int (x + y)) := fun _ _ _ => rfl
            generalize hG : (((0 : Int) :: GR :: done.flatMap fun p => [p.1 - 1, p.1, p.2, p.2 + 1]).map D.int) = G1 at hc
            simp only [w_l_near_for1_0, pzD, hc, a1, stG, wSeq, wIf, wAsg, wRet, wRetN, wNext, wDrop, wP, wB, wPs, wCons, wNil, wOp, wFn, wPar, wAsgT, wTup, wLst, wNewL, setIx_eq, setA, wM1, wI, wFor, bV, bNot, bAnd, bOr, fOp, fC, fV, fCons, fNil, fCall, fIsi, fAnd, fOr, fNot, chain_le, fTup, fLst, fIf, fFn, tgN, tgT, setAll, gI, gLen, gLe, gLt, gGe, gGt, LP.gSub, gMod, gFdiv, gPow, gTimes, gIntA, gInt, gIsN, gIx, tyA, TN.sub, LP.dataOf, A.toD, viewL, viewQ, viewT, gEq_ii, gEq_ss, gEq_bb, gEq_nn, fSl, slV, oN, oS, iL, iR1, wFnM, gFdivW, tNot', tV, wFrz, fFld, fldV, gEither, gOwnIn, gOwnBin, gOwnEq, fIsiO, gIsiO, fProp, propV, fMeth, fMake, fMakeV, twoT, viewT, iZQ, iET, Option.bind_some, Option.map_some, Option.bind_none, Option.map_none, Option.bind, Option.map, List.getElem?_cons_zero, List.getElem?_cons_succ, List.getElem?_nil, List.set_cons_zero, List.set_cons_succ, List.set_nil, if_true, if_false, ↓reduceIte, Bool.not_true, Bool.not_false, decide_true, decide_false, Bool.false_eq_true, reduceCtorEq, true_and, false_and, and_true, and_false, not_true, not_false_eq_true, List.any_cons, List.any_nil, Bool.or_false, Bool.or_true, Bool.true_or, Bool.false_or, Bool.and_true, Bool.true_and, Bool.and_false, Bool.false_and, exists_eq_left, exists_eq_left', Option.some.injEq, A.d.injEq, D.int.injEq, D.bl.injEq, D.str.injEq, D.lst.injEq, D.tup.injEq, Except.ok.injEq, List.cons_append, List.nil_append, List.map_cons, List.map_nil, List.length_cons, List.length_nil, List.replicate, Nat.reduceSub, Nat.reduceAdd, List.append_nil, eq_self, or_true, true_or, or_false, false_or, Int.reduceNeg, Int.reducePow, Int.reduceLT, Int.reduceLE, List.length_set]
            exact hnx _ _ rfl ⟨done ++ [p], rest, _, _, by rw [hps, List.append_assoc]; rfl, rfl, rfl, rfl⟩
        · rintro Γ S' ⟨done, rest, x2, x3, hps, hr, rfl, rfl⟩
          cases rest with
          | cons p rest => cases hr
          | nil =>
            rw [List.append_nil] at hps
            subst hps
            have c : ∀ x2 x3, fComp (iL (fV 1)) (tgN 4) [4] (bV (fChain gLe gLt (fC (.int 0)) (fV 4) (fOp gPow (fC (.int 10)) (fC (.int 18))))) (fV 4) [some (.d (.lst (ps.map pzD))), some (.d (.lst (((0 : Int) :: GR :: ps.flatMap fun p => [p.1 - 1, p.1, p.2, p.2 + 1]).map D.int))), x2, x3, none] [] = some (.d (.lst ((nearL ps).map .int))) := by
              intro x2 x3
              unfold nearL
              have pw : ∀ (Γ : Ga) (S : So), fOp gPow (fC (.int 10)) (fC (.int 18)) Γ S = some (.d (.int 1000000000000000000)) := fun _ _ => by simp only [n10, p18, stG, wSeq, wIf, wAsg, wRet, wRetN, wNext, wDrop, wP, wB, wPs, wCons, wNil, wOp, wFn, wPar, wAsgT, wTup, wLst, wNewL, setIx_eq, setA, wM1, wI, wFor, bV, bNot, bAnd, bOr, fOp, fC, fV, fCons, fNil, fCall, fIsi, fAnd, fOr, fNot, chain_le, fTup, fLst, fIf, fFn, tgN, tgT, setAll, gI, gLen, gLe, gLt, gGe, gGt, LP.gSub, gMod, gFdiv, gPow, gPlus, gTimes, gIntA, gInt, gIsN, gIx, tyA, TN.sub, LP.dataOf, A.toD, viewL, viewQ, viewT, gEq_ii, gEq_ss, gEq_bb, gEq_nn, fSl, slV, oN, oS, iL, iR1, wFnM, gFdivW, tNot', tV, wFrz, fFld, fldV, gEither, gOwnIn, gOwnBin, gOwnEq, fIsiO, gIsiO, fProp, propV, fMeth, fMake, fMakeV, twoT, viewT, iZQ, iET, Option.bind_some, Option.map_some, Option.bind_none, Option.map_none, Option.bind, Option.map, List.getElem?_cons_zero, List.getElem?_cons_succ, List.getElem?_nil, List.set_cons_zero, List.set_cons_succ, List.set_nil, if_true, if_false, ↓reduceIte, Bool.not_true, Bool.not_false, decide_true, decide_false, Bool.false_eq_true, reduceCtorEq, true_and, false_and, and_true, and_false, not_true, not_false_eq_true, List.any_cons, List.any_nil, Bool.or_false, Bool.or_true, Bool.true_or, Bool.false_or, Bool.and_true, Bool.true_and, Bool.and_false, Bool.false_and, exists_eq_left, exists_eq_left', Option.some.injEq, A.d.injEq, D.int.injEq, D.bl.injEq, D.str.injEq, D.lst.injEq, D.tup.injEq, Except.ok.injEq, List.cons_append, List.nil_append, List.map_cons, List.map_nil, List.length_cons, List.length_nil, List.replicate, Nat.reduceSub, Nat.reduceAdd, List.append_nil, eq_self, or_true, true_or, or_false, false_or, Int.reduceNeg, Int.reducePow, Int.reduceLT, Int.reduceLE, List.length_set]
              refine comp_filter (g := D.int) (it := fun S => viewL S (.d (.lst (((0 : Int) :: GR :: ps.flatMap fun p => [p.1 - 1, p.1, p.2, p.2 + 1]).map D.int)))) rfl rfl fun x hx => ?_
              by_cases h1 : 0 ≤ x
              · by_cases h2 : x < 1000000000000000000
                · have h3 : x ≤ GR := by unfold GR; omega
                  simp [eltF, wipeG, h1, h2, h3, pw, fChain, gLe, gLt, gI, bV, fC, fV, tgN, A.toD]
                · have h3 : ¬ x ≤ GR := by unfold GR; omega
                  simp [eltF, wipeG, h1, h2, h3, pw, fChain, gLe, gLt, gI, bV, fC, fV, tgN, A.toD]
              · simp [eltF, wipeG, h1, pw, fChain, gLe, gLt, gI, bV, fC, fV, tgN, A.toD]
            show w_l_near_2 _ _ _
            exact ⟨_, c _ _, _, rfl, rfl⟩
      · cases h
  · cases h
end K
set_option maxHeartbeats 4000000
namespace K
open PySem PySem.Spec PyProof.Rows L2 LP
theorem same_ok {n : Nat} {x y : D} (h : x = y) (hs : D.sam n x = true) : G_same n [x, y] = some (.ok (.bl true)) := by
  subst h
  simp only [G_same, hs, and_self, if_true]
theorem whys_er {cs : List Nat} {G : FieldC} {k1 k2 : Nat} {w : WE} {ws : List WE} {acc : List D} {Γ : Ga} {S : So} {Q : AK} {er : Er} {t : D} (h : ∀ E K, E er S → w Γ S E K) (hc : er.c ∈ cs) (ht : whyT G er = some t) (hn : whysL cs G k1 k2 ws (acc ++ [t]) Γ S Q) : whysL cs G k1 k2 (w :: ws) acc Γ S Q :=
  fun K hK => h _ _ ⟨hc, t, ht, hK t S rfl rfl hn⟩
theorem whys_ok {cs : List Nat} {G : FieldC} {k1 k2 : Nat} {w : WE} {ws : List WE} {acc : List D} {Γ : Ga} {S : So} {Q : AK} {d : D} (h : ∀ E K, K (.d d) S → w Γ S E K) (hn : whysL cs G k1 k2 ws (acc ++ [.tup [.str "value", d]]) Γ S Q) : whysL cs G k1 k2 (w :: ws) acc Γ S Q :=
  fun K hK => h _ _ ⟨d, S, rfl, hK _ S rfl rfl hn⟩
theorem whys_same {Ls : List LamD} {W : List WE} {Γ : Ga} {S : So} {Z : Dn} {w1 : WS} {due : D} (h7 : ∀ S, fV 8 Γ S = some (.d due)) (hs : D.sam 4 due = true) (hz : ∀ m : MO, Z.nx Γ (S ++ [m]))
    (h : ∀ K : AK, (∀ m : MO, K (.d due) (S ++ [m])) → wWhys lamQ [1] G_field Ls W (fV 7) Γ S Z.ex K) :
    wIf (tNot' (tV (wFn [] (G_same 4) (wCons (wWhys lamQ [1] G_field Ls W (fV 7)) (wCons (wP (fV 8)) (wNil)))))) w1 (wNext) Γ S Z := by
  refine h _ fun m => ?_
  refine ⟨_, h7 _, _, _, rfl, same_ok rfl hs, ?_⟩
  exact ⟨true, rfl, hz m⟩
theorem make_er {G : PI'} {fs : QFs} {Γ : Ga} {S : So} {E : EK} {Q : AK} {l : List D} {er : Er} (h : fs Γ S = some (l.map A.d)) (hG : G l = some (.error er)) (hE : E er S) : wMake 0 [] G (wPs fs) Γ S E Q :=
  ⟨_, h, l, _, dataOf_map _, by rw [List.append_nil]; exact hG, hE⟩
theorem make_ok {G : PI'} {fs : QFs} {Γ : Ga} {S : So} {E : EK} {Q : AK} {l d : List D} (h : fs Γ S = some (l.map A.d)) (hG : G l = some (.ok d)) (hQ : Q (.d (.ins 0 d)) S) : wMake 0 [] G (wPs fs) Γ S E Q :=
  ⟨_, h, l, _, dataOf_map _, by rw [List.append_nil]; exact hG, hQ⟩
theorem why_span (i : Nat) : whyT G_field (eSpan i) = some (.tup [.str "InvalidSpan", .tup [.int i]]) := by
  have h1 : (eSpan i).fs.lookup ("code" : Str) = some (.str "InvalidSpan") := rfl
  have h2 : G_field (eSpan i).fs = some (.tup [.int i]) := by
    show (if ("code" : Str) = "code" ∧ (("at" : Str), ("InvalidSpan" : Str)) ∈ errL then some (D.tup [.int i]) else none) = _
    rw [if_pos ⟨rfl, by decide +kernel⟩]
  unfold whyT
  rw [h1, h2]
abbrev badL : List D := [.non, .int 3, .tup [.int 3], .lst [.int 1, .int 2], .tup [.int 2, .int 1], .tup [.int (0 - 1), .int 4], .tup [.int 0, .int 1000000000000000000], .tup [.bl true, .int 2], .tup [.str "1", .str "2"], .tup [.int 1, .int 2, .int 3]]
abbrev othL : List D := [.tup [.int 1], .non, .str "a"]
theorem bad1 {bad : D} (h : bad ∈ badL) : G_Letter [bad] = some (.error (eSpan 0)) := by
  simp only [badL, List.mem_cons, List.not_mem_nil, or_false] at h
  rcases h with rfl | rfl | rfl | rfl | rfl | rfl | rfl | rfl | rfl | rfl <;> rfl
theorem bad_span {bad : D} (h : bad ∈ badL) : spanB bad = some false := by
  simp only [badL, List.mem_cons, List.not_mem_nil, or_false] at h
  rcases h with rfl | rfl | rfl | rfl | rfl | rfl | rfl | rfl | rfl | rfl <;> rfl
theorem oth_pair {d : D} (h : d ∈ othL) : unpair d = none := by
  simp only [othL, List.mem_cons, List.not_mem_nil, or_false] at h
  rcases h with rfl | rfl | rfl <;> rfl
theorem bad2 {p : PZ} {bad oth : D} (hp : okP p = true) (h : bad ∈ badL) (ho : oth ∈ othL) : G_Letter [pzD p, bad, oth] = some (.error (eSpan 1)) := by
  refine letter_bad (by simp only [List.length_cons, List.length_nil]; omega) ?_ ?_
  · have e : LP.pairsOf [pzD p, bad, oth] = none := by
      simp only [LP.pairsOf, oth_pair ho, Option.bind_none, Option.map_none]
      cases unpair (pzD p) <;> cases unpair bad <;> rfl
    simp only [spansOf, e, Option.bind_none]
  · simp only [badAt, spanB_ok hp, bad_span h]
theorem odd_in {J : List PZ} (hk : oks 60 J = true) {d : D} (h : d ∈ oddL) : G_contains [ltr J, d] = some (.ok (.bl false)) := by
  simp only [oddL, List.mem_cons, List.not_mem_nil, or_false] at h
  rcases h with rfl | rfl | rfl | rfl | rfl | rfl | rfl | rfl | rfl | rfl <;> simp only [G_contains, runsOf_ltr hk, Option.bind_some] <;> rfl
theorem true_in {J : List PZ} (hk : oks 60 J = true) : G_contains [ltr J, .bl true] = some (.ok (.bl false)) := by
  simp only [G_contains, runsOf_ltr hk, Option.bind_some] <;> rfl
theorem num_in {J : List PZ} (hk : oks 60 J = true) {x : Int} (h0 : 0 ≤ x) (h1 : x ≤ GR) : G_contains [ltr J, .int x] = some (.ok (.bl (inL x J))) := by
  simp only [G_contains, runsOf_ltr hk, Option.bind_some, decide_eq_true (show 0 ≤ x ∧ x ≤ GR from ⟨h0, h1⟩), Bool.true_and]
theorem inL_join {l : List PZ} (h : ∀ p ∈ l, okP p = true) (x : Int) : inL x (joinL l) = inL x l := by
  have := (join_spec (ok_le h)).2 x
  rw [← inL_iff, ← inL_iff] at this
  exact Bool.eq_iff_iff.mpr this
theorem join_is {l r : List PZ} (h : ∀ p ∈ l, p.1 ≤ p.2) (hr : Canon r) (hm : ∀ x, mem x l ↔ mem x r) : joinL l = r :=
  canon_uniq (join_spec h).1 hr fun x => ((join_spec h).2 x).trans (hm x)
theorem make2 {p q : PZ} {r : List PZ} (hp : okP p = true) (hq : okP q = true) (hr : Canon r) (hm : ∀ x, mem x [p, q] ↔ mem x r) : G_Letter [pzD p, pzD q] = some (.ok [.lst (r.map pzD)]) := by
  have ha : ∀ z ∈ [p, q], okP z = true := fun z hz => by
    rcases List.mem_cons.mp hz with rfl | hz
    · exact hp
    · rw [List.mem_singleton] at hz; subst hz; exact hq
  have := letter_ok (ps := [p, q]) (oks_iff.mpr ⟨ha, by simp only [List.length_cons, List.length_nil]; omega⟩)
  rw [join_is (ok_le ha) hr hm] at this
  exact this
theorem near_ok {p : PZ} (h : near 3 p) : okP p = true := by
  obtain ⟨a, b, c⟩ := h
  exact decide_eq_true ⟨by omega, b, by unfold GR; omega⟩
theorem good2 {p : PZ} (h : near 3 p) : G_Letter [pzD p, pzD p] = some (.ok [.lst [pzD p]]) := by
  have hp := near_ok h
  refine make2 (r := [p]) hp hp ?_ fun x => ?_
  · exact h.2.1
  · simp only [mem_cons, or_false, mem_nil, or_self]
theorem good3 {p : PZ} (h : near 3 p) : G_Letter [pzD p, .tup [.int 999999999999999999, .int 999999999999999999]] = some (.ok [.lst [pzD p, pzD (GR, GR)]]) := by
  refine make2 (q := (GR, GR)) (r := [p, (GR, GR)]) (near_ok h) (by decide +kernel) ?_ fun x => Iff.rfl
  obtain ⟨a, b, c⟩ := h
  exact ⟨b, by show p.2 + 1 < GR; unfold GR; omega, by show GR ≤ GR; omega⟩
theorem oks1 {p : PZ} (h : near 3 p) : oks 60 [p] = true := oks_iff.mpr ⟨fun z hz => by rw [List.mem_singleton.mp hz]; exact near_ok h, by simp only [List.length_cons, List.length_nil]; omega⟩
theorem oks2 {p : PZ} (h : near 3 p) : oks 60 [p, (GR, GR)] = true := oks_iff.mpr ⟨fun z hz => by
  rcases List.mem_cons.mp hz with rfl | hz
  · exact near_ok h
  · rw [List.mem_singleton] at hz; subst hz; decide +kernel, by simp only [List.length_cons, List.length_nil]; omega⟩
theorem letter0 : G_Letter [] = some (.ok [.lst []]) := by rfl
theorem letter3 : G_Letter [.tup [.int 5, .int 5], .tup [.int 7, .int 9], .tup [.int 6, .int 6]] = some (.ok [.lst [.tup [.int 5, .int 9]]]) := by
  have := letter_ok (ps := [(5, 5), (7, 9), (6, 6)]) (by decide +kernel)
  have e : joinL [(5, 5), (7, 9), (6, 6)] = [(5, 9)] := by decide +kernel
  rw [e] at this
  exact this
theorem get_ne {S : So} {i j : Nat} {a b : MO} (h : S[i]? = some a) (hne : j ≠ i) : (S.set j b)[i]? = some a := by
  rw [List.getElem?_set_ne hne]; exact h
theorem get_app {S : So} {i : Nat} {a b : MO} (h : S[i]? = some a) : (S ++ [b])[i]? = some a := by
  rw [List.getElem?_append_left (List.getElem?_eq_some_iff.mp h).1]; exact h
end K
set_option maxHeartbeats 0
namespace K
open PySem PySem.Spec PyProof.Rows L2 LP
def N_law : List Str := ["_law_script", "_law_bag_here", "_law_turn", "_law_spans_here", "_law_again", "_law_number", "_law_bad", "_law_asks", "_law_due", "_law_made", "_law_runs_here", "_law_text", "_law_odd_here", "_law_good", "_law_other", "_law_run", "_law_low", "_law_high"]
theorem sc_law : FnScope N_law ["_law_script"] (defScope (topS 38)) := ⟨rfl, rfl, rfl, by decide +kernel, rfl, by decide +kernel, by decide +kernel⟩
def w_law_for2_1 (Pt : Addr) (Ls : List LamD) : WS :=
  wDrop (wLM gApp (wMethM mt_runsN (fV 9) wNil) (wPs (fCons (fTup (fCons (fC (.int 0)) (fCons (fC (.int 0)) (fNil)))) (fNil))))
def w_law_for2_0 (Pt : Addr) (Ls : List LamD) : WS :=
  wSeq (wIf (wB (bNot (bV (fFn [] (G_same 4) (fCons (fLst (fCons (fMeth mt_runs (fV 9) fNil) (fCons (fGl 0 0 (fV 9)) (fCons (fProp pt_many (fV 9)) (fCons (fCall gBoolK (fCons (fV 9) (fNil))) (fNil)))))) (fCons (fLst (fCons (fV 10) (fCons (fV 10) (fCons (fCall gSum (fCons (fComp (iL (fV 10)) (tgT [16, 17]) [16, 17] (fun _ _ => some true) (fOp gPlus (fOp gSub (fV 17) (fV 16)) (fC (.int 1)))) (fNil))) (fCons (fOp (gEqU true) (fV 10) (fLst (fNil))) (fNil)))))) (fNil)))))))
  (wRet (wP (fC (.bl false))))
  (wNext)) (w_law_for2_1 Pt Ls)
def w_law_for3_0 (Pt : Addr) (Ls : List LamD) : WS :=
  wIf (wB (bNot (bV (fFn [] (G_same 4) (fCons (fOp (gEither (gOwnIn false 0 G_contains) (gInU false)) (fV 5) (fV 9)) (fCons (fFn [] G_in (fCons (fV 5) (fCons (fV 3) (fNil)))) (fNil)))))))
  (wRet (wP (fC (.bl false))))
  (wNext)
def w_law_for1_10 (Pt : Addr) (Ls : List LamD) : WS :=
  wIf (tNot' (tV (wFn [] (G_same 4) (wCons (wWhys lamQ [1] G_field Ls [wMake 0 [] G_Letter (wPs (fCons (fV 6) (fNil))),
  wMake 0 [] G_Letter (wPs (fCons (fV 13) (fCons (fV 6) (fCons (fV 14) (fNil))))),
  wMethE 0 [] G_runs (wMake 0 [] G_Letter (wPs (fCons (fV 13) (fCons (fV 13) (fNil))))) wNil,
  wPropE 0 G_many (wMake 0 [] G_Letter (wPs (fCons (fV 13) (fCons (fTup (fCons (fOp gSub (fOp gPow (fC (.int 10)) (fC (.int 18))) (fC (.int 1))) (fCons (fOp gSub (fOp gPow (fC (.int 10)) (fC (.int 18))) (fC (.int 1))) (fNil)))) (fNil)))))] (fV 7)) (wCons (wP (fV 8)) (wNil))))))
  (wRet (wP (fC (.bl false))))
  (wNext)
def w_law_for1_9 (Pt : Addr) (Ls : List LamD) : WS :=
  wSeq (wAsg 8 (wP (fLst (fCons (fTup (fCons (fC (.str "InvalidSpan")) (fCons (fTup (fCons (fC (.int 0)) (fNil))) (fNil)))) (fCons (fTup (fCons (fC (.str "InvalidSpan")) (fCons (fTup (fCons (fC (.int 1)) (fNil))) (fNil)))) (fCons (fTup (fCons (fC (.str "value")) (fCons (fLst (fCons (fV 13) (fNil))) (fNil)))) (fCons (fTup (fCons (fC (.str "value")) (fCons (fOp gPlus (fOp gSub (fOp gIx (fV 13) (fC (.int 1))) (fOp gIx (fV 13) (fC (.int 0)))) (fC (.int 2))) (fNil)))) (fNil)))))))) (w_law_for1_10 Pt Ls)
def w_law_for1_8 (Pt : Addr) (Ls : List LamD) : WS :=
  wSeq (wAsg 7 (wLams 1 Pt lamQ Ls)) (w_law_for1_9 Pt Ls)
def w_law_for1_7 (Pt : Addr) (Ls : List LamD) : WS :=
  wSeq (wPar [13, 14] (wCons (wFnM [] fc_span (wPs (fCons (fV 1) (fCons (fC (.int 3)) (fNil))))) (wCons (wFnM [] fc_pick (wPs (fCons (fV 1) (fCons (fLst (fCons (fTup (fCons (fC (.int 1)) (fNil))) (fCons (fC .non) (fCons (fC (.str "a")) (fNil))))) (fNil))))) (wNil)))) (w_law_for1_8 Pt Ls)
def w_law_for1_6 (Pt : Addr) (Ls : List LamD) : WS :=
  wSeq (wAsg 6 (wFnM [] fc_pick (wPs (fCons (fV 1) (fCons (fLst (fCons (fC .non) (fCons (fC (.int 3)) (fCons (fTup (fCons (fC (.int 3)) (fNil))) (fCons (fLst (fCons (fC (.int 1)) (fCons (fC (.int 2)) (fNil)))) (fCons (fTup (fCons (fC (.int 2)) (fCons (fC (.int 1)) (fNil)))) (fCons (fTup (fCons (fOp gSub (fC (.int 0)) (fC (.int 1))) (fCons (fC (.int 4)) (fNil)))) (fCons (fTup (fCons (fC (.int 0)) (fCons (fOp gPow (fC (.int 10)) (fC (.int 18))) (fNil)))) (fCons (fTup (fCons (fC (.bl true)) (fCons (fC (.int 2)) (fNil)))) (fCons (fTup (fCons (fC (.str "1")) (fCons (fC (.str "2")) (fNil)))) (fCons (fTup (fCons (fC (.int 1)) (fCons (fC (.int 2)) (fCons (fC (.int 3)) (fNil))))) (fNil)))))))))))) (fNil)))))) (w_law_for1_7 Pt Ls)
def w_law_for1_5 (Pt : Addr) (Ls : List LamD) : WS :=
  wSeq (wIf (wB (bOr (bV (fOp (gEither (gOwnIn false 0 G_contains) (gInU false)) (fV 12) (fV 9))) (bOr (bV (fOp (gEqU true) (fCall gReprK (fCons (fV 9) (fNil))) (fV 11))) (bV (fOp (gEither (gOwnIn false 0 G_contains) (gInU false)) (fC (.bl true)) (fV 9))))))
  (wRet (wP (fC (.bl false))))
  (wNext)) (w_law_for1_6 Pt Ls)
def w_law_for1_4 (Pt : Addr) (Ls : List LamD) : WS :=
  wSeq (wPar [11, 12] (wCons (wP (fOp gPlus (fOp gPlus (fC (.str "Letter(")) (fFn [] G_rtext (fCons (fV 10) (fNil)))) (fC (.str ")")))) (wCons (wFnM [] fc_odd (wPs (fCons (fV 1) (fNil)))) (wNil)))) (w_law_for1_5 Pt Ls)
def w_law_for1_3 (Pt : Addr) (Ls : List LamD) : WS :=
  wSeq (wFor (wI (iL (fFn [] G_near (fCons (fV 3) (fNil))))) (tgN 5)
  (w_law_for3_0 Pt Ls)) (w_law_for1_4 Pt Ls)
def w_law_for1_2 (Pt : Addr) (Ls : List LamD) : WS :=
  wSeq (wFor (wI (iR1 (fC (.int 2)))) (tgN 4)
  (w_law_for2_0 Pt Ls)) (w_law_for1_3 Pt Ls)
def w_law_for1_1 (Pt : Addr) (Ls : List LamD) : WS :=
  wSeq (wPar [9, 10] (wPs (fCons (fFn [] G_letter (fCons (fV 3) (fNil))) (fCons (fFn [] G_joined (fCons (fV 3) (fNil))) (fNil))))) (w_law_for1_2 Pt Ls)
def w_law_for1_0 (Pt : Addr) (Ls : List LamD) : WS :=
  wSeq (wAsg 3 (wFnM [] fc_spans (wPs (fCons (fV 1) (fNil))))) (w_law_for1_1 Pt Ls)
def w_law_2 (Pt : Addr) (Ls : List LamD) : WS :=
  wRet (wP (fAnd (fOp (gEqU false) (fC (.int 999999999999999999)) (fOp gSub (fOp gPow (fC (.int 10)) (fC (.int 18))) (fC (.int 1)))) (fAnd (fNotO 0 G_bool (fMake 0 [] G_Letter fNil)) (fFn [] (G_same 4) (fCons (fMeth mt_runs (fMake 0 [] G_Letter (fCons (fTup (fCons (fC (.int 5)) (fCons (fC (.int 5)) (fNil)))) (fCons (fTup (fCons (fC (.int 7)) (fCons (fC (.int 9)) (fNil)))) (fCons (fTup (fCons (fC (.int 6)) (fCons (fC (.int 6)) (fNil)))) (fNil))))) fNil) (fCons (fLst (fCons (fTup (fCons (fC (.int 5)) (fCons (fC (.int 9)) (fNil)))) (fNil))) (fNil)))))))
def w_law_1 (Pt : Addr) (Ls : List LamD) : WS :=
  wSeq (wFor (wI (iR1 (fC (.int 6)))) (tgN 2)
  (w_law_for1_0 Pt Ls)) (w_law_2 Pt Ls)
def w_law_0 (Pt : Addr) (Ls : List LamD) : WS :=
  wSeq (wAsg 1 (wFnM [] fc_bag (wPs (fCons (fV 0) (fNil))))) (w_law_1 Pt Ls)
abbrev w_law (Pt : Addr) (Ls : List LamD) : WS := w_law_0 Pt Ls
def lamEs : List Expr := lstEs (asgVal (stAt (forBody (stAt (defBody (topS 38)) 1)) 8))
theorem b_law {P : Program} {w0 : World} {K : PySem.W.Frag} {mg : Str → Option Value} {base : Heap} {ci : Ci} {f : Addr} {ct : Addr} (Pt : Addr) (T : Tc mg) (TBL : LamX.TabB base mg ct Pt) (C_l_bag : CallP P w0 K mg base ci (1) "_law_bag" [] (spOf K ci fc_bag)) (C_l_spans : CallP P w0 K mg base ci (4) "_law_spans" [] (spOf K ci fc_spans)) (C_l_letter : CallP P w0 K mg base ci (6) "_law_letter" [] (spP K ci G_letter)) (C_l_runs : CallP P w0 K mg base ci (1) "_law_runs" [] (spP K ci G_joined)) (C_l_same : CallP P w0 K mg base ci (5) "_law_same" [] (spP K ci (G_same 4))) (C_l_near : CallP P w0 K mg base ci (1) "_law_near" [] (spP K ci G_near)) (C_l_in : CallP P w0 K mg base ci (1) "_law_in" [] (spP K ci G_in)) (C_l_runs_text : CallP P w0 K mg base ci (2) "_law_runs_text" [] (spP K ci G_rtext)) (C_l_odd : CallP P w0 K mg base ci (3) "_law_odd" [] (spOf K ci fc_odd)) (C_l_pick : CallP P w0 K mg base ci (2) "_law_pick" [] (spOf K ci fc_pick)) (C_l_span : CallP P w0 K mg base ci (3) "_law_span" [] (spOf K ci fc_span)) (MS_Letter : MakeS P w0 K mg base ci 4 "Letter" 0 G_Letter) (M_runs : ∀ c dfl G, mt_runs c = some (dfl, G) → MethP P w0 K mg base ci 1 c "runs" dfl (spP K ci G)) (ME_runs : MethP P w0 K mg base ci 1 0 "runs" [] (spP K ci G_runs)) (ML_runs : ∀ c dfl fc, mt_runsN c = some (dfl, fc) → MethP P w0 K mg base ci 1 c "runs" dfl (spOf K ci fc)) (R_many : ∀ c G, pt_many c = some G → PropP P w0 K mg base ci 1 c "many" G) (RE_many : PropP P w0 K mg base ci 1 0 "many" G_many) (M_contains : MethP P w0 K mg base ci 2 0 "__contains__" [] (spP K ci G_contains)) (M_bool : MethP P w0 K mg base ci 1 0 "__bool__" [] (spP K ci G_bool)) (M_repr : MethP P w0 K mg base ci 4 0 "__repr__" [] (spP K ci G_repr)) (GM_walk : GenP K ci 0 "walk" 0) (gm_Letter : mg "Letter" = some (.ref (ci 0).1)) (V_GREATEST : CvalI K (ci 0).1 "GREATEST" 999999999999999999) (WHYS : WhysS P w0 K mg ci [1] 8 "_law_why" "_law_whys" G_field) :
    BodyL P w0 K mg base ci N_law "law" (defScope (topS 38)) f (13) ct (defBody (topS 38)) lamEs (w_law Pt) := by
  intro A outer s H E hr
  have ND : N_law.Nodup := sc_law.nd
  unfold w_law w_law_0 w_law_1 w_law_2 w_law_for1_0 w_law_for1_1 w_law_for1_2 w_law_for1_3 w_law_for1_4 w_law_for1_5 w_law_for1_6 w_law_for1_7 w_law_for1_8 w_law_for1_9 w_law_for1_10 w_law_for3_0 w_law_for2_0 w_law_for2_1
  refine rss_cons ?_ ?_
  · exact rs_asg 1 ND (re_callM C_l_bag (hr.mono (by omega)) (gl_of (by kernel_rfl)) (ra_p (rps_cons (rp_v 0) (rps_nil))))
  refine rss_cons ?_ ?_
  · refine rs_for (passes_of rfl) rfl (rie_p (ri_r1 (gl_of (by kernel_rfl)) T.f_range (rp_int))) (rg_n 2 ND (by rfl) (loc_of (by kernel_rfl)))
          ?_
    · refine rss_cons ?_ ?_
      · exact rs_asg 3 ND (re_callM C_l_spans (hr.mono (by omega)) (gl_of (by kernel_rfl)) (ra_p (rps_cons (rp_v 1) (rps_nil))))
      refine rss_cons ?_ ?_
      · exact rs_par2 rfl ND (ra_p (rps_cons (rp_call C_l_letter (hr.mono (by omega)) (gl_of (by kernel_rfl)) (rps_cons (rp_v 3) (rps_nil))) (rps_cons (rp_call C_l_runs (hr.mono (by omega)) (gl_of (by kernel_rfl)) (rps_cons (rp_v 3) (rps_nil))) (rps_nil))))
      refine rss_cons ?_ ?_
      · refine rs_for (passes_of rfl) rfl (rie_p (ri_r1 (gl_of (by kernel_rfl)) T.f_range (rp_int))) (rg_n 4 ND (by rfl) (loc_of (by kernel_rfl)))
              ?_
        · refine rss_cons ?_ ?_
          · refine rs_if (rt_b (rb_not (rb_v (rp_call C_l_same (hr.mono (by omega)) (gl_of (by kernel_rfl)) (rps_cons (rp_lst (rps_cons (rp_meth0 M_runs (hr.mono (by omega)) (rp_v 9)) (rps_cons (rp_gl 15 GM_walk (hr.mono (by omega)) rfl ND (rp_v 9) (by kernel_rfl) (by kernel_rfl)) (rps_cons (rp_prop R_many (hr.mono (by omega)) (rp_v 9)) (rps_cons (rp_callTy (c_boolK M_bool hr) (gl_of (by kernel_rfl)) T.f_bool (by decide +kernel) (rps_cons (rp_v 9) (rps_nil))) (rps_nil)))))) (rps_cons (rp_lst (rps_cons (rp_v 10) (rps_cons (rp_v 10) (rps_cons (rp_callB (c_sum rfl) (gl_of (by kernel_rfl)) T.f_sum (by decide +kernel) (rps_cons (rp_lcv [("_law_low", 16), ("_law_high", 17)] rfl rfl ND (ri_list (rp_v 10)) (by kernel_rfl) (fun _ _ _ _ _ => rg_t rfl (rgs_n 16 ND (by rfl) (loc_of (by kernel_rfl)) (rgs_n 17 ND (by rfl) (loc_of (by kernel_rfl)) (rgs_nil)))) (fun _ _ _ _ _ => rc_nil) (fun _ _ _ _ _ => rp_op o_plus (rp_op o_sub (rp_v 17) (rp_v 16)) (rp_int))) (rps_nil))) (rps_cons (rp_cmp (o_neU hr.units) (rp_v 10) (rp_lst (rps_nil)) (nomark _)) (rps_nil)))))) (rps_nil)))))))
                  ?_
                  (rss_nil)
            · refine rss_one ?_
              exact rs_ret (re_p (rp_bl))
          refine rss_one ?_
          exact rs_expr (re_lm PySem.F.slot_list_append PySem.F.type_list_append l_append (re_methM0 ML_runs (hr.mono (by omega)) (rp_v 9)) (ra_p (rps_cons (rp_tup (rps_cons (rp_int) (rps_cons (rp_int) (rps_nil)))) (rps_nil))))
      refine rss_cons ?_ ?_
      · refine rs_for (passes_of rfl) rfl (rie_p (ri_list (rp_call C_l_near (hr.mono (by omega)) (gl_of (by kernel_rfl)) (rps_cons (rp_v 3) (rps_nil))))) (rg_n 5 ND (by rfl) (loc_of (by kernel_rfl)))
              ?_
        · refine rss_one ?_
          refine rs_if (rt_b (rb_not (rb_v (rp_call C_l_same (hr.mono (by omega)) (gl_of (by kernel_rfl)) (rps_cons (rp_cmp (OpG.or2 (og_in M_contains (hr.mono (by omega))) o_inU) (rp_v 5) (rp_v 9) (by rfl)) (rps_cons (rp_call C_l_in (hr.mono (by omega)) (gl_of (by kernel_rfl)) (rps_cons (rp_v 5) (rps_cons (rp_v 3) (rps_nil)))) (rps_nil)))))))
                ?_
                (rss_nil)
          · refine rss_one ?_
            exact rs_ret (re_p (rp_bl))
      refine rss_cons ?_ ?_
      · exact rs_par2 rfl ND (ra_cons (re_p (rp_op o_plus (rp_op o_plus (rp_str) (rp_call C_l_runs_text (hr.mono (by omega)) (gl_of (by kernel_rfl)) (rps_cons (rp_v 10) (rps_nil)))) (rp_str))) (ra_cons (re_callM C_l_odd (hr.mono (by omega)) (gl_of (by kernel_rfl)) (ra_p (rps_cons (rp_v 1) (rps_nil)))) (ra_nil)))
      refine rss_cons ?_ ?_
      · refine rs_if (rt_b (rb_w (rw_or (rb_cmp (OpG.or2 (og_in M_contains (hr.mono (by omega))) o_inU) (rp_v 12) (rp_v 9) (by rfl)) (rw_or (rb_cmp (o_neU hr.units) (rp_callB (c_reprK M_repr hr) (gl_of (by kernel_rfl)) T.f_repr (by decide +kernel) (rps_cons (rp_v 9) (rps_nil))) (rp_v 11) (nomark _)) (rw_or1 (rb_cmp (OpG.or2 (og_in M_contains (hr.mono (by omega))) o_inU) (rp_bl) (rp_v 9) (by rfl)))))))
              ?_
              (rss_nil)
        · refine rss_one ?_
          exact rs_ret (re_p (rp_bl))
      refine rss_cons ?_ ?_
      · exact rs_asg 6 ND (re_callM C_l_pick (hr.mono (by omega)) (gl_of (by kernel_rfl)) (ra_p (rps_cons (rp_v 1) (rps_cons ((by refine rp_lqW (q := ?_) ?_ ?_; exact (.l [(.c .non), (.c (.int 3)), (.t [(.c (.int 3))]), (.l [(.c (.int 1)), (.c (.int 2))]), (.t [(.c (.int 2)), (.c (.int 1))]), (.t [(.sub (.c (.int 0)) (.c (.int 1))), (.c (.int 4))]), (.t [(.c (.int 0)), (.pow (.c (.int 10)) (.c (.int 18)))]), (.t [(.c (.bl true)), (.c (.int 2))]), (.t [(.c (.str "1")), (.c (.str "2"))]), (.t [(.c (.int 1)), (.c (.int 2)), (.c (.int 3))])]); kernel_rfl; kernel_rfl)) (rps_nil)))))
      refine rss_cons ?_ ?_
      · exact rs_parC2 rfl ND (ra_cons (re_callM C_l_span (hr.mono (by omega)) (gl_of (by kernel_rfl)) (ra_p (rps_cons (rp_v 1) (rps_cons (rp_int) (rps_nil))))) (ra_cons (re_callM C_l_pick (hr.mono (by omega)) (gl_of (by kernel_rfl)) (ra_p (rps_cons (rp_v 1) (rps_cons (rp_lst (rps_cons (rp_tup (rps_cons (rp_int) (rps_nil))) (rps_cons (rp_non) (rps_cons (rp_str) (rps_nil))))) (rps_nil))))) (ra_nil)))
      refine rss_cons ?_ ?_
      · exact rs_asg 7 ND (re_lams TBL rfl (lams0 rfl rfl (fre_of sc_law (lamL_by (by kernel_rfl))) (lams1 rfl rfl (fre_of sc_law (lamL_by (by kernel_rfl))) (lams1 rfl rfl (fre_of sc_law (lamL_by (by kernel_rfl))) (lams1 rfl rfl (fre_of sc_law (lamL_by (by kernel_rfl))) lamsN)))) (by kernel_rfl))
      refine rss_cons ?_ ?_
      · exact @rs_asgQW _ _ _ (.l [(.t [(.c (.str "InvalidSpan")), (.t [(.c (.int 0))])]), (.t [(.c (.str "InvalidSpan")), (.t [(.c (.int 1))])]), (.t [(.c (.str "value")), (.l [(.v 13)])]), (.t [(.c (.str "value")), (.plus (.sub (.ix (.v 13) (.c (.int 1))) (.ix (.v 13) (.c (.int 0)))) (.c (.int 2)))])]) _ _ ND (by kernel_rfl) (by simp only [evQ, evQs])
      refine rss_one ?_
      refine rs_if (rt_not (rt_v (re_call C_l_same (hr.mono (by omega)) (gl_of (by kernel_rfl)) (ra_cons (re_whys (k := 6) WHYS (gl_of (by kernel_rfl)) (fun _ => rfl) (hr.mono (by omega)) (fun B U => (losC (lamL_by (by kernel_rfl)) (.inl ⟨rfl, fun _ _ _ _ _ => rfl⟩) rfl (fun A outer s H E f c' hr => re_makeS (MS_Letter.up U) (hr.mono (by omega)) (gl_of (by kernel_rfl)) (ra_p (rps_cons (rp_v 6) (rps_nil))))
              (losC (lamL_by (by kernel_rfl)) (.inr ⟨List.cons_ne_nil _ _, "_law_a", (by kernel_rfl), fun _ _ _ _ _ _ _ => ⟨_, rfl, rfl⟩⟩) rfl (fun A outer s H E f c' hr => re_makeS (MS_Letter.up U) (hr.mono (by omega)) (gl_of (by kernel_rfl)) (ra_p (rps_cons (rp_v 13) (rps_cons (rp_v 6) (rps_cons (rp_v 14) (rps_nil))))))
              (losC (lamL_by (by kernel_rfl)) (.inr ⟨List.cons_ne_nil _ _, "_law_b", (by kernel_rfl), fun _ _ _ _ _ _ _ => ⟨_, rfl, rfl⟩⟩) rfl (fun A outer s H E f c' hr => re_meth0 (ME_runs.up U) (hr.mono (by omega)) (re_makeS (MS_Letter.up U) (hr.mono (by omega)) (gl_of (by kernel_rfl)) (ra_p (rps_cons (rp_v 13) (rps_cons (rp_v 13) (rps_nil))))))
              (losC (lamL_by (by kernel_rfl)) (.inr ⟨List.cons_ne_nil _ _, "_law_c", (by kernel_rfl), fun _ _ _ _ _ _ _ => ⟨_, rfl, rfl⟩⟩) rfl (fun A outer s H E f c' hr => re_prop (RE_many.up U) (hr.mono (by omega)) (re_makeS (MS_Letter.up U) (hr.mono (by omega)) (gl_of (by kernel_rfl)) (ra_p (rps_cons (rp_v 13) (rps_cons ((by refine rp_lqW (q := ?_) ?_ ?_; exact (.t [(.sub (.pow (.c (.int 10)) (.c (.int 18))) (.c (.int 1))), (.sub (.pow (.c (.int 10)) (.c (.int 18))) (.c (.int 1)))]); kernel_rfl; kernel_rfl)) (rps_nil))))))
              losN))))) (rp_v 7)) (ra_cons (re_p (rp_v 8)) (ra_nil))))))
            ?_
            (rss_nil)
      · refine rss_one ?_
        exact rs_ret (re_p (rp_bl))
  refine rss_one ?_
  exact rs_ret (re_p (rp_and (rp_cmp (o_eqU hr.units) (rp_cval V_GREATEST (gl_of (by kernel_rfl)) gm_Letter) (rp_op o_sub (rp_op o_pow (rp_int) (rp_int)) (rp_int)) (nomark _)) (rp_and (rp_notO M_bool (hr.mono (by omega)) (rp_makeS0 MS_Letter (hr.mono (by omega)) (gl_of (by kernel_rfl)))) (rp_one (rp_call C_l_same (hr.mono (by omega)) (gl_of (by kernel_rfl)) (rps_cons (rp_meth0 M_runs (hr.mono (by omega)) (rp_makeS MS_Letter (hr.mono (by omega)) (gl_of (by kernel_rfl)) (rps_cons (rp_tup (rps_cons (rp_int) (rps_cons (rp_int) (rps_nil)))) (rps_cons (rp_tup (rps_cons (rp_int) (rps_cons (rp_int) (rps_nil)))) (rps_cons (rp_tup (rps_cons (rp_int) (rps_cons (rp_int) (rps_nil)))) (rps_nil)))))) (rps_cons (rp_lst (rps_cons (rp_tup (rps_cons (rp_int) (rps_cons (rp_int) (rps_nil)))) (rps_nil))) (rps_nil))))))))
end K
set_option maxHeartbeats 4000000
namespace K
open PySem PySem.Spec PyProof.Rows L2 LP
theorem lst4 {fa fb fc fd : QF} {Γ : Ga} {S : So} {a b c d : D} (h1 : fa Γ S = some (.d a)) (h2 : fb Γ S = some (.d b)) (h3 : fc Γ S = some (.d c)) (h4 : fd Γ S = some (.d d)) : fLst (fCons fa (fCons fb (fCons fc (fCons fd fNil)))) Γ S = some (.d (.lst [a, b, c, d])) := by
  simp only [h1, h2, h3, h4, stG, wSeq, wIf, wAsg, wRet, wRetN, wNext, wDrop, wP, wB, wPs, wCons, wNil, wOp, wFn, wPar, wAsgT, wTup, wLst, wNewL, setIx_eq, setA, wM1, wI, wFor, bV, bNot, bAnd, bOr, fOp, fC, fV, fCons, fNil, fCall, fIsi, fAnd, fOr, fNot, chain_le, fTup, fLst, fIf, fFn, tgN, tgT, setAll, gI, gLen, gLe, gLt, gGe, gGt, LP.gSub, gMod, gFdiv, gPow, gPlus, gTimes, gIntA, gInt, gIsN, gIx, tyA, TN.sub, LP.dataOf, A.toD, viewL, viewQ, viewT, gEq_ii, gEq_ss, gEq_bb, gEq_nn, fSl, slV, oN, oS, iL, iR1, wFnM, gFdivW, tNot', tV, wFrz, fFld, fldV, gEither, gOwnIn, gOwnBin, gOwnEq, fIsiO, gIsiO, fProp, propV, fMeth, fMake, fMakeV, twoT, viewT, iZQ, iET, Option.bind_some, Option.map_some, Option.bind_none, Option.map_none, Option.bind, Option.map, List.getElem?_cons_zero, List.getElem?_cons_succ, List.getElem?_nil, List.set_cons_zero, List.set_cons_succ, List.set_nil, if_true, if_false, ↓reduceIte, Bool.not_true, Bool.not_false, decide_true, decide_false, Bool.false_eq_true, reduceCtorEq, true_and, false_and, and_true, and_false, not_true, not_false_eq_true, List.any_cons, List.any_nil, Bool.or_false, Bool.or_true, Bool.true_or, Bool.false_or, Bool.and_true, Bool.true_and, Bool.and_false, Bool.false_and, exists_eq_left, exists_eq_left', Option.some.injEq, A.d.injEq, D.int.injEq, D.bl.injEq, D.str.injEq, D.lst.injEq, D.tup.injEq, Except.ok.injEq, List.cons_append, List.nil_append, List.map_cons, List.map_nil, List.length_cons, List.length_nil, List.replicate, Nat.reduceSub, Nat.reduceAdd, List.append_nil, eq_self, or_true, true_or, or_false, false_or, Int.reduceNeg, Int.reducePow, Int.reduceLT, Int.reduceLE, List.length_set]
theorem same_b {n : Nat} {f g : QF} {Γ : Ga} {S : So} {x y : D} (h1 : f Γ S = some (.d x)) (h2 : g Γ S = some (.d y)) (h : G_same n [x, y] = some (.ok (.bl true))) : bNot (bV (fFn [] (G_same n) (fCons f (fCons g fNil)))) Γ S = some false := by
  simp only [h1, h2, h, stG, wSeq, wIf, wAsg, wRet, wRetN, wNext, wDrop, wP, wB, wPs, wCons, wNil, wOp, wFn, wPar, wAsgT, wTup, wLst, wNewL, setIx_eq, setA, wM1, wI, wFor, bV, bNot, bAnd, bOr, fOp, fC, fV, fCons, fNil, fCall, fIsi, fAnd, fOr, fNot, chain_le, fTup, fLst, fIf, fFn, tgN, tgT, setAll, gI, gLen, gLe, gLt, gGe, gGt, LP.gSub, gMod, gFdiv, gPow, gPlus, gTimes, gIntA, gInt, gIsN, gIx, tyA, TN.sub, LP.dataOf, A.toD, viewL, viewQ, viewT, gEq_ii, gEq_ss, gEq_bb, gEq_nn, fSl, slV, oN, oS, iL, iR1, wFnM, gFdivW, tNot', tV, wFrz, fFld, fldV, gEither, gOwnIn, gOwnBin, gOwnEq, fIsiO, gIsiO, fProp, propV, fMeth, fMake, fMakeV, twoT, viewT, iZQ, iET, Option.bind_some, Option.map_some, Option.bind_none, Option.map_none, Option.bind, Option.map, List.getElem?_cons_zero, List.getElem?_cons_succ, List.getElem?_nil, List.set_cons_zero, List.set_cons_succ, List.set_nil, if_true, if_false, ↓reduceIte, Bool.not_true, Bool.not_false, decide_true, decide_false, Bool.false_eq_true, reduceCtorEq, true_and, false_and, and_true, and_false, not_true, not_false_eq_true, List.any_cons, List.any_nil, Bool.or_false, Bool.or_true, Bool.true_or, Bool.false_or, Bool.and_true, Bool.true_and, Bool.and_false, Bool.false_and, exists_eq_left, exists_eq_left', Option.some.injEq, A.d.injEq, D.int.injEq, D.bl.injEq, D.str.injEq, D.lst.injEq, D.tup.injEq, Except.ok.injEq, List.cons_append, List.nil_append, List.map_cons, List.map_nil, List.length_cons, List.length_nil, List.replicate, Nat.reduceSub, Nat.reduceAdd, List.append_nil, eq_self, or_true, true_or, or_false, false_or, Int.reduceNeg, Int.reducePow, Int.reduceLT, Int.reduceLE, List.length_set]
section
variable {S : So} {x0 x2 x3 x4 x5 x6 x7 x8 x9 x10 x11 x12 x13 x14 x15 x16 x17 : Option A} {Pt : Addr} {Ls : List LamD} {Z : Dn} {m : MO} {ps : List PZ}
theorem sum_ok (Γ : Ga) (S : So) (h10 : Γ[10]? = some (some (.d (.lst ((joinL ps).map pzD))))) (hl : Γ.length = 18) : fCall gSum (fCons (fComp (iL (fV 10)) (tgT [16, 17]) [16, 17] (fun _ _ => some true) (fOp gPlus (fOp LP.gSub (fV 17) (fV 16)) (fC (.int 1)))) (fNil)) Γ S = some (.d (.int (lenL (joinL ps)))) := by
  have c : fComp (iL (fV 10)) (tgT [16, 17]) [16, 17] (fun _ _ => some true) (fOp gPlus (fOp LP.gSub (fV 17) (fV 16)) (fC (.int 1))) Γ S = some (.d (.lst ((joinL ps).map fun p => .int (p.2 - p.1 + 1)))) := by
    refine comp_map (g := pzD) (it := fun S' => viewL S' (.d (.lst ((joinL ps).map pzD)))) (by simp only [iL, fV, h10, Option.bind_some, Option.map_some]) rfl fun p hp => ?_
    have e1 : (((((Γ.set 17 none).set 16 none).set 16 (some (A.d (.int p.1)))).set 17 (some (A.d (.int p.2)))) : Ga)[16]? = some (some (A.d (.int p.1))) := by
      rw [List.getElem?_set_ne (by decide), List.getElem?_set_self (by simp [hl])]
    have e2 : (((((Γ.set 17 none).set 16 none).set 16 (some (A.d (.int p.1)))).set 17 (some (A.d (.int p.2)))) : Ga)[17]? = some (some (A.d (.int p.2))) := by
      rw [List.getElem?_set_self (by simp [hl])]
    simp only [eltF, wipeG, pzD, e1, e2, stG, wSeq, wIf, wAsg, wRet, wRetN, wNext, wDrop, wP, wB, wPs, wCons, wNil, wOp, wFn, wPar, wAsgT, wTup, wLst, wNewL, setIx_eq, setA, wM1, wI, wFor, bV, bNot, bAnd, bOr, fOp, fC, fV, fCons, fNil, fCall, fIsi, fAnd, fOr, fNot, chain_le, fTup, fLst, fIf, fFn, tgN, tgT, setAll, gI, gLen, gLe, gLt, gGe, gGt, LP.gSub, gMod, gFdiv, gPow, gPlus, gTimes, gIntA, gInt, gIsN, gIx, tyA, TN.sub, LP.dataOf, A.toD, viewL, viewQ, viewT, gEq_ii, gEq_ss, gEq_bb, gEq_nn, fSl, slV, oN, oS, iL, iR1, wFnM, gFdivW, tNot', tV, wFrz, fFld, fldV, gEither, gOwnIn, gOwnBin, gOwnEq, fIsiO, gIsiO, fProp, propV, fMeth, fMake, fMakeV, twoT, viewT, iZQ, iET, Option.bind_some, Option.map_some, Option.bind_none, Option.map_none, Option.bind, Option.map, List.getElem?_cons_zero, List.getElem?_cons_succ, List.getElem?_nil, List.set_cons_zero, List.set_cons_succ, List.set_nil, if_true, if_false, ↓reduceIte, Bool.not_true, Bool.not_false, decide_true, decide_false, Bool.false_eq_true, reduceCtorEq, true_and, false_and, and_true, and_false, not_true, not_false_eq_true, List.any_cons, List.any_nil, Bool.or_false, Bool.or_true, Bool.true_or, Bool.false_or, Bool.and_true, Bool.true_and, Bool.and_false, Bool.false_and, exists_eq_left, exists_eq_left', Option.some.injEq, A.d.injEq, D.int.injEq, D.bl.injEq, D.str.injEq, D.lst.injEq, D.tup.injEq, Except.ok.injEq, List.cons_append, List.nil_append, List.map_cons, List.map_nil, List.length_cons, List.length_nil, List.replicate, Nat.reduceSub, Nat.reduceAdd, List.append_nil, eq_self, or_true, true_or, or_false, false_or, Int.reduceNeg, Int.reducePow, Int.reduceLT, Int.reduceLE, List.length_set]
  have hs := ints_fun (fun p : PZ => p.2 - p.1 + 1) (joinL ps)
  simp only [c, gSum, hs, lenL, stG, wSeq, wIf, wAsg, wRet, wRetN, wNext, wDrop, wP, wB, wPs, wCons, wNil, wOp, wFn, wPar, wAsgT, wTup, wLst, wNewL, setIx_eq, setA, wM1, wI, wFor, bV, bNot, bAnd, bOr, fOp, fC, fV, fCons, fNil, fCall, fIsi, fAnd, fOr, fNot, chain_le, fTup, fLst, fIf, fFn, tgN, tgT, setAll, gI, gLen, gLe, gLt, gGe, gGt, LP.gSub, gMod, gFdiv, gPow, gPlus, gTimes, gIntA, gInt, gIsN, gIx, tyA, TN.sub, LP.dataOf, A.toD, viewL, viewQ, viewT, gEq_ii, gEq_ss, gEq_bb, gEq_nn, fSl, slV, oN, oS, iL, iR1, wFnM, gFdivW, tNot', tV, wFrz, fFld, fldV, gEither, gOwnIn, gOwnBin, gOwnEq, fIsiO, gIsiO, fProp, propV, fMeth, fMake, fMakeV, twoT, viewT, iZQ, iET, Option.bind_some, Option.map_some, Option.bind_none, Option.map_none, Option.bind, Option.map, List.getElem?_cons_zero, List.getElem?_cons_succ, List.getElem?_nil, List.set_cons_zero, List.set_cons_succ, List.set_nil, if_true, if_false, ↓reduceIte, Bool.not_true, Bool.not_false, decide_true, decide_false, Bool.false_eq_true, reduceCtorEq, true_and, false_and, and_true, and_false, not_true, not_false_eq_true, List.any_cons, List.any_nil, Bool.or_false, Bool.or_true, Bool.true_or, Bool.false_or, Bool.and_true, Bool.true_and, Bool.and_false, Bool.false_and, exists_eq_left, exists_eq_left', Option.some.injEq, A.d.injEq, D.int.injEq, D.bl.injEq, D.str.injEq, D.lst.injEq, D.tup.injEq, Except.ok.injEq, List.cons_append, List.nil_append, List.map_cons, List.map_nil, List.length_cons, List.length_nil, List.replicate, Nat.reduceSub, Nat.reduceAdd, List.append_nil, eq_self, or_true, true_or, or_false, false_or, Int.reduceNeg, Int.reducePow, Int.reduceLT, Int.reduceLE, List.length_set]
theorem turn_2 (hk : oks 60 (joinL ps) = true) (hT : S[1]? = some (.tab Pt lamQ)) (hS : S[2]? = some m)
    (hZ : ∀ S' : So, S'[1]? = some (.tab Pt lamQ) → S'[2]? = some m → Z.nx [x0, some (.loc 2), x2, some (.d (.lst (ps.map pzD))), x4, x5, x6, x7, x8, some (.d (ltr (joinL ps))), some (.d (.lst ((joinL ps).map pzD))), x11, x12, x13, x14, x15, x16, x17] S') :
    w_law_for2_0 Pt Ls [x0, some (.loc 2), x2, some (.d (.lst (ps.map pzD))), x4, x5, x6, x7, x8, some (.d (ltr (joinL ps))), some (.d (.lst ((joinL ps).map pzD))), x11, x12, x13, x14, x15, x16, x17] S Z := by
  have e1 : fMeth mt_runs (fV 9) fNil [x0, some (.loc 2), x2, some (.d (.lst (ps.map pzD))), x4, x5, x6, x7, x8, some (.d (ltr (joinL ps))), some (.d (.lst ((joinL ps).map pzD))), x11, x12, x13, x14, x15, x16, x17] S = some (.d (.lst ((joinL ps).map pzD))) := by
    have hr := runs_ok hk
    simp only [mt_runs, ltr, hr, stG, wSeq, wIf, wAsg, wRet, wRetN, wNext, wDrop, wP, wB, wPs, wCons, wNil, wOp, wFn, wPar, wAsgT, wTup, wLst, wNewL, setIx_eq, setA, wM1, wI, wFor, bV, bNot, bAnd, bOr, fOp, fC, fV, fCons, fNil, fCall, fIsi, fAnd, fOr, fNot, chain_le, fTup, fLst, fIf, fFn, tgN, tgT, setAll, gI, gLen, gLe, gLt, gGe, gGt, LP.gSub, gMod, gFdiv, gPow, gPlus, gTimes, gIntA, gInt, gIsN, gIx, tyA, TN.sub, LP.dataOf, A.toD, viewL, viewQ, viewT, gEq_ii, gEq_ss, gEq_bb, gEq_nn, fSl, slV, oN, oS, iL, iR1, wFnM, gFdivW, tNot', tV, wFrz, fFld, fldV, gEither, gOwnIn, gOwnBin, gOwnEq, fIsiO, gIsiO, fProp, propV, fMeth, fMake, fMakeV, twoT, viewT, iZQ, iET, Option.bind_some, Option.map_some, Option.bind_none, Option.map_none, Option.bind, Option.map, List.getElem?_cons_zero, List.getElem?_cons_succ, List.getElem?_nil, List.set_cons_zero, List.set_cons_succ, List.set_nil, if_true, if_false, ↓reduceIte, Bool.not_true, Bool.not_false, decide_true, decide_false, Bool.false_eq_true, reduceCtorEq, true_and, false_and, and_true, and_false, not_true, not_false_eq_true, List.any_cons, List.any_nil, Bool.or_false, Bool.or_true, Bool.true_or, Bool.false_or, Bool.and_true, Bool.true_and, Bool.and_false, Bool.false_and, exists_eq_left, exists_eq_left', Option.some.injEq, A.d.injEq, D.int.injEq, D.bl.injEq, D.str.injEq, D.lst.injEq, D.tup.injEq, Except.ok.injEq, List.cons_append, List.nil_append, List.map_cons, List.map_nil, List.length_cons, List.length_nil, List.replicate, Nat.reduceSub, Nat.reduceAdd, List.append_nil, eq_self, or_true, true_or, or_false, false_or, Int.reduceNeg, Int.reducePow, Int.reduceLT, Int.reduceLE, List.length_set]
  have e2 : fGl 0 0 (fV 9) [x0, some (.loc 2), x2, some (.d (.lst (ps.map pzD))), x4, x5, x6, x7, x8, some (.d (ltr (joinL ps))), some (.d (.lst ((joinL ps).map pzD))), x11, x12, x13, x14, x15, x16, x17] S = some (.d (.lst ((joinL ps).map pzD))) := rfl
  have e3 : fProp pt_many (fV 9) [x0, some (.loc 2), x2, some (.d (.lst (ps.map pzD))), x4, x5, x6, x7, x8, some (.d (ltr (joinL ps))), some (.d (.lst ((joinL ps).map pzD))), x11, x12, x13, x14, x15, x16, x17] S = some (.d (.int (lenL (joinL ps)))) := by
    have hr := many_ok hk
    simp only [pt_many, ltr, hr, fProp, propV, stG, wSeq, wIf, wAsg, wRet, wRetN, wNext, wDrop, wP, wB, wPs, wCons, wNil, wOp, wFn, wPar, wAsgT, wTup, wLst, wNewL, setIx_eq, setA, wM1, wI, wFor, bV, bNot, bAnd, bOr, fOp, fC, fV, fCons, fNil, fCall, fIsi, fAnd, fOr, fNot, chain_le, fTup, fLst, fIf, fFn, tgN, tgT, setAll, gI, gLen, gLe, gLt, gGe, gGt, LP.gSub, gMod, gFdiv, gPow, gPlus, gTimes, gIntA, gInt, gIsN, gIx, tyA, TN.sub, LP.dataOf, A.toD, viewL, viewQ, viewT, gEq_ii, gEq_ss, gEq_bb, gEq_nn, fSl, slV, oN, oS, iL, iR1, wFnM, gFdivW, tNot', tV, wFrz, fFld, fldV, gEither, gOwnIn, gOwnBin, gOwnEq, fIsiO, gIsiO, fProp, propV, fMeth, fMake, fMakeV, twoT, viewT, iZQ, iET, Option.bind_some, Option.map_some, Option.bind_none, Option.map_none, Option.bind, Option.map, List.getElem?_cons_zero, List.getElem?_cons_succ, List.getElem?_nil, List.set_cons_zero, List.set_cons_succ, List.set_nil, if_true, if_false, ↓reduceIte, Bool.not_true, Bool.not_false, decide_true, decide_false, Bool.false_eq_true, reduceCtorEq, true_and, false_and, and_true, and_false, not_true, not_false_eq_true, List.any_cons, List.any_nil, Bool.or_false, Bool.or_true, Bool.true_or, Bool.false_or, Bool.and_true, Bool.true_and, Bool.and_false, Bool.false_and, exists_eq_left, exists_eq_left', Option.some.injEq, A.d.injEq, D.int.injEq, D.bl.injEq, D.str.injEq, D.lst.injEq, D.tup.injEq, Except.ok.injEq, List.cons_append, List.nil_append, List.map_cons, List.map_nil, List.length_cons, List.length_nil, List.replicate, Nat.reduceSub, Nat.reduceAdd, List.append_nil, eq_self, or_true, true_or, or_false, false_or, Int.reduceNeg, Int.reducePow, Int.reduceLT, Int.reduceLE, List.length_set]
  have e4 : fCall gBoolK (fCons (fV 9) (fNil)) [x0, some (.loc 2), x2, some (.d (.lst (ps.map pzD))), x4, x5, x6, x7, x8, some (.d (ltr (joinL ps))), some (.d (.lst ((joinL ps).map pzD))), x11, x12, x13, x14, x15, x16, x17] S = some (.d (.bl (!(joinL ps).isEmpty))) := by
    have hb : G_bool [.ins 0 [.lst ((joinL ps).map pzD)]] = some (.ok (.bl (!(joinL ps).isEmpty))) := by
      show (runsOf (ltr (joinL ps))).map _ = _
      rw [runsOf_ltr hk]; rfl
    simp only [gBoolK, gOwnBool, ltr, hb, stG, wSeq, wIf, wAsg, wRet, wRetN, wNext, wDrop, wP, wB, wPs, wCons, wNil, wOp, wFn, wPar, wAsgT, wTup, wLst, wNewL, setIx_eq, setA, wM1, wI, wFor, bV, bNot, bAnd, bOr, fOp, fC, fV, fCons, fNil, fCall, fIsi, fAnd, fOr, fNot, chain_le, fTup, fLst, fIf, fFn, tgN, tgT, setAll, gI, gLen, gLe, gLt, gGe, gGt, LP.gSub, gMod, gFdiv, gPow, gPlus, gTimes, gIntA, gInt, gIsN, gIx, tyA, TN.sub, LP.dataOf, A.toD, viewL, viewQ, viewT, gEq_ii, gEq_ss, gEq_bb, gEq_nn, fSl, slV, oN, oS, iL, iR1, wFnM, gFdivW, tNot', tV, wFrz, fFld, fldV, gEither, gOwnIn, gOwnBin, gOwnEq, fIsiO, gIsiO, fProp, propV, fMeth, fMake, fMakeV, twoT, viewT, iZQ, iET, Option.bind_some, Option.map_some, Option.bind_none, Option.map_none, Option.bind, Option.map, List.getElem?_cons_zero, List.getElem?_cons_succ, List.getElem?_nil, List.set_cons_zero, List.set_cons_succ, List.set_nil, if_true, if_false, ↓reduceIte, Bool.not_true, Bool.not_false, decide_true, decide_false, Bool.false_eq_true, reduceCtorEq, true_and, false_and, and_true, and_false, not_true, not_false_eq_true, List.any_cons, List.any_nil, Bool.or_false, Bool.or_true, Bool.true_or, Bool.false_or, Bool.and_true, Bool.true_and, Bool.and_false, Bool.false_and, exists_eq_left, exists_eq_left', Option.some.injEq, A.d.injEq, D.int.injEq, D.bl.injEq, D.str.injEq, D.lst.injEq, D.tup.injEq, Except.ok.injEq, List.cons_append, List.nil_append, List.map_cons, List.map_nil, List.length_cons, List.length_nil, List.replicate, Nat.reduceSub, Nat.reduceAdd, List.append_nil, eq_self, or_true, true_or, or_false, false_or, Int.reduceNeg, Int.reducePow, Int.reduceLT, Int.reduceLE, List.length_set]
  have e5 := sum_ok (ps := ps) [x0, some (.loc 2), x2, some (.d (.lst (ps.map pzD))), x4, x5, x6, x7, x8, some (.d (ltr (joinL ps))), some (.d (.lst ((joinL ps).map pzD))), x11, x12, x13, x14, x15, x16, x17] S rfl rfl
  have e6 : fOp (gEqU true) (fV 10) (fLst (fNil)) [x0, some (.loc 2), x2, some (.d (.lst (ps.map pzD))), x4, x5, x6, x7, x8, some (.d (ltr (joinL ps))), some (.d (.lst ((joinL ps).map pzD))), x11, x12, x13, x14, x15, x16, x17] S = some (.d (.bl (!(joinL ps).isEmpty))) := by
    have he := eq_l (S := S) (joinL ps) true
    have hi : decide (joinL ps = []) = (joinL ps).isEmpty := by cases joinL ps <;> rfl
    rw [hi] at he
    show ((gEqU true S (.d (.lst ((joinL ps).map pzD))) (.d (.lst []))).map A.d) = _
    rw [he]; rfl
  have hs : G_same 4 [.lst [.lst ((joinL ps).map pzD), .lst ((joinL ps).map pzD), .int (lenL (joinL ps)), .bl (!(joinL ps).isEmpty)], .lst [.lst ((joinL ps).map pzD), .lst ((joinL ps).map pzD), .int (lenL (joinL ps)), .bl (!(joinL ps).isEmpty)]] = some (.ok (.bl true)) := by
    refine same_ok rfl ?_
    have hp : ((joinL ps).map pzD).all (fun x => D.sam 2 x) = true := by
      rw [List.all_map, List.all_eq_true]
      intro p _
      rfl
    simp only [D.sam, List.all_cons, List.all_nil, hp, Bool.and_self]
  have h1 : (1 : Nat) < S.length := (List.getElem?_eq_some_iff.mp hT).1
  have h2 : (2 : Nat) < S.length := (List.getElem?_eq_some_iff.mp hS).1
  unfold w_law_for2_0
  refine ⟨false, same_b (lst4 e1 e2 e3 e4) (lst4 rfl rfl e5 e6) hs, ?_⟩
  show w_law_for2_1 Pt Ls _ S Z
  have hq : (S ++ [MO.lst (((joinL ps).map pzD).map A.d)])[S.length]? = some (.lst (((joinL ps).map pzD).map A.d)) := by simp
  have hl : (((joinL ps).map pzD).map A.d).length < sizeLine := by
    rw [List.length_map, List.length_map]
    exact Nat.lt_of_le_of_lt (oks_iff.mp hk).2 (by decide)
  have hg : ∀ S, gApp S (((joinL ps).map pzD).map A.d) [.d (.tup [.int 0, .int 0])] = some (((joinL ps).map pzD).map A.d ++ [.d (.tup [.int 0, .int 0])], .d .non) := fun S => by
    simp only [gApp, hl, if_true]
  refine ⟨_, 0, [], fc_runsN, rfl, rfl, rfl, joinL ps, rfl, hk, S.length, _, rfl, hq, _, rfl, _, _, _, hq, hg _, ?_⟩
  exact hZ _ (get_ne (get_app hT) (by omega)) (get_ne (get_app hS) (by omega))
theorem turn_n {x : Int} (hp : ∀ p ∈ ps, okP p = true) (hl : ps.length ≤ 3) (h0 : 0 ≤ x) (h1 : x ≤ GR) (hZ : Z.nx [x0, some (.loc 2), x2, some (.d (.lst (ps.map pzD))), x4, some (.d (.int x)), x6, x7, x8, some (.d (ltr (joinL ps))), some (.d (.lst ((joinL ps).map pzD))), x11, x12, x13, x14, x15, x16, x17] S) :
    w_law_for3_0 Pt Ls [x0, some (.loc 2), x2, some (.d (.lst (ps.map pzD))), x4, some (.d (.int x)), x6, x7, x8, some (.d (ltr (joinL ps))), some (.d (.lst ((joinL ps).map pzD))), x11, x12, x13, x14, x15, x16, x17] S Z := by
  have hk0 : oks 60 ps = true := oks_iff.mpr ⟨hp, by omega⟩
  have hk := jn_oks hk0
  have e1 : fOp (gEither (gOwnIn false 0 G_contains) (gInU false)) (fV 5) (fV 9) [x0, some (.loc 2), x2, some (.d (.lst (ps.map pzD))), x4, some (.d (.int x)), x6, x7, x8, some (.d (ltr (joinL ps))), some (.d (.lst ((joinL ps).map pzD))), x11, x12, x13, x14, x15, x16, x17] S = some (.d (.bl (inL x ps))) := by
    have hn := num_in hk h0 h1
    rw [inL_join hp] at hn
    simp only [ltr] at hn
    have : gEither (gOwnIn false 0 G_contains) (gInU false) S (.d (.int x)) (.d (ltr (joinL ps))) = some (.bl (inL x ps)) := by
      simp only [gEither, gOwnIn, ltr, hn, if_true, Bool.false_eq_true, if_false]
    show (gEither (gOwnIn false 0 G_contains) (gInU false) S (.d (.int x)) (.d (ltr (joinL ps)))).map A.d = _
    rw [this]; rfl
  have e2 : fFn [] G_in (fCons (fV 5) (fCons (fV 3) (fNil))) [x0, some (.loc 2), x2, some (.d (.lst (ps.map pzD))), x4, some (.d (.int x)), x6, x7, x8, some (.d (ltr (joinL ps))), some (.d (.lst ((joinL ps).map pzD))), x11, x12, x13, x14, x15, x16, x17] S = some (.d (.bl (inL x ps))) := by
    have hi : G_in [.int x, .lst (ps.map pzD)] = some (.ok (.bl (inL x ps))) := by
      simp only [G_in, spansOf_lst hk0, Option.map_some]
    simp only [hi, stG, wSeq, wIf, wAsg, wRet, wRetN, wNext, wDrop, wP, wB, wPs, wCons, wNil, wOp, wFn, wPar, wAsgT, wTup, wLst, wNewL, setIx_eq, setA, wM1, wI, wFor, bV, bNot, bAnd, bOr, fOp, fC, fV, fCons, fNil, fCall, fIsi, fAnd, fOr, fNot, chain_le, fTup, fLst, fIf, fFn, tgN, tgT, setAll, gI, gLen, gLe, gLt, gGe, gGt, LP.gSub, gMod, gFdiv, gPow, gPlus, gTimes, gIntA, gInt, gIsN, gIx, tyA, TN.sub, LP.dataOf, A.toD, viewL, viewQ, viewT, gEq_ii, gEq_ss, gEq_bb, gEq_nn, fSl, slV, oN, oS, iL, iR1, wFnM, gFdivW, tNot', tV, wFrz, fFld, fldV, gEither, gOwnIn, gOwnBin, gOwnEq, fIsiO, gIsiO, fProp, propV, fMeth, fMake, fMakeV, twoT, viewT, iZQ, iET, Option.bind_some, Option.map_some, Option.bind_none, Option.map_none, Option.bind, Option.map, List.getElem?_cons_zero, List.getElem?_cons_succ, List.getElem?_nil, List.set_cons_zero, List.set_cons_succ, List.set_nil, if_true, if_false, ↓reduceIte, Bool.not_true, Bool.not_false, decide_true, decide_false, Bool.false_eq_true, reduceCtorEq, true_and, false_and, and_true, and_false, not_true, not_false_eq_true, List.any_cons, List.any_nil, Bool.or_false, Bool.or_true, Bool.true_or, Bool.false_or, Bool.and_true, Bool.true_and, Bool.and_false, Bool.false_and, exists_eq_left, exists_eq_left', Option.some.injEq, A.d.injEq, D.int.injEq, D.bl.injEq, D.str.injEq, D.lst.injEq, D.tup.injEq, Except.ok.injEq, List.cons_append, List.nil_append, List.map_cons, List.map_nil, List.length_cons, List.length_nil, List.replicate, Nat.reduceSub, Nat.reduceAdd, List.append_nil, eq_self, or_true, true_or, or_false, false_or, Int.reduceNeg, Int.reducePow, Int.reduceLT, Int.reduceLE, List.length_set]
  exact ⟨false, same_b e1 e2 (same_ok rfl rfl), hZ⟩
theorem odd_no {S : So} {J : List PZ} {d : D} (h : G_contains [ltr J, d] = some (.ok (.bl false))) {f g : QF} {Γ : Ga} (h1 : f Γ S = some (.d d)) (h2 : g Γ S = some (.d (ltr J))) : bV (fOp (gEither (gOwnIn false 0 G_contains) (gInU false)) f g) Γ S = some false := by
  have : gEither (gOwnIn false 0 G_contains) (gInU false) S (.d d) (.d (ltr J)) = some (.bl false) := by
    simp only [ltr] at h
    simp only [gEither, gOwnIn, ltr, h, if_true, Bool.false_eq_true, if_false]
  simp only [bV, fOp, h1, h2, this, Option.bind_some, Option.map_some]
theorem turn_odd {odd : D} (hk : oks 60 (joinL ps) = true) (ho : odd ∈ oddL) (hZ : w_law_for1_6 Pt Ls [x0, some (.loc 2), x2, some (.d (.lst (ps.map pzD))), x4, x5, x6, x7, x8, some (.d (ltr (joinL ps))), some (.d (.lst ((joinL ps).map pzD))), some (.d (.str (reprS (joinL ps)))), some (.d odd), x13, x14, x15, x16, x17] S Z) :
    w_law_for1_5 Pt Ls [x0, some (.loc 2), x2, some (.d (.lst (ps.map pzD))), x4, x5, x6, x7, x8, some (.d (ltr (joinL ps))), some (.d (.lst ((joinL ps).map pzD))), some (.d (.str (reprS (joinL ps)))), some (.d odd), x13, x14, x15, x16, x17] S Z := by
  have e1 := odd_no (S := S) (odd_in hk ho) (f := fV 12) (g := fV 9) (Γ := [x0, some (.loc 2), x2, some (.d (.lst (ps.map pzD))), x4, x5, x6, x7, x8, some (.d (ltr (joinL ps))), some (.d (.lst ((joinL ps).map pzD))), some (.d (.str (reprS (joinL ps)))), some (.d odd), x13, x14, x15, x16, x17]) rfl rfl
  have e3 := odd_no (S := S) (true_in hk) (f := fC (.bl true)) (g := fV 9) (Γ := [x0, some (.loc 2), x2, some (.d (.lst (ps.map pzD))), x4, x5, x6, x7, x8, some (.d (ltr (joinL ps))), some (.d (.lst ((joinL ps).map pzD))), some (.d (.str (reprS (joinL ps)))), some (.d odd), x13, x14, x15, x16, x17]) rfl rfl
  have e2 : bV (fOp (gEqU true) (fCall gReprK (fCons (fV 9) (fNil))) (fV 11)) [x0, some (.loc 2), x2, some (.d (.lst (ps.map pzD))), x4, x5, x6, x7, x8, some (.d (ltr (joinL ps))), some (.d (.lst ((joinL ps).map pzD))), some (.d (.str (reprS (joinL ps)))), some (.d odd), x13, x14, x15, x16, x17] S = some false := by
    have hr : G_repr [.ins 0 [.lst ((joinL ps).map pzD)]] = some (.ok (.str (reprS (joinL ps)))) := by
      show (runsOf (ltr (joinL ps))).map _ = _
      rw [runsOf_ltr hk]; rfl
    have h1 : fCall gReprK (fCons (fV 9) (fNil)) [x0, some (.loc 2), x2, some (.d (.lst (ps.map pzD))), x4, x5, x6, x7, x8, some (.d (ltr (joinL ps))), some (.d (.lst ((joinL ps).map pzD))), some (.d (.str (reprS (joinL ps)))), some (.d odd), x13, x14, x15, x16, x17] S = some (.d (.str (reprS (joinL ps)))) := by
      simp only [gReprK, gOwnS, ltr, hr, stG, wSeq, wIf, wAsg, wRet, wRetN, wNext, wDrop, wP, wB, wPs, wCons, wNil, wOp, wFn, wPar, wAsgT, wTup, wLst, wNewL, setIx_eq, setA, wM1, wI, wFor, bV, bNot, bAnd, bOr, fOp, fC, fV, fCons, fNil, fCall, fIsi, fAnd, fOr, fNot, chain_le, fTup, fLst, fIf, fFn, tgN, tgT, setAll, gI, gLen, gLe, gLt, gGe, gGt, LP.gSub, gMod, gFdiv, gPow, gPlus, gTimes, gIntA, gInt, gIsN, gIx, tyA, TN.sub, LP.dataOf, A.toD, viewL, viewQ, viewT, gEq_ii, gEq_ss, gEq_bb, gEq_nn, fSl, slV, oN, oS, iL, iR1, wFnM, gFdivW, tNot', tV, wFrz, fFld, fldV, gEither, gOwnIn, gOwnBin, gOwnEq, fIsiO, gIsiO, fProp, propV, fMeth, fMake, fMakeV, twoT, viewT, iZQ, iET, Option.bind_some, Option.map_some, Option.bind_none, Option.map_none, Option.bind, Option.map, List.getElem?_cons_zero, List.getElem?_cons_succ, List.getElem?_nil, List.set_cons_zero, List.set_cons_succ, List.set_nil, if_true, if_false, ↓reduceIte, Bool.not_true, Bool.not_false, decide_true, decide_false, Bool.false_eq_true, reduceCtorEq, true_and, false_and, and_true, and_false, not_true, not_false_eq_true, List.any_cons, List.any_nil, Bool.or_false, Bool.or_true, Bool.true_or, Bool.false_or, Bool.and_true, Bool.true_and, Bool.and_false, Bool.false_and, exists_eq_left, exists_eq_left', Option.some.injEq, A.d.injEq, D.int.injEq, D.bl.injEq, D.str.injEq, D.lst.injEq, D.tup.injEq, Except.ok.injEq, List.cons_append, List.nil_append, List.map_cons, List.map_nil, List.length_cons, List.length_nil, List.replicate, Nat.reduceSub, Nat.reduceAdd, List.append_nil, eq_self, or_true, true_or, or_false, false_or, Int.reduceNeg, Int.reducePow, Int.reduceLT, Int.reduceLE, List.length_set]
    generalize reprS (joinL ps) = t at h1 ⊢
    simp only [bV, fOp, h1, Option.bind_some, fV, List.getElem?_cons_succ, List.getElem?_cons_zero]
    rw [gEq_ss]
    simp
  unfold w_law_for1_5
  refine ⟨false, ?_, hZ⟩
  simp only [bOr, e1, e2, e3, Option.bind_some, Bool.false_eq_true, if_false]
theorem turn_asks {p : PZ} {bad oth : D} (hg : near 3 p) (hb : bad ∈ badL) (ho : oth ∈ othL) {fs : List Addr} (hfs : fs.length = Ls.length) (hLs : Ls.length = 4) {k1 : Nat} (hk1 : S[k1]? = some (.fnl lamQ fs Ls))
    (hZ : ∀ (z8 : Option A) (m : MO), Z.nx [x0, some (.loc 2), x2, x3, x4, x5, some (.d bad), some (.d (.lst (fs.map D.fn))), z8, x9, x10, x11, x12, some (.d (pzD p)), some (.d oth), x15, x16, x17] (S ++ [m])) :
    w_law_for1_9 Pt Ls [x0, some (.loc 2), x2, x3, x4, x5, some (.d bad), some (.d (.lst (fs.map D.fn))), x8, x9, x10, x11, x12, some (.d (pzD p)), some (.d oth), x15, x16, x17] S Z := by
  have i0 : ∀ S, gIx S (.d (pzD p)) (.d (.int 0)) = some (.int p.1) := fun S => rfl
  have i1 : ∀ S, gIx S (.d (pzD p)) (.d (.int 1)) = some (.int p.2) := fun S => rfl
  have p18 : (10 : Int) ^ Int.toNat 18 = 1000000000000000000 := by decide
  simp only [w_law_for1_9, i0, i1, stG, wSeq, wIf, wAsg, wRet, wRetN, wNext, wDrop, wP, wB, wPs, wCons, wNil, wOp, wFn, wPar, wAsgT, wTup, wLst, wNewL, setIx_eq, setA, wM1, wI, wFor, bV, bNot, bAnd, bOr, fOp, fC, fV, fCons, fNil, fCall, fIsi, fAnd, fOr, fNot, chain_le, fTup, fLst, fIf, fFn, tgN, tgT, setAll, gI, gLen, gLe, gLt, gGe, gGt, LP.gSub, gMod, gFdiv, gPow, gPlus, gTimes, gIntA, gInt, gIsN, tyA, TN.sub, LP.dataOf, A.toD, viewL, viewQ, viewT, gEq_ii, gEq_ss, gEq_bb, gEq_nn, fSl, slV, oN, oS, iL, iR1, wFnM, gFdivW, tNot', tV, wFrz, fFld, fldV, gEither, gOwnIn, gOwnBin, gOwnEq, fIsiO, gIsiO, fProp, propV, fMeth, fMake, fMakeV, twoT, viewT, iZQ, iET, Option.bind_some, Option.map_some, Option.bind_none, Option.map_none, Option.bind, Option.map, List.getElem?_cons_zero, List.getElem?_cons_succ, List.getElem?_nil, List.set_cons_zero, List.set_cons_succ, List.set_nil, if_true, if_false, ↓reduceIte, Bool.not_true, Bool.not_false, decide_true, decide_false, Bool.false_eq_true, reduceCtorEq, true_and, false_and, and_true, and_false, not_true, not_false_eq_true, List.any_cons, List.any_nil, Bool.or_false, Bool.or_true, Bool.true_or, Bool.false_or, Bool.and_true, Bool.true_and, Bool.and_false, Bool.false_and, exists_eq_left, exists_eq_left', Option.some.injEq, A.d.injEq, D.int.injEq, D.bl.injEq, D.str.injEq, D.lst.injEq, D.tup.injEq, Except.ok.injEq, List.cons_append, List.nil_append, List.map_cons, List.map_nil, List.length_cons, List.length_nil, List.replicate, Nat.reduceSub, Nat.reduceAdd, List.append_nil, eq_self, or_true, true_or, or_false, false_or, Int.reduceNeg, Int.reducePow, Int.reduceLT, Int.reduceLE, List.length_set]
  unfold w_law_for1_10
  refine whys_same (due := .lst [.tup [.str "InvalidSpan", .tup [.int 0]], .tup [.str "InvalidSpan", .tup [.int 1]], .tup [.str "value", .lst [pzD p]], .tup [.str "value", .int (p.2 - p.1 + 2)]]) (fun S => rfl) rfl (fun m => hZ _ m) fun K hK => ?_
  refine ⟨k1, fs, rfl, hk1, by rw [hfs, hLs]; rfl, fun m => ?_⟩
  refine whys_er (er := eSpan 0) (fun E K h => make_er (l := [bad]) rfl (bad1 hb) h) (by simp [eSpan]) (why_span 0) ?_
  refine whys_er (er := eSpan 1) (fun E K h => make_er (l := [pzD p, bad, oth]) rfl (bad2 (near_ok hg) hb ho) h) (by simp [eSpan]) (why_span 1) ?_
  refine whys_ok (d := .lst [pzD p]) (fun E K h => make_ok (l := [pzD p, pzD p]) rfl (good2 hg) ⟨_, rfl, [], _, rfl, runs_ok (oks1 hg), h⟩) ?_
  refine whys_ok (d := .int (p.2 - p.1 + 2)) (fun E K h => make_ok (l := [pzD p, .tup [.int 999999999999999999, .int 999999999999999999]]) ?_ (good3 hg) ⟨_, _, rfl, many_ok (oks2 hg), ?_⟩) ?_
  · simp only [n10, p18, stG, wSeq, wIf, wAsg, wRet, wRetN, wNext, wDrop, wP, wB, wPs, wCons, wNil, wOp, wFn, wPar, wAsgT, wTup, wLst, wNewL, setIx_eq, setA, wM1, wI, wFor, bV, bNot, bAnd, bOr, fOp, fC, fV, fCons, fNil, fCall, fIsi, fAnd, fOr, fNot, chain_le, fTup, fLst, fIf, fFn, tgN, tgT, setAll, gI, gLen, gLe, gLt, gGe, gGt, LP.gSub, gMod, gFdiv, gPow, gPlus, gTimes, gIntA, gInt, gIsN, gIx, tyA, TN.sub, LP.dataOf, A.toD, viewL, viewQ, viewT, gEq_ii, gEq_ss, gEq_bb, gEq_nn, fSl, slV, oN, oS, iL, iR1, wFnM, gFdivW, tNot', tV, wFrz, fFld, fldV, gEither, gOwnIn, gOwnBin, gOwnEq, fIsiO, gIsiO, fProp, propV, fMeth, fMake, fMakeV, twoT, viewT, iZQ, iET, Option.bind_some, Option.map_some, Option.bind_none, Option.map_none, Option.bind, Option.map, List.getElem?_cons_zero, List.getElem?_cons_succ, List.getElem?_nil, List.set_cons_zero, List.set_cons_succ, List.set_nil, if_true, if_false, ↓reduceIte, Bool.not_true, Bool.not_false, decide_true, decide_false, Bool.false_eq_true, reduceCtorEq, true_and, false_and, and_true, and_false, not_true, not_false_eq_true, List.any_cons, List.any_nil, Bool.or_false, Bool.or_true, Bool.true_or, Bool.false_or, Bool.and_true, Bool.true_and, Bool.and_false, Bool.false_and, exists_eq_left, exists_eq_left', Option.some.injEq, A.d.injEq, D.int.injEq, D.bl.injEq, D.str.injEq, D.lst.injEq, D.tup.injEq, Except.ok.injEq, List.cons_append, List.nil_append, List.map_cons, List.map_nil, List.length_cons, List.length_nil, List.replicate, Nat.reduceSub, Nat.reduceAdd, List.append_nil, eq_self, or_true, true_or, or_false, false_or, Int.reduceNeg, Int.reducePow, Int.reduceLT, Int.reduceLE, List.length_set]
    rfl
  · have e : lenL [p, (GR, GR)] = p.2 - p.1 + 2 := by
      simp only [lenL, List.map_cons, List.map_nil, List.sum_cons, List.sum_nil]
      omega
    rw [e]
    exact h
  exact hK _
theorem turn_6 (hT : S[1]? = some (.tab Pt lamQ)) (hS : S[2]? = some m) (hb : Bag m) (hLs : Ls.length = 4)
    (hZ : ∀ (z6 z7 z8 z13 z14 : Option A) (S' : So) (m' : MO), S'[1]? = some (.tab Pt lamQ) → S'[2]? = some m' → Bag m' → Z.nx [x0, some (.loc 2), x2, x3, x4, x5, z6, z7, z8, x9, x10, x11, x12, z13, z14, x15, x16, x17] S') :
    w_law_for1_6 Pt Ls [x0, some (.loc 2), x2, x3, x4, x5, x6, x7, x8, x9, x10, x11, x12, x13, x14, x15, x16, x17] S Z := by
  have p18 : (10 : Int) ^ Int.toNat 18 = 1000000000000000000 := by decide
  simp only [w_law_for1_6, n10, p18, stG, wSeq, wIf, wAsg, wRet, wRetN, wNext, wDrop, wP, wB, wPs, wCons, wNil, wOp, wFn, wPar, wAsgT, wTup, wLst, wNewL, setIx_eq, setA, wM1, wI, wFor, bV, bNot, bAnd, bOr, fOp, fC, fV, fCons, fNil, fCall, fIsi, fAnd, fOr, fNot, chain_le, fTup, fLst, fIf, fFn, tgN, tgT, setAll, gI, gLen, gLe, gLt, gGe, gGt, LP.gSub, gMod, gFdiv, gPow, gPlus, gTimes, gIntA, gInt, gIsN, gIx, tyA, TN.sub, LP.dataOf, A.toD, viewL, viewQ, viewT, gEq_ii, gEq_ss, gEq_bb, gEq_nn, fSl, slV, oN, oS, iL, iR1, wFnM, gFdivW, tNot', tV, wFrz, fFld, fldV, gEither, gOwnIn, gOwnBin, gOwnEq, fIsiO, gIsiO, fProp, propV, fMeth, fMake, fMakeV, twoT, viewT, iZQ, iET, Option.bind_some, Option.map_some, Option.bind_none, Option.map_none, Option.bind, Option.map, List.getElem?_cons_zero, List.getElem?_cons_succ, List.getElem?_nil, List.set_cons_zero, List.set_cons_succ, List.set_nil, if_true, if_false, ↓reduceIte, Bool.not_true, Bool.not_false, decide_true, decide_false, Bool.false_eq_true, reduceCtorEq, true_and, false_and, and_true, and_false, not_true, not_false_eq_true, List.any_cons, List.any_nil, Bool.or_false, Bool.or_true, Bool.true_or, Bool.false_or, Bool.and_true, Bool.true_and, Bool.and_false, Bool.false_and, exists_eq_left, exists_eq_left', Option.some.injEq, A.d.injEq, D.int.injEq, D.bl.injEq, D.str.injEq, D.lst.injEq, D.tup.injEq, Except.ok.injEq, List.cons_append, List.nil_append, List.map_cons, List.map_nil, List.length_cons, List.length_nil, List.replicate, Nat.reduceSub, Nat.reduceAdd, List.append_nil, eq_self, or_true, true_or, or_false, false_or, Int.reduceNeg, Int.reducePow, Int.reduceLT, Int.reduceLE, List.length_set]
  refine ⟨2, m, _, badL, rfl, hS, hb, rfl, by simp, by simp, fun bad m1 hb1 hbad => ?_⟩
  simp only [w_law_for1_7, stG, wSeq, wIf, wAsg, wRet, wRetN, wNext, wDrop, wP, wB, wPs, wCons, wNil, wOp, wFn, wPar, wAsgT, wTup, wLst, wNewL, setIx_eq, setA, wM1, wI, wFor, bV, bNot, bAnd, bOr, fOp, fC, fV, fCons, fNil, fCall, fIsi, fAnd, fOr, fNot, chain_le, fTup, fLst, fIf, fFn, tgN, tgT, setAll, gI, gLen, gLe, gLt, gGe, gGt, LP.gSub, gMod, gFdiv, gPow, gPlus, gTimes, gIntA, gInt, gIsN, gIx, tyA, TN.sub, LP.dataOf, A.toD, viewL, viewQ, viewT, gEq_ii, gEq_ss, gEq_bb, gEq_nn, fSl, slV, oN, oS, iL, iR1, wFnM, gFdivW, tNot', tV, wFrz, fFld, fldV, gEither, gOwnIn, gOwnBin, gOwnEq, fIsiO, gIsiO, fProp, propV, fMeth, fMake, fMakeV, twoT, viewT, iZQ, iET, Option.bind_some, Option.map_some, Option.bind_none, Option.map_none, Option.bind, Option.map, List.getElem?_cons_zero, List.getElem?_cons_succ, List.getElem?_nil, List.set_cons_zero, List.set_cons_succ, List.set_nil, if_true, if_false, ↓reduceIte, Bool.not_true, Bool.not_false, decide_true, decide_false, Bool.false_eq_true, reduceCtorEq, true_and, false_and, and_true, and_false, not_true, not_false_eq_true, List.any_cons, List.any_nil, Bool.or_false, Bool.or_true, Bool.true_or, Bool.false_or, Bool.and_true, Bool.true_and, Bool.and_false, Bool.false_and, exists_eq_left, exists_eq_left', Option.some.injEq, A.d.injEq, D.int.injEq, D.bl.injEq, D.str.injEq, D.lst.injEq, D.tup.injEq, Except.ok.injEq, List.cons_append, List.nil_append, List.map_cons, List.map_nil, List.length_cons, List.length_nil, List.replicate, Nat.reduceSub, Nat.reduceAdd, List.append_nil, eq_self, or_true, true_or, or_false, false_or, Int.reduceNeg, Int.reducePow, Int.reduceLT, Int.reduceLE, List.length_set]
  refine ⟨2, m1, 3, rfl, get_eq hS, hb1, fun p m2 hb2 hp => ?_⟩
  refine ⟨2, m2, _, othL, rfl, get_eq (get_eq hS), hb2, rfl, by simp, by simp, fun oth m3 hb3 ho => ?_⟩
  have e5 : (((S.set 2 m1).set 2 m2).set 2 m3)[2]? = some m3 := get_eq (get_eq (get_eq hS))
  have t5 : (((S.set 2 m1).set 2 m2).set 2 m3)[1]? = some (.tab Pt lamQ) := get_ne (get_ne (get_ne hT (by decide)) (by decide)) (by decide)
  generalize ((S.set 2 m1).set 2 m2).set 2 m3 = S5 at e5 t5 ⊢
  simp only [w_law_for1_8, wLams, stG, wSeq, wIf, wAsg, wRet, wRetN, wNext, wDrop, wP, wB, wPs, wCons, wNil, wOp, wFn, wPar, wAsgT, wTup, wLst, wNewL, setIx_eq, setA, wM1, wI, wFor, bV, bNot, bAnd, bOr, fOp, fC, fV, fCons, fNil, fCall, fIsi, fAnd, fOr, fNot, chain_le, fTup, fLst, fIf, fFn, tgN, tgT, setAll, gI, gLen, gLe, gLt, gGe, gGt, LP.gSub, gMod, gFdiv, gPow, gPlus, gTimes, gIntA, gInt, gIsN, gIx, tyA, TN.sub, LP.dataOf, A.toD, viewL, viewQ, viewT, gEq_ii, gEq_ss, gEq_bb, gEq_nn, fSl, slV, oN, oS, iL, iR1, wFnM, gFdivW, tNot', tV, wFrz, fFld, fldV, gEither, gOwnIn, gOwnBin, gOwnEq, fIsiO, gIsiO, fProp, propV, fMeth, fMake, fMakeV, twoT, viewT, iZQ, iET, Option.bind_some, Option.map_some, Option.bind_none, Option.map_none, Option.bind, Option.map, List.getElem?_cons_zero, List.getElem?_cons_succ, List.getElem?_nil, List.set_cons_zero, List.set_cons_succ, List.set_nil, if_true, if_false, ↓reduceIte, Bool.not_true, Bool.not_false, decide_true, decide_false, Bool.false_eq_true, reduceCtorEq, true_and, false_and, and_true, and_false, not_true, not_false_eq_true, List.any_cons, List.any_nil, Bool.or_false, Bool.or_true, Bool.true_or, Bool.false_or, Bool.and_true, Bool.true_and, Bool.and_false, Bool.false_and, exists_eq_left, exists_eq_left', Option.some.injEq, A.d.injEq, D.int.injEq, D.bl.injEq, D.str.injEq, D.lst.injEq, D.tup.injEq, Except.ok.injEq, List.cons_append, List.nil_append, List.map_cons, List.map_nil, List.length_cons, List.length_nil, List.replicate, Nat.reduceSub, Nat.reduceAdd, List.append_nil, eq_self, or_true, true_or, or_false, false_or, Int.reduceNeg, Int.reducePow, Int.reduceLT, Int.reduceLE, List.length_set]
  refine ⟨t5, fun fs hfs => ?_⟩
  exact turn_asks (k1 := S5.length) hp hbad ho hfs hLs (by rw [List.getElem?_append_right (Nat.le_refl _)]; simp) fun z8 mm => hZ _ _ _ _ _ _ _ (get_app (get_app t5)) (get_app (get_app e5)) hb3
theorem turn_4 (hk : oks 60 (joinL ps) = true) (hT : S[1]? = some (.tab Pt lamQ)) (hS : S[2]? = some m) (hb : Bag m) (hLs : Ls.length = 4)
    (hZ : ∀ (z6 z7 z8 z11 z12 z13 z14 : Option A) (S' : So) (m' : MO), S'[1]? = some (.tab Pt lamQ) → S'[2]? = some m' → Bag m' → Z.nx [x0, some (.loc 2), x2, some (.d (.lst (ps.map pzD))), x4, x5, z6, z7, z8, some (.d (ltr (joinL ps))), some (.d (.lst ((joinL ps).map pzD))), z11, z12, z13, z14, x15, x16, x17] S') :
    w_law_for1_4 Pt Ls [x0, some (.loc 2), x2, some (.d (.lst (ps.map pzD))), x4, x5, x6, x7, x8, some (.d (ltr (joinL ps))), some (.d (.lst ((joinL ps).map pzD))), x11, x12, x13, x14, x15, x16, x17] S Z := by
  obtain ⟨hbg, hln⟩ := bigs_of hk
  have hr := rtext_len hbg hln
  have hx : G_rtext [.lst ((joinL ps).map pzD)] = some (.ok (.str (rtext (joinL ps)))) := by
    simp only [G_rtext, prs_ok hbg hln, Option.map_some]
  have l1 : ("Letter(" : Str).length = 7 := by decide +kernel
  have l2 : (")" : Str).length = 1 := by decide +kernel
  have z1 : (("Letter(" : Str).length + (rtext (joinL ps)).length ≤ sizeLine) = True := big_le (by omega)
  have z2 : (("Letter(" ++ rtext (joinL ps) : Str).length + (")" : Str).length ≤ sizeLine) = True := big_le (by rw [app_len]; omega)
  simp only [w_law_for1_4, hx, z1, z2, stG, wSeq, wIf, wAsg, wRet, wRetN, wNext, wDrop, wP, wB, wPs, wCons, wNil, wOp, wFn, wPar, wAsgT, wTup, wLst, wNewL, setIx_eq, setA, wM1, wI, wFor, bV, bNot, bAnd, bOr, fOp, fC, fV, fCons, fNil, fCall, fIsi, fAnd, fOr, fNot, chain_le, fTup, fLst, fIf, fFn, tgN, tgT, setAll, gI, gLen, gLe, gLt, gGe, gGt, LP.gSub, gMod, gFdiv, gPow, gPlus, gTimes, gIntA, gInt, gIsN, gIx, tyA, TN.sub, LP.dataOf, A.toD, viewL, viewQ, viewT, gEq_ii, gEq_ss, gEq_bb, gEq_nn, fSl, slV, oN, oS, iL, iR1, wFnM, gFdivW, tNot', tV, wFrz, fFld, fldV, gEither, gOwnIn, gOwnBin, gOwnEq, fIsiO, gIsiO, fProp, propV, fMeth, fMake, fMakeV, twoT, viewT, iZQ, iET, Option.bind_some, Option.map_some, Option.bind_none, Option.map_none, Option.bind, Option.map, List.getElem?_cons_zero, List.getElem?_cons_succ, List.getElem?_nil, List.set_cons_zero, List.set_cons_succ, List.set_nil, if_true, if_false, ↓reduceIte, Bool.not_true, Bool.not_false, decide_true, decide_false, Bool.false_eq_true, reduceCtorEq, true_and, false_and, and_true, and_false, not_true, not_false_eq_true, List.any_cons, List.any_nil, Bool.or_false, Bool.or_true, Bool.true_or, Bool.false_or, Bool.and_true, Bool.true_and, Bool.and_false, Bool.false_and, exists_eq_left, exists_eq_left', Option.some.injEq, A.d.injEq, D.int.injEq, D.bl.injEq, D.str.injEq, D.lst.injEq, D.tup.injEq, Except.ok.injEq, List.cons_append, List.nil_append, List.map_cons, List.map_nil, List.length_cons, List.length_nil, List.replicate, Nat.reduceSub, Nat.reduceAdd, List.append_nil, eq_self, or_true, true_or, or_false, false_or, Int.reduceNeg, Int.reducePow, Int.reduceLT, Int.reduceLE, List.length_set]
  refine ⟨2, m, rfl, hS, hb, fun odd m1 hb1 ho => ?_⟩
  refine turn_odd hk ho ?_
  exact turn_6 (get_ne hT (by decide)) (get_eq hS) hb1 hLs fun z6 z7 z8 z13 z14 S' m' a b c => hZ _ _ _ _ _ _ _ S' m' a b c
theorem law_turn (hLs : Ls.length = 4) (hT : S[1]? = some (.tab Pt lamQ)) (hS : S[2]? = some m) (hb : Bag m)
    (hZ : ∀ (z3 z4 z5 z6 z7 z8 z9 z10 z11 z12 z13 z14 z15 z16 z17 : Option A) (S' : So) (m' : MO), S'[1]? = some (.tab Pt lamQ) → S'[2]? = some m' → Bag m' → Z.nx [x0, some (.loc 2), x2, z3, z4, z5, z6, z7, z8, z9, z10, z11, z12, z13, z14, z15, z16, z17] S') :
    w_law_for1_0 Pt Ls [x0, some (.loc 2), x2, x3, x4, x5, x6, x7, x8, x9, x10, x11, x12, x13, x14, x15, x16, x17] S Z := by
  simp only [w_law_for1_0, stG, wSeq, wIf, wAsg, wRet, wRetN, wNext, wDrop, wP, wB, wPs, wCons, wNil, wOp, wFn, wPar, wAsgT, wTup, wLst, wNewL, setIx_eq, setA, wM1, wI, wFor, bV, bNot, bAnd, bOr, fOp, fC, fV, fCons, fNil, fCall, fIsi, fAnd, fOr, fNot, chain_le, fTup, fLst, fIf, fFn, tgN, tgT, setAll, gI, gLen, gLe, gLt, gGe, gGt, LP.gSub, gMod, gFdiv, gPow, gPlus, gTimes, gIntA, gInt, gIsN, gIx, tyA, TN.sub, LP.dataOf, A.toD, viewL, viewQ, viewT, gEq_ii, gEq_ss, gEq_bb, gEq_nn, fSl, slV, oN, oS, iL, iR1, wFnM, gFdivW, tNot', tV, wFrz, fFld, fldV, gEither, gOwnIn, gOwnBin, gOwnEq, fIsiO, gIsiO, fProp, propV, fMeth, fMake, fMakeV, twoT, viewT, iZQ, iET, Option.bind_some, Option.map_some, Option.bind_none, Option.map_none, Option.bind, Option.map, List.getElem?_cons_zero, List.getElem?_cons_succ, List.getElem?_nil, List.set_cons_zero, List.set_cons_succ, List.set_nil, if_true, if_false, ↓reduceIte, Bool.not_true, Bool.not_false, decide_true, decide_false, Bool.false_eq_true, reduceCtorEq, true_and, false_and, and_true, and_false, not_true, not_false_eq_true, List.any_cons, List.any_nil, Bool.or_false, Bool.or_true, Bool.true_or, Bool.false_or, Bool.and_true, Bool.true_and, Bool.and_false, Bool.false_and, exists_eq_left, exists_eq_left', Option.some.injEq, A.d.injEq, D.int.injEq, D.bl.injEq, D.str.injEq, D.lst.injEq, D.tup.injEq, Except.ok.injEq, List.cons_append, List.nil_append, List.map_cons, List.map_nil, List.length_cons, List.length_nil, List.replicate, Nat.reduceSub, Nat.reduceAdd, List.append_nil, eq_self, or_true, true_or, or_false, false_or, Int.reduceNeg, Int.reducePow, Int.reduceLT, Int.reduceLE, List.length_set]
  refine ⟨2, m, rfl, hS, hb, fun ps m1 hb1 hp hl => ?_⟩
  have e1 : (S.set 2 m1)[2]? = some m1 := get_eq hS
  have t1 : (S.set 2 m1)[1]? = some (.tab Pt lamQ) := get_ne hT (by decide)
  generalize S.set 2 m1 = S1 at e1 t1 ⊢
  have hk0 : oks 60 ps = true := oks_iff.mpr ⟨hp, by omega⟩
  have hk := jn_oks hk0
  have g1 : G_letter [.lst (ps.map pzD)] = some (.ok (ltr (joinL ps))) := by
    simp only [G_letter, spansOf_lst hk0, Option.bind_some, hl, if_true]
  have g2 : G_joined [.lst (ps.map pzD)] = some (.ok (.lst ((joinL ps).map pzD))) := by
    simp only [G_joined, spansOf_lst hk0, Option.map_some]
  have g3 : G_near [.lst (ps.map pzD)] = some (.ok (.lst ((nearL ps).map .int))) := by
    simp only [G_near, spansOf_lst hk0, Option.bind_some, hl, if_true]
  simp only [w_law_for1_1, g1, g2, stG, wSeq, wIf, wAsg, wRet, wRetN, wNext, wDrop, wP, wB, wPs, wCons, wNil, wOp, wFn, wPar, wAsgT, wTup, wLst, wNewL, setIx_eq, setA, wM1, wI, wFor, bV, bNot, bAnd, bOr, fOp, fC, fV, fCons, fNil, fCall, fIsi, fAnd, fOr, fNot, chain_le, fTup, fLst, fIf, fFn, tgN, tgT, setAll, gI, gLen, gLe, gLt, gGe, gGt, LP.gSub, gMod, gFdiv, gPow, gPlus, gTimes, gIntA, gInt, gIsN, gIx, tyA, TN.sub, LP.dataOf, A.toD, viewL, viewQ, viewT, gEq_ii, gEq_ss, gEq_bb, gEq_nn, fSl, slV, oN, oS, iL, iR1, wFnM, gFdivW, tNot', tV, wFrz, fFld, fldV, gEither, gOwnIn, gOwnBin, gOwnEq, fIsiO, gIsiO, fProp, propV, fMeth, fMake, fMakeV, twoT, viewT, iZQ, iET, Option.bind_some, Option.map_some, Option.bind_none, Option.map_none, Option.bind, Option.map, List.getElem?_cons_zero, List.getElem?_cons_succ, List.getElem?_nil, List.set_cons_zero, List.set_cons_succ, List.set_nil, if_true, if_false, ↓reduceIte, Bool.not_true, Bool.not_false, decide_true, decide_false, Bool.false_eq_true, reduceCtorEq, true_and, false_and, and_true, and_false, not_true, not_false_eq_true, List.any_cons, List.any_nil, Bool.or_false, Bool.or_true, Bool.true_or, Bool.false_or, Bool.and_true, Bool.true_and, Bool.and_false, Bool.false_and, exists_eq_left, exists_eq_left', Option.some.injEq, A.d.injEq, D.int.injEq, D.bl.injEq, D.str.injEq, D.lst.injEq, D.tup.injEq, Except.ok.injEq, List.cons_append, List.nil_append, List.map_cons, List.map_nil, List.length_cons, List.length_nil, List.replicate, Nat.reduceSub, Nat.reduceAdd, List.append_nil, eq_self, or_true, true_or, or_false, false_or, Int.reduceNeg, Int.reducePow, Int.reduceLT, Int.reduceLE, List.length_set]
  simp only [w_law_for1_2, wSeq, wFor, wI]
  refine ⟨_, _, rfl, rfl, ?_⟩
  refine loop_inv (fun r Γ S' => ∃ (y4 : Option A), S'[1]? = some (.tab Pt lamQ) ∧ S'[2]? = some m1 ∧ Γ = [x0, some (.loc 2), x2, some (.d (.lst (ps.map pzD))), y4, x5, x6, x7, x8, some (.d (ltr (joinL ps))), some (.d (.lst ((joinL ps).map pzD))), x11, x12, x13, x14, x15, x16, x17]) ?_ ?_ _ _ _ ⟨_, t1, e1, rfl⟩
  · rintro d r Γ S' nx ⟨y4, h1, h2, rfl⟩ hnx
    exact ⟨_, rfl, turn_2 hk h1 h2 fun S2 a b => hnx _ _ rfl ⟨_, a, b, rfl⟩⟩
  rintro Γ S2 ⟨y4, t2, e2, rfl⟩
  simp only [w_law_for1_3, wSeq, wFor, wI]
  have hn : ∀ x ∈ nearL ps, 0 ≤ x ∧ x ≤ GR := fun x hx => of_decide_eq_true (List.mem_filter.mp hx).2
  have hi : iL (fFn [] G_near (fCons (fV 3) (fNil))) [x0, some (.loc 2), x2, some (.d (.lst (ps.map pzD))), y4, x5, x6, x7, x8, some (.d (ltr (joinL ps))), some (.d (.lst ((joinL ps).map pzD))), x11, x12, x13, x14, x15, x16, x17] S2 = some fun S' => viewL S' (.d (.lst ((nearL ps).map .int))) := by
    simp only [g3, stG, wSeq, wIf, wAsg, wRet, wRetN, wNext, wDrop, wP, wB, wPs, wCons, wNil, wOp, wFn, wPar, wAsgT, wTup, wLst, wNewL, setIx_eq, setA, wM1, wI, wFor, bV, bNot, bAnd, bOr, fOp, fC, fV, fCons, fNil, fCall, fIsi, fAnd, fOr, fNot, chain_le, fTup, fLst, fIf, fFn, tgN, tgT, setAll, gI, gLen, gLe, gLt, gGe, gGt, LP.gSub, gMod, gFdiv, gPow, gPlus, gTimes, gIntA, gInt, gIsN, gIx, tyA, TN.sub, LP.dataOf, A.toD, viewQ, viewT, gEq_ii, gEq_ss, gEq_bb, gEq_nn, fSl, slV, oN, oS, iL, iR1, wFnM, gFdivW, tNot', tV, wFrz, fFld, fldV, gEither, gOwnIn, gOwnBin, gOwnEq, fIsiO, gIsiO, fProp, propV, fMeth, fMake, fMakeV, twoT, viewT, iZQ, iET, Option.bind_some, Option.map_some, Option.bind_none, Option.map_none, Option.bind, Option.map, List.getElem?_cons_zero, List.getElem?_cons_succ, List.getElem?_nil, List.set_cons_zero, List.set_cons_succ, List.set_nil, if_true, if_false, ↓reduceIte, Bool.not_true, Bool.not_false, decide_true, decide_false, Bool.false_eq_true, reduceCtorEq, true_and, false_and, and_true, and_false, not_true, not_false_eq_true, List.any_cons, List.any_nil, Bool.or_false, Bool.or_true, Bool.true_or, Bool.false_or, Bool.and_true, Bool.true_and, Bool.and_false, Bool.false_and, exists_eq_left, exists_eq_left', Option.some.injEq, A.d.injEq, D.int.injEq, D.bl.injEq, D.str.injEq, D.lst.injEq, D.tup.injEq, Except.ok.injEq, List.cons_append, List.nil_append, List.map_cons, List.map_nil, List.length_cons, List.length_nil, List.replicate, Nat.reduceSub, Nat.reduceAdd, List.append_nil, eq_self, or_true, true_or, or_false, false_or, Int.reduceNeg, Int.reducePow, Int.reduceLT, Int.reduceLE, List.length_set]
  refine ⟨_, _, hi, rfl, ?_⟩
  refine loop_inv (fun r Γ S' => ∃ (rest : List Int) (y5 : Option A), r = rest.map D.int ∧ (∀ x ∈ rest, 0 ≤ x ∧ x ≤ GR) ∧ S' = S2 ∧ Γ = [x0, some (.loc 2), x2, some (.d (.lst (ps.map pzD))), y4, y5, x6, x7, x8, some (.d (ltr (joinL ps))), some (.d (.lst ((joinL ps).map pzD))), x11, x12, x13, x14, x15, x16, x17]) ?_ ?_ _ _ _ ⟨nearL ps, _, rfl, hn, rfl, rfl⟩
  · rintro d r Γ S' nx ⟨rest, y5, hr, hx, rfl, rfl⟩ hnx
    cases rest with
    | nil => cases hr
    | cons x rest =>
      cases hr
      obtain ⟨h0, h1⟩ := hx x List.mem_cons_self
      exact ⟨_, rfl, turn_n hp hl h0 h1 (hnx _ _ rfl ⟨rest, _, rfl, fun y hy => hx y (List.mem_cons_of_mem _ hy), rfl, rfl⟩)⟩
  rintro Γ S3 ⟨rest, y5, hr, hx, rfl, rfl⟩
  exact turn_4 hk t2 e2 hb1 hLs fun z6 z7 z8 z11 z12 z13 z14 S' m' a b c => hZ _ _ _ _ _ _ _ _ _ _ _ _ _ _ _ S' m' a b c
end
theorem law_end (Γ : Ga) (S : So) : fAnd (fOp (gEqU false) (fC (.int 999999999999999999)) (fOp LP.gSub (fOp gPow (fC (.int 10)) (fC (.int 18))) (fC (.int 1)))) (fAnd (fNotO 0 G_bool (fMake 0 [] G_Letter fNil)) (fFn [] (G_same 4) (fCons (fMeth mt_runs (fMake 0 [] G_Letter (fCons (fTup (fCons (fC (.int 5)) (fCons (fC (.int 5)) (fNil)))) (fCons (fTup (fCons (fC (.int 7)) (fCons (fC (.int 9)) (fNil)))) (fCons (fTup (fCons (fC (.int 6)) (fCons (fC (.int 6)) (fNil)))) (fNil))))) fNil) (fCons (fLst (fCons (fTup (fCons (fC (.int 5)) (fCons (fC (.int 9)) (fNil)))) (fNil))) (fNil))))) Γ S = some (.d (.bl true)) := by
  have p18 : (10 : Int) ^ Int.toNat 18 = 1000000000000000000 := by decide
  have l0 := letter0
  have l3 := letter3
  have b0 : G_bool [.ins 0 [.lst []]] = some (.ok (.bl false)) := by rfl
  have r3 : G_runs [.ins 0 [.lst [.tup [.int 5, .int 9]]]] = some (.ok (.lst [.tup [.int 5, .int 9]])) := by rfl
  have hs : G_same 4 [.lst [.tup [.int 5, .int 9]], .lst [.tup [.int 5, .int 9]]] = some (.ok (.bl true)) := same_ok rfl rfl
  have a1 : fOp (gEqU false) (fC (.int 999999999999999999)) (fOp LP.gSub (fOp gPow (fC (.int 10)) (fC (.int 18))) (fC (.int 1))) Γ S = some (.d (.bl true)) := by
    simp only [n10, p18, stG, wSeq, wIf, wAsg, wRet, wRetN, wNext, wDrop, wP, wB, wPs, wCons, wNil, wOp, wFn, wPar, wAsgT, wTup, wLst, wNewL, setIx_eq, setA, wM1, wI, wFor, bV, bNot, bAnd, bOr, fOp, fC, fV, fCons, fNil, fCall, fIsi, fAnd, fOr, fNot, chain_le, fTup, fLst, fIf, fFn, tgN, tgT, setAll, gI, gLen, gLe, gLt, gGe, gGt, LP.gSub, gMod, gFdiv, gPow, gPlus, gTimes, gIntA, gInt, gIsN, gIx, tyA, TN.sub, LP.dataOf, A.toD, viewL, viewQ, viewT, gEq_ii, gEq_ss, gEq_bb, gEq_nn, fSl, slV, oN, oS, iL, iR1, wFnM, gFdivW, tNot', tV, wFrz, fFld, fldV, gEither, gOwnIn, gOwnBin, gOwnEq, fIsiO, gIsiO, fProp, propV, fMeth, fMake, fMakeV, twoT, viewT, iZQ, iET, Option.bind_some, Option.map_some, Option.bind_none, Option.map_none, Option.bind, Option.map, List.getElem?_cons_zero, List.getElem?_cons_succ, List.getElem?_nil, List.set_cons_zero, List.set_cons_succ, List.set_nil, if_true, if_false, ↓reduceIte, Bool.not_true, Bool.not_false, decide_true, decide_false, Bool.false_eq_true, reduceCtorEq, true_and, false_and, and_true, and_false, not_true, not_false_eq_true, List.any_cons, List.any_nil, Bool.or_false, Bool.or_true, Bool.true_or, Bool.false_or, Bool.and_true, Bool.true_and, Bool.and_false, Bool.false_and, exists_eq_left, exists_eq_left', Option.some.injEq, A.d.injEq, D.int.injEq, D.bl.injEq, D.str.injEq, D.lst.injEq, D.tup.injEq, Except.ok.injEq, List.cons_append, List.nil_append, List.map_cons, List.map_nil, List.length_cons, List.length_nil, List.replicate, Nat.reduceSub, Nat.reduceAdd, List.append_nil, eq_self, or_true, true_or, or_false, false_or, Int.reduceNeg, Int.reducePow, Int.reduceLT, Int.reduceLE, List.length_set]
    try rfl
  have a2 : fNotO 0 G_bool (fMake 0 [] G_Letter fNil) Γ S = some (.d (.bl true)) := by
    simp only [fNotO, fMakeV, l0, b0, stG, wSeq, wIf, wAsg, wRet, wRetN, wNext, wDrop, wP, wB, wPs, wCons, wNil, wOp, wFn, wPar, wAsgT, wTup, wLst, wNewL, setIx_eq, setA, wM1, wI, wFor, bV, bNot, bAnd, bOr, fOp, fC, fV, fCons, fNil, fCall, fIsi, fAnd, fOr, fNot, chain_le, fTup, fLst, fIf, fFn, tgN, tgT, setAll, gI, gLen, gLe, gLt, gGe, gGt, LP.gSub, gMod, gFdiv, gPow, gPlus, gTimes, gIntA, gInt, gIsN, gIx, tyA, TN.sub, LP.dataOf, A.toD, viewL, viewQ, viewT, gEq_ii, gEq_ss, gEq_bb, gEq_nn, fSl, slV, oN, oS, iL, iR1, wFnM, gFdivW, tNot', tV, wFrz, fFld, fldV, gEither, gOwnIn, gOwnBin, gOwnEq, fIsiO, gIsiO, fProp, propV, fMeth, fMake, fMakeV, twoT, viewT, iZQ, iET, Option.bind_some, Option.map_some, Option.bind_none, Option.map_none, Option.bind, Option.map, List.getElem?_cons_zero, List.getElem?_cons_succ, List.getElem?_nil, List.set_cons_zero, List.set_cons_succ, List.set_nil, if_true, if_false, ↓reduceIte, Bool.not_true, Bool.not_false, decide_true, decide_false, Bool.false_eq_true, reduceCtorEq, true_and, false_and, and_true, and_false, not_true, not_false_eq_true, List.any_cons, List.any_nil, Bool.or_false, Bool.or_true, Bool.true_or, Bool.false_or, Bool.and_true, Bool.true_and, Bool.and_false, Bool.false_and, exists_eq_left, exists_eq_left', Option.some.injEq, A.d.injEq, D.int.injEq, D.bl.injEq, D.str.injEq, D.lst.injEq, D.tup.injEq, Except.ok.injEq, List.cons_append, List.nil_append, List.map_cons, List.map_nil, List.length_cons, List.length_nil, List.replicate, Nat.reduceSub, Nat.reduceAdd, List.append_nil, eq_self, or_true, true_or, or_false, false_or, Int.reduceNeg, Int.reducePow, Int.reduceLT, Int.reduceLE, List.length_set]
    try rfl
  have a3 : fMeth mt_runs (fMake 0 [] G_Letter (fCons (fTup (fCons (fC (.int 5)) (fCons (fC (.int 5)) (fNil)))) (fCons (fTup (fCons (fC (.int 7)) (fCons (fC (.int 9)) (fNil)))) (fCons (fTup (fCons (fC (.int 6)) (fCons (fC (.int 6)) (fNil)))) (fNil))))) fNil Γ S = some (.d (.lst [.tup [.int 5, .int 9]])) := by
    simp only [fMakeV, l3, mt_runs, r3, stG, wSeq, wIf, wAsg, wRet, wRetN, wNext, wDrop, wP, wB, wPs, wCons, wNil, wOp, wFn, wPar, wAsgT, wTup, wLst, wNewL, setIx_eq, setA, wM1, wI, wFor, bV, bNot, bAnd, bOr, fOp, fC, fV, fCons, fNil, fCall, fIsi, fAnd, fOr, fNot, chain_le, fTup, fLst, fIf, fFn, tgN, tgT, setAll, gI, gLen, gLe, gLt, gGe, gGt, LP.gSub, gMod, gFdiv, gPow, gPlus, gTimes, gIntA, gInt, gIsN, gIx, tyA, TN.sub, LP.dataOf, A.toD, viewL, viewQ, viewT, gEq_ii, gEq_ss, gEq_bb, gEq_nn, fSl, slV, oN, oS, iL, iR1, wFnM, gFdivW, tNot', tV, wFrz, fFld, fldV, gEither, gOwnIn, gOwnBin, gOwnEq, fIsiO, gIsiO, fProp, propV, fMeth, fMake, fMakeV, twoT, viewT, iZQ, iET, Option.bind_some, Option.map_some, Option.bind_none, Option.map_none, Option.bind, Option.map, List.getElem?_cons_zero, List.getElem?_cons_succ, List.getElem?_nil, List.set_cons_zero, List.set_cons_succ, List.set_nil, if_true, if_false, ↓reduceIte, Bool.not_true, Bool.not_false, decide_true, decide_false, Bool.false_eq_true, reduceCtorEq, true_and, false_and, and_true, and_false, not_true, not_false_eq_true, List.any_cons, List.any_nil, Bool.or_false, Bool.or_true, Bool.true_or, Bool.false_or, Bool.and_true, Bool.true_and, Bool.and_false, Bool.false_and, exists_eq_left, exists_eq_left', Option.some.injEq, A.d.injEq, D.int.injEq, D.bl.injEq, D.str.injEq, D.lst.injEq, D.tup.injEq, Except.ok.injEq, List.cons_append, List.nil_append, List.map_cons, List.map_nil, List.length_cons, List.length_nil, List.replicate, Nat.reduceSub, Nat.reduceAdd, List.append_nil, eq_self, or_true, true_or, or_false, false_or, Int.reduceNeg, Int.reducePow, Int.reduceLT, Int.reduceLE, List.length_set]
  have a4 : fFn [] (G_same 4) (fCons (fMeth mt_runs (fMake 0 [] G_Letter (fCons (fTup (fCons (fC (.int 5)) (fCons (fC (.int 5)) (fNil)))) (fCons (fTup (fCons (fC (.int 7)) (fCons (fC (.int 9)) (fNil)))) (fCons (fTup (fCons (fC (.int 6)) (fCons (fC (.int 6)) (fNil)))) (fNil))))) fNil) (fCons (fLst (fCons (fTup (fCons (fC (.int 5)) (fCons (fC (.int 9)) (fNil)))) (fNil))) (fNil))) Γ S = some (.d (.bl true)) := by
    generalize fMeth mt_runs (fMake 0 [] G_Letter _) fNil = ff at a3 ⊢
    simp only [a3, hs, stG, wSeq, wIf, wAsg, wRet, wRetN, wNext, wDrop, wP, wB, wPs, wCons, wNil, wOp, wFn, wPar, wAsgT, wTup, wLst, wNewL, setIx_eq, setA, wM1, wI, wFor, bV, bNot, bAnd, bOr, fOp, fC, fV, fCons, fNil, fCall, fIsi, fAnd, fOr, fNot, chain_le, fTup, fLst, fIf, fFn, tgN, tgT, setAll, gI, gLen, gLe, gLt, gGe, gGt, LP.gSub, gMod, gFdiv, gPow, gPlus, gTimes, gIntA, gInt, gIsN, gIx, tyA, TN.sub, LP.dataOf, A.toD, viewL, viewQ, viewT, gEq_ii, gEq_ss, gEq_bb, gEq_nn, fSl, slV, oN, oS, iL, iR1, wFnM, gFdivW, tNot', tV, wFrz, fFld, fldV, gEither, gOwnIn, gOwnBin, gOwnEq, fIsiO, gIsiO, fProp, propV, fMeth, fMake, fMakeV, twoT, viewT, iZQ, iET, Option.bind_some, Option.map_some, Option.bind_none, Option.map_none, Option.bind, Option.map, List.getElem?_cons_zero, List.getElem?_cons_succ, List.getElem?_nil, List.set_cons_zero, List.set_cons_succ, List.set_nil, if_true, if_false, ↓reduceIte, Bool.not_true, Bool.not_false, decide_true, decide_false, Bool.false_eq_true, reduceCtorEq, true_and, false_and, and_true, and_false, not_true, not_false_eq_true, List.any_cons, List.any_nil, Bool.or_false, Bool.or_true, Bool.true_or, Bool.false_or, Bool.and_true, Bool.true_and, Bool.and_false, Bool.false_and, exists_eq_left, exists_eq_left', Option.some.injEq, A.d.injEq, D.int.injEq, D.bl.injEq, D.str.injEq, D.lst.injEq, D.tup.injEq, Except.ok.injEq, List.cons_append, List.nil_append, List.map_cons, List.map_nil, List.length_cons, List.length_nil, List.replicate, Nat.reduceSub, Nat.reduceAdd, List.append_nil, eq_self, or_true, true_or, or_false, false_or, Int.reduceNeg, Int.reducePow, Int.reduceLT, Int.reduceLE, List.length_set]
  simp only [fAnd, a1, a2, a4, Option.bind_some]
  rfl
theorem v_law (Pt : Addr) (Ls : List LamD) (hLs : Ls.length = 4) (as : List A) (S : So) (ex : EK) (Q : AK) (h : fc_lawT Pt lamQ 63 as S ex Q) : w_law Pt Ls (stG N_law as) S { nx := fun _ S' => Q (.d .non) S', rt := Q, ex := ex } := by
  obtain ⟨cs, rfl, rfl, hl, hQ⟩ := h
  simp only [w_law_0, N_law, stG, wSeq, wIf, wAsg, wRet, wRetN, wNext, wDrop, wP, wB, wPs, wCons, wNil, wOp, wFn, wPar, wAsgT, wTup, wLst, wNewL, setIx_eq, setA, wM1, wI, wFor, bV, bNot, bAnd, bOr, fOp, fC, fV, fCons, fNil, fCall, fIsi, fAnd, fOr, fNot, chain_le, fTup, fLst, fIf, fFn, tgN, tgT, setAll, gI, gLen, gLe, gLt, gGe, gGt, LP.gSub, gMod, gFdiv, gPow, gPlus, gTimes, gIntA, gInt, gIsN, gIx, tyA, TN.sub, LP.dataOf, A.toD, viewL, viewQ, viewT, gEq_ii, gEq_ss, gEq_bb, gEq_nn, fSl, slV, oN, oS, iL, iR1, wFnM, gFdivW, tNot', tV, wFrz, fFld, fldV, gEither, gOwnIn, gOwnBin, gOwnEq, fIsiO, gIsiO, fProp, propV, fMeth, fMake, fMakeV, twoT, viewT, iZQ, iET, Option.bind_some, Option.map_some, Option.bind_none, Option.map_none, Option.bind, Option.map, List.getElem?_cons_zero, List.getElem?_cons_succ, List.getElem?_nil, List.set_cons_zero, List.set_cons_succ, List.set_nil, if_true, if_false, ↓reduceIte, Bool.not_true, Bool.not_false, decide_true, decide_false, Bool.false_eq_true, reduceCtorEq, true_and, false_and, and_true, and_false, not_true, not_false_eq_true, List.any_cons, List.any_nil, Bool.or_false, Bool.or_true, Bool.true_or, Bool.false_or, Bool.and_true, Bool.true_and, Bool.and_false, Bool.false_and, exists_eq_left, exists_eq_left', Option.some.injEq, A.d.injEq, D.int.injEq, D.bl.injEq, D.str.injEq, D.lst.injEq, D.tup.injEq, Except.ok.injEq, List.cons_append, List.nil_append, List.map_cons, List.map_nil, List.length_cons, List.length_nil, List.replicate, Nat.reduceSub, Nat.reduceAdd, List.append_nil, eq_self, or_true, true_or, or_false, false_or, Int.reduceNeg, Int.reducePow, Int.reduceLT, Int.reduceLE, List.length_set]
  refine ⟨0, cs, rfl, rfl, hl, fun m hb => ?_⟩
  simp only [w_law_1, wSeq, wFor, wI]
  refine ⟨_, _, rfl, rfl, ?_⟩
  refine loop_inv (fun r Γ S' => ∃ (m' : MO) (z2 z3 z4 z5 z6 z7 z8 z9 z10 z11 z12 z13 z14 z15 z16 z17 : Option A), S'[1]? = some (.tab Pt lamQ) ∧ S'[2]? = some m' ∧ Bag m' ∧ Γ = [some (.loc 0), some (.loc 2), z2, z3, z4, z5, z6, z7, z8, z9, z10, z11, z12, z13, z14, z15, z16, z17]) ?_ ?_ _ _ _ ⟨m, _, _, _, _, _, _, _, _, _, _, _, _, _, _, _, _, rfl, rfl, hb, rfl⟩
  · rintro d r Γ S' nx ⟨m', z2, z3, z4, z5, z6, z7, z8, z9, z10, z11, z12, z13, z14, z15, z16, z17, h1, h2, hb', rfl⟩ hnx
    exact ⟨_, rfl, law_turn hLs h1 h2 hb' fun _ _ _ _ _ _ _ _ _ _ _ _ _ _ _ S2 m2 h3 h4 hb2 => hnx _ _ rfl ⟨m2, _, _, _, _, _, _, _, _, _, _, _, _, _, _, _, _, h3, h4, hb2, rfl⟩⟩
  · rintro Γ S' ⟨m', z2, z3, z4, z5, z6, z7, z8, z9, z10, z11, z12, z13, z14, z15, z16, z17, h1, h2, hb', rfl⟩
    unfold w_law_2
    exact ⟨_, law_end _ _, hQ _⟩
end K
set_option maxHeartbeats 0
namespace K
open PySem PySem.Spec PyProof.Rows L2 LP
theorem hlen_same (n : Nat) (ds : List D) (o : Except Er D) (h : G_same n ds = some o) : ds.length = 2 := by
  unfold G_same at h
  split at h
  · rfl
  · cases h
theorem ilen_Letter (ds : List D) (fs : List D) (h : G_Letter ds = some (.ok fs)) : fs.length = 1 := by
  unfold G_Letter packI at h
  split at h
  · simp only [G_init] at h
    cases e : spansOf (.tup ds) with
    | some ps => rw [e] at h; cases h; rfl
    | none =>
      rw [e] at h
      have h : (badAt ds 0).map (fun i => (Except.error (eSpan i) : Except Er (List D))) = some (.ok fs) := h
      cases e2 : badAt ds 0 with
      | none => rw [e2] at h; cases h
      | some i => rw [e2] at h; cases h
  · cases h
end K
namespace Hd
open PySem PySem.Spec PyProof.Rows L2 LP K
theorem facts {P : Program} {w : World} {K : PySem.W.Frag} {h : Heap} {mg : Str → Option Value} {f cT tT : Addr} (hfile : P.main.file = "/claim/cut.py") (hsup : (P.main.scope.names.lookup ("super" : Str)).isSome = false) (X : K.In h) (G : h.Ns mainGlobals mg) (hfa : mg ("law" : Str) = some (.ref f)) (c : LP.SaysE fa fn K) (hcT : funC K "law" cT = true) :
    ∃ fd : FuncData, (∀ (s : Shared) (v : Value), BindsTo s fd ⟨[v], []⟩ [("_law_script", v)]) ∧ ∀ base : Heap, K.In base → base.Ns mainGlobals mg → LamX.TabB base mg cT tT → FnOk P w K mg base CXn 14 f fd ["_law_script"] (spLawT K tT 63) := by
  let ci : Ci := fun c => match c with | 0 => (He.ga K "Letter", at0) | 1 => (He.ga K "InvalidSpan", []) | _ => (0, [])
  obtain ⟨fd_is_number, F_is_number⟩ := c.def_ 1 (d := d1) rfl
  obtain ⟨fd_is_span, F_is_span⟩ := c.def_ 2 (d := d2) rfl
  obtain ⟨fd_joined, F_joined⟩ := c.def_ 3 (d := d3) rfl
  obtain ⟨fd_span_text, F_span_text⟩ := c.def_ 4 (d := d4) rfl
  obtain ⟨fd_Letter_init, F_Letter_init⟩ := c.def_ 5 (d := d5) rfl
  obtain ⟨fd_Letter_runs, F_Letter_runs⟩ := c.def_ 6 (d := d6) rfl
  obtain ⟨fd_Letter_walk, F_Letter_walk⟩ := c.def_ 7 (d := d7) rfl
  obtain ⟨fd_Letter_many, F_Letter_many⟩ := c.def_ 8 (d := d8) rfl
  obtain ⟨fd_Letter_text, F_Letter_text⟩ := c.def_ 9 (d := d9) rfl
  obtain ⟨fd_Letter_contains, F_Letter_contains⟩ := c.def_ 10 (d := d10) rfl
  obtain ⟨fd_Letter_bool, F_Letter_bool⟩ := c.def_ 11 (d := d11) rfl
  obtain ⟨fd_Letter_repr, F_Letter_repr⟩ := c.def_ 12 (d := d12) rfl
  obtain ⟨fd_l_bag, F_l_bag⟩ := c.def_ 13 (d := d13) rfl
  obtain ⟨fd_l_pull, F_l_pull⟩ := c.def_ 14 (d := d14) rfl
  obtain ⟨fd_l_pick, F_l_pick⟩ := c.def_ 15 (d := d15) rfl
  obtain ⟨fd_l_same, F_l_same⟩ := c.def_ 16 (d := d16) rfl
  obtain ⟨fd_l_field, F_l_field⟩ := c.def_ 17 (d := d17) rfl
  obtain ⟨fd_l_why, F_l_why⟩ := c.def_ 18 (d := d18) rfl
  obtain ⟨fd_l_whys, F_l_whys⟩ := c.def_ 19 (d := d19) rfl
  obtain ⟨fd_l_odd, F_l_odd⟩ := c.def_ 20 (d := d20) rfl
  obtain ⟨fd_l_in, F_l_in⟩ := c.def_ 21 (d := d21) rfl
  obtain ⟨fd_l_runs, F_l_runs⟩ := c.def_ 22 (d := d22) rfl
  obtain ⟨fd_l_letter, F_l_letter⟩ := c.def_ 23 (d := d23) rfl
  obtain ⟨fd_l_span, F_l_span⟩ := c.def_ 24 (d := d24) rfl
  obtain ⟨fd_l_spans, F_l_spans⟩ := c.def_ 25 (d := d25) rfl
  obtain ⟨fd_l_near, F_l_near⟩ := c.def_ 26 (d := d26) rfl
  obtain ⟨fd_l_span_text, F_l_span_text⟩ := c.def_ 27 (d := d27) rfl
  obtain ⟨fd_l_runs_text, F_l_runs_text⟩ := c.def_ 28 (d := d28) rfl
  obtain ⟨fd_law, F_law⟩ := c.def_ 29 (d := d29) rfl
  have T : Tc mg := ⟨He.free_ok X G (c.fact 28 (f := .fa (.free "all")) rfl), He.free_ok X G (c.fact 29 (f := .fa (.free "any")) rfl), He.free_ok X G (c.fact 30 (f := .fa (.free "bool")) rfl), He.free_ok X G (c.fact 31 (f := .fa (.free "enumerate")) rfl), He.free_ok X G (c.fact 32 (f := .fa (.free "int")) rfl), He.free_ok X G (c.fact 33 (f := .fa (.free "isinstance")) rfl), He.free_ok X G (c.fact 34 (f := .fa (.free "len")) rfl), He.free_ok X G (c.fact 35 (f := .fa (.free "list")) rfl), He.free_ok X G (c.fact 36 (f := .fa (.free "max")) rfl), He.free_ok X G (c.fact 37 (f := .fa (.free "range")) rfl), He.free_ok X G (c.fact 38 (f := .fa (.free "repr")) rfl), He.free_ok X G (c.fact 39 (f := .fa (.free "sorted")) rfl), He.free_ok X G (c.fact 40 (f := .fa (.free "str")) rfl), He.free_ok X G (c.fact 41 (f := .fa (.free "sum")) rfl), He.free_ok X G (c.fact 43 (f := .fa (.free "tuple")) rfl), He.free_ok X G (c.fact 44 (f := .fa (.free "zip")) rfl)⟩
  have g_is_number := He.glo_ok X G (c.fact 0 (f := .fa (.glo "is_number")) rfl)
  have g_is_span := He.glo_ok X G (c.fact 1 (f := .fa (.glo "is_span")) rfl)
  have g_joined := He.glo_ok X G (c.fact 2 (f := .fa (.glo "joined")) rfl)
  have g_span_text := He.glo_ok X G (c.fact 3 (f := .fa (.glo "span_text")) rfl)
  have g_l_bag := He.glo_ok X G (c.fact 4 (f := .fa (.glo "_law_bag")) rfl)
  have g_l_pull := He.glo_ok X G (c.fact 5 (f := .fa (.glo "_law_pull")) rfl)
  have g_l_pick := He.glo_ok X G (c.fact 6 (f := .fa (.glo "_law_pick")) rfl)
  have g_l_same := He.glo_ok X G (c.fact 7 (f := .fa (.glo "_law_same")) rfl)
  have g_l_field := He.glo_ok X G (c.fact 8 (f := .fa (.glo "_law_field")) rfl)
  have g_l_why := He.glo_ok X G (c.fact 9 (f := .fa (.glo "_law_why")) rfl)
  have g_l_whys := He.glo_ok X G (c.fact 10 (f := .fa (.glo "_law_whys")) rfl)
  have g_l_odd := He.glo_ok X G (c.fact 11 (f := .fa (.glo "_law_odd")) rfl)
  have g_l_in := He.glo_ok X G (c.fact 12 (f := .fa (.glo "_law_in")) rfl)
  have g_l_runs := He.glo_ok X G (c.fact 13 (f := .fa (.glo "_law_runs")) rfl)
  have g_l_letter := He.glo_ok X G (c.fact 14 (f := .fa (.glo "_law_letter")) rfl)
  have g_l_span := He.glo_ok X G (c.fact 15 (f := .fa (.glo "_law_span")) rfl)
  have g_l_spans := He.glo_ok X G (c.fact 16 (f := .fa (.glo "_law_spans")) rfl)
  have g_l_near := He.glo_ok X G (c.fact 17 (f := .fa (.glo "_law_near")) rfl)
  have g_l_span_text := He.glo_ok X G (c.fact 18 (f := .fa (.glo "_law_span_text")) rfl)
  have g_l_runs_text := He.glo_ok X G (c.fact 19 (f := .fa (.glo "_law_runs_text")) rfl)
  have g_law := He.glo_ok X G (c.fact 20 (f := .fa (.glo "law")) rfl)
  have g_Letter := He.glo_ok X G (c.fact 45 (f := .fa (.glo "Letter")) rfl)
  have cl_Letter := He.cls_ok (c.fact 46 (f := .fa (.cls "Letter")) rfl)
  have mk_Letter := He.mkr_ok (c.fact 47 (f := .fa (.mkr "Letter")) rfl)
  cases hfa.symm.trans g_law
  have bl := FunD.bindsA (ps := ["_law_script"]) F_law fun _ _ _ _ _ _ us hl => match us, hl with | [_], _ => rfl
  refine ⟨fd_law, fun s v => bl s [v] rfl, fun base _ _ TBL => ?_⟩
  have g_LumpError := He.glo_ok X G (c.fact 21 (f := .fa (.glo "LumpError")) rfl)
  have g_Missing := He.glo_ok X G (c.fact 22 (f := .fa (.glo "Missing")) rfl)
  have g_NothingLeft := He.glo_ok X G (c.fact 23 (f := .fa (.glo "NothingLeft")) rfl)
  have g_InvalidSpan := He.glo_ok X G (c.fact 24 (f := .fa (.glo "InvalidSpan")) rfl)
  have n_super := He.free_ok X G (c.fact 42 (f := .fa (.free "super")) rfl)
  obtain ⟨fd_InvalidSpan, cda_InvalidSpan, cc_InvalidSpan, FS_InvalidSpan, SK_InvalidSpan, _⟩ := DefE.funS (P := P) (mg := mg) (d := d0) (ar := "self") (D := He.ga K "InvalidSpan") rfl (c.raw 0 (d := d0) rfl).1 (c.raw 0 (d := d0) rfl).2 (by rw [hfile]; exact (c.fact 27 (f := .ex (fun K => supOkB "/claim/cut.py" "self" K (d0.at_.ad K) (He.ga K "InvalidSpan"))) rfl)) n_super hsup
  have ER_InvalidSpan : ErrP P w K mg base ci 1 1 "InvalidSpan" "InvalidSpan" "at" := err_mk (txt := "not a span of numbers") (par := "at") FS_InvalidSpan SK_InvalidSpan ⟨_, _, _, _, _, _, _, _, _, _, _, _, _, _, _, _, rfl, fun env => ⟨_, rfl⟩⟩ ⟨rfl, rfl, rfl, by decide +kernel, rfl, by decide +kernel, by decide +kernel, by decide +kernel⟩ (c.fact 25 (f := .ex (errB "InvalidSpan" "at")) rfl) g_InvalidSpan rfl (by kernel_rfl) (by kernel_rfl) (by kernel_rfl) (by kernel_rfl) (by decide +kernel) (by decide +kernel) (fun kV doc pm an cd ct us hl => match us, hl with | [_, _], _ => rfl)
  have exo : ∀ z ∈ ([1] : List Nat), PySem.W.exmAny K (.ref (ci z).1) [.ref (He.ga K "LumpError"), .ref (He.ga K "Missing"), .ref (He.ga K "NothingLeft")] = some true ∧ XfC K (ci z).1 ∧ ∀ n ∈ exoNames, PySem.W.findIn K (.ref (ci z).1) n = some none := fun z hz => (List.mem_cons.mp hz).elim (fun e => by subst e; exact exoB_ok (c.fact 26 (f := .ex (exoB "InvalidSpan")) rfl)) fun hz => (nomatch hz)
  have FSF : ∀ B : Heap, FieldS P w K mg B ci [1] "_law_field" G_field := fun B => ⟨_, fd_l_field, _, _, _, N_l_field, "_law_e", w_l_field, F_l_field, sc_l_field, g_l_field, F_l_field.bindsN fun _ _ _ _ _ _ us hl => match us, hl with | [_], _ => rfl, fun z hz => b_l_field T (exo z hz).2.2, v_field⟩
  have WHYB : ∀ B : Heap, WhyS P w K mg B ci [1] "_law_why" G_field := fun B => ⟨_, fd_l_why, _, _, _, ⟨"_law_ask", "LumpError", "Missing", "NothingLeft", "_law_e", "_law_field"⟩, .ref (He.ga K "LumpError"), .ref (He.ga K "Missing"), .ref (He.ga K "NothingLeft"), F_l_why, ⟨rfl, rfl, rfl, by decide +kernel, rfl, by decide +kernel, by decide +kernel⟩, g_l_why, F_l_why.bindsN fun _ _ _ _ _ _ us hl => match us, hl with | [_], _ => rfl, ⟨_, _, _, _, _, _, _, _, _, _, _, _, _, _, _, _, _, _, _, _, _, _, rfl⟩, (by kernel_rfl), (by kernel_rfl), (by kernel_rfl), (by kernel_rfl), (by kernel_rfl), (by kernel_rfl), (by kernel_rfl), ⟨(by kernel_rfl), (by kernel_rfl), g_LumpError⟩, ⟨(by kernel_rfl), (by kernel_rfl), g_Missing⟩, ⟨(by kernel_rfl), (by kernel_rfl), g_NothingLeft⟩, (by kernel_rfl), FSF B, fun z hz => ⟨(exo z hz).1, (exo z hz).2.1, (exo z hz).2.2 "code" (by decide +kernel)⟩⟩
  have WHY := WHYB base
  have WHYS : WhysS P w K mg ci [1] 8 "_law_why" "_law_whys" G_field := ⟨WHYB, _, fd_l_whys, _, _, _, N_l_whys, "_law_asks", F_l_whys, sc_l_whys, rfl, g_l_whys, F_l_whys.bindsN fun _ _ _ _ _ _ us hl => match us, hl with | [_], _ => rfl, fun B fcw C => b_l_whys fcw T C⟩
  have gm_Letter := g_Letter
  have V_GREATEST : CvalI K (ci 0).1 "GREATEST" 999999999999999999 := cvalB_ok (c.fact 56 (f := .ex (cvalB "Letter" "GREATEST" 999999999999999999)) rfl)
  have A_own_runs : ∀ c ∈ [0], AttrOk K ci c "own_runs" 0 := fun c hc => (by cases hc with | head => exact ⟨cl_Letter, He.noat_ok (c.fact 48 (f := .fa (.noat "Letter" "own_runs")) rfl), (by show at0.Nodup; decide +kernel), (by rfl), (by show at0.length < 1000; decide +kernel)⟩ | tail _ hc => exact (nomatch hc))
  have ok_is_number : FnOk P w K mg base (L2.CX P w) 1 _ fd_is_number ["value", "least", "most"] (spP K ci G_is_number) := fnP F_is_number sc_is_number (fun ds o h => by unfold G_is_number at h; split at h <;> first | rfl | cases h) (b_is_number T ) v_is_number
  have C_is_number_2 : CallP P w K mg base ci 1 "is_number" [.int 0, .int 999999999999999999] (spP K ci G_is_number) := by
    obtain ⟨ds, h1, h2⟩ := F_is_number.binds1 (ps := ["value", "least", "most"]) 1 0 (by intro z; cases z) rfl fun T kV doc pm an cdv ct us its hl hi => match us, hl, its, hi with | [_], _, [_, _], _ => ⟨_, rfl, rfl⟩
    exact ⟨_, fd_is_number, _, ds, ok_is_number, g_is_number, F_is_number.kp, h2, h1, rfl⟩
  have ok_is_span : FnOk P w K mg base (L2.CX P w) 2 _ fd_is_span ["value"] (spP K ci G_is_span) := fnP F_is_span sc_is_span (fun ds o h => by unfold G_is_span at h; split at h <;> first | rfl | cases h) (b_is_span T C_is_number_2) v_is_span
  have C_is_span : CallP P w K mg base ci 2 "is_span" [] (spP K ci G_is_span) := ⟨_, fd_is_span, _, [], ok_is_span, g_is_span, F_is_span.kp, (F_is_span.bindsN fun _ _ _ _ _ _ us hl => match us, hl with | [_], _ => rfl), .nil, rfl⟩
  have ok_joined : FnOk P w K mg base (L2.CX P w) 1 _ fd_joined ["spans"] (spP K ci G_joined) := fnP F_joined sc_joined (fun ds o h => by unfold G_joined at h; split at h <;> first | rfl | cases h) (b_joined T ) v_joined
  have C_joined : CallP P w K mg base ci 1 "joined" [] (spP K ci G_joined) := ⟨_, fd_joined, _, [], ok_joined, g_joined, F_joined.kp, (F_joined.bindsN fun _ _ _ _ _ _ us hl => match us, hl with | [_], _ => rfl), .nil, rfl⟩
  have ok_span_text : FnOk P w K mg base (L2.CX P w) 1 _ fd_span_text ["low", "high"] (spP K ci G_stext) := fnP F_span_text sc_span_text (fun ds o h => by unfold G_stext at h; split at h <;> first | rfl | cases h) (b_span_text T ) v_stext
  have C_span_text : CallP P w K mg base ci 1 "span_text" [] (spP K ci G_stext) := ⟨_, fd_span_text, _, [], ok_span_text, g_span_text, F_span_text.kp, (F_span_text.bindsN fun _ _ _ _ _ _ us hl => match us, hl with | [_, _], _ => rfl), .nil, rfl⟩
  have ok_Letter_init : FnR P w K mg base (L2.CX P w) 4 _ (spI K ci 0 (packI G_init)) := fnSI F_Letter_init sc_Letter_init (b_Letter_init T C_is_span C_joined A_own_runs ER_InvalidSpan) (fun kV doc pm an cdv ct us rest hl => StX.bind_star1 (B := fun z => bindArgs (PySem.W.fnOf _ _ _ _ _ .none kV doc pm an cdv ct) ⟨z, []⟩) (p1 := "self") (pv := "spans") (fun a => rfl) (fun a r rs => rfl) us rest hl) v_init
  have MS_Letter : MakeS P w K mg base ci 4 "Letter" 0 G_Letter := ⟨⟨_, ok_Letter_init, mk_Letter, g_Letter⟩, ilen_Letter⟩
  have ok_Letter_runs : FnOk P w K mg base (L2.CX P w) 1 _ fd_Letter_runs ["self"] (spP K ci G_runs) := fnP F_Letter_runs sc_Letter_runs (fun ds o h => by unfold G_runs at h; split at h <;> first | rfl | cases h) (b_Letter_runs T A_own_runs) v_runs
  have okA_runsN : FnOk P w K mg base (L2.CX P w) 1 _ fd_Letter_runs ["self"] (spOf K ci fc_runsN) := fnM F_Letter_runs sc_Letter_runsN (fun as S ex Q h => by obtain ⟨rs, rfl, _⟩ := h; rfl) (b_Letter_runsN T A_own_runs) v_runsN
  have M_runsN : MethP P w K mg base ci 1 0 "runs" [] (spOf K ci fc_runsN) := ⟨_, fd_Letter_runs, _, [], okA_runsN, cl_Letter, He.meth_ok (c.fact 49 (f := .fa (.meth "Letter" "runs")) rfl), (by show ("runs" : Str) ∉ at0; decide +kernel), (F_Letter_runs.bindsN fun _ _ _ _ _ _ us hl => match us, hl with | [_], _ => rfl), .nil, rfl⟩
  have ML_runs : ∀ c dfl fc, mt_runsN c = some (dfl, fc) → MethP P w K mg base ci 1 c "runs" dfl (spOf K ci fc) := by
    intro c dfl fc h
    unfold mt_runsN at h
    split at h
    · cases h; exact M_runsN
    · cases h
  have MM_Letter_runs : MethP P w K mg base ci 1 0 "runs" [] (spP K ci G_runs) := ⟨_, fd_Letter_runs, _, [], ok_Letter_runs, cl_Letter, He.meth_ok (c.fact 49 (f := .fa (.meth "Letter" "runs")) rfl), (by show ("runs" : Str) ∉ at0; decide +kernel), (F_Letter_runs.bindsN fun _ _ _ _ _ _ us hl => match us, hl with | [_], _ => rfl), .nil, rfl⟩
  have M_runs : ∀ c dfl G, mt_runs c = some (dfl, G) → MethP P w K mg base ci 1 c "runs" dfl (spP K ci G) := by
    intro c dfl G h
    unfold mt_runs at h
    split at h
    · cases h; exact MM_Letter_runs
    · cases h
  have ME_runs := MM_Letter_runs
  have ok_Letter_many : FnOk P w K mg base (L2.CX P w) 1 _ fd_Letter_many ["self"] (spP K ci G_many) := fnP F_Letter_many sc_Letter_many (fun ds o h => by unfold G_many at h; split at h <;> first | rfl | cases h) (b_Letter_many T A_own_runs) v_many
  have PP_Letter_many : PropP P w K mg base ci 1 0 "many" G_many := ⟨_, _, fd_Letter_many, _, ok_Letter_many, cl_Letter, propB_ok (c.fact 51 (f := .prop "Letter" "many") rfl), (F_Letter_many.bindsN fun _ _ _ _ _ _ us hl => match us, hl with | [_], _ => rfl)⟩
  have R_many : ∀ c G, pt_many c = some G → PropP P w K mg base ci 1 c "many" G := by
    intro c G h
    unfold pt_many at h
    split at h
    · cases h; exact PP_Letter_many
    · cases h
  have RE_many := PP_Letter_many
  have ok_Letter_text : FnOk P w K mg base (L2.CX P w) 2 _ fd_Letter_text ["self"] (spP K ci G_text) := fnP F_Letter_text sc_Letter_text (fun ds o h => by unfold G_text at h; split at h <;> first | rfl | cases h) (b_Letter_text T C_span_text A_own_runs) v_text
  have MM_Letter_text : MethP P w K mg base ci 2 0 "text" [] (spP K ci G_text) := ⟨_, fd_Letter_text, _, [], ok_Letter_text, cl_Letter, He.meth_ok (c.fact 52 (f := .fa (.meth "Letter" "text")) rfl), (by show ("text" : Str) ∉ at0; decide +kernel), (F_Letter_text.bindsN fun _ _ _ _ _ _ us hl => match us, hl with | [_], _ => rfl), .nil, rfl⟩
  have M_text : ∀ c dfl G, mt_text c = some (dfl, G) → MethP P w K mg base ci 2 c "text" dfl (spP K ci G) := by
    intro c dfl G h
    unfold mt_text at h
    split at h
    · cases h; exact MM_Letter_text
    · cases h
  have ok_Letter_contains : FnOk P w K mg base (L2.CX P w) 2 _ fd_Letter_contains ["self", "number"] (spP K ci G_contains) := fnP F_Letter_contains sc_Letter_contains (fun ds o h => by unfold G_contains at h; split at h <;> first | rfl | cases h) (b_Letter_contains T C_is_number_2 A_own_runs) v_contains
  have MM_Letter_contains : MethP P w K mg base ci 2 0 "__contains__" [] (spP K ci G_contains) := ⟨_, fd_Letter_contains, _, [], ok_Letter_contains, cl_Letter, He.meth_ok (c.fact 53 (f := .fa (.meth "Letter" "__contains__")) rfl), (by show ("__contains__" : Str) ∉ at0; decide +kernel), (F_Letter_contains.bindsN fun _ _ _ _ _ _ us hl => match us, hl with | [_, _], _ => rfl), .nil, rfl⟩
  have M_contains := MM_Letter_contains
  have ok_Letter_bool : FnOk P w K mg base (L2.CX P w) 1 _ fd_Letter_bool ["self"] (spP K ci G_bool) := fnP F_Letter_bool sc_Letter_bool (fun ds o h => by unfold G_bool at h; split at h <;> first | rfl | cases h) (b_Letter_bool T A_own_runs) v_bool
  have MM_Letter_bool : MethP P w K mg base ci 1 0 "__bool__" [] (spP K ci G_bool) := ⟨_, fd_Letter_bool, _, [], ok_Letter_bool, cl_Letter, He.meth_ok (c.fact 54 (f := .fa (.meth "Letter" "__bool__")) rfl), (by show ("__bool__" : Str) ∉ at0; decide +kernel), (F_Letter_bool.bindsN fun _ _ _ _ _ _ us hl => match us, hl with | [_], _ => rfl), .nil, rfl⟩
  have M_bool := MM_Letter_bool
  have ok_Letter_repr : FnOk P w K mg base (L2.CX P w) 4 _ fd_Letter_repr ["self"] (spP K ci G_repr) := fnP F_Letter_repr sc_Letter_repr (fun ds o h => by unfold G_repr at h; split at h <;> first | rfl | cases h) (b_Letter_repr T M_text) v_repr
  have MM_Letter_repr : MethP P w K mg base ci 4 0 "__repr__" [] (spP K ci G_repr) := ⟨_, fd_Letter_repr, _, [], ok_Letter_repr, cl_Letter, He.meth_ok (c.fact 55 (f := .fa (.meth "Letter" "__repr__")) rfl), (by show ("__repr__" : Str) ∉ at0; decide +kernel), (F_Letter_repr.bindsN fun _ _ _ _ _ _ us hl => match us, hl with | [_], _ => rfl), .nil, rfl⟩
  have M_repr := MM_Letter_repr
  have ok_l_bag : FnOk P w K mg base (L2.CX P w) 1 _ fd_l_bag ["_law_script"] (spOf K ci fc_bag) := fnM F_l_bag sc_l_bag (fun as S ex Q h => by obtain ⟨k, cs, rfl, _⟩ := h; rfl) (b_l_bag T ) v_bag
  have C_l_bag : CallP P w K mg base ci 1 "_law_bag" [] (spOf K ci fc_bag) := ⟨_, fd_l_bag, _, [], ok_l_bag, g_l_bag, F_l_bag.kp, (F_l_bag.bindsN fun _ _ _ _ _ _ us hl => match us, hl with | [_], _ => rfl), .nil, rfl⟩
  have ok_l_pull : FnOk P w K mg base (L2.CX P w) 1 _ fd_l_pull ["_law_bag_here", "_law_many"] (spOf K ci fc_pull) := fnM F_l_pull sc_l_pull (fun as S ex Q h => by obtain ⟨k, m, many, rfl, _⟩ := h; rfl) (b_l_pull T ) v_pull
  have C_l_pull : CallP P w K mg base ci 1 "_law_pull" [] (spOf K ci fc_pull) := ⟨_, fd_l_pull, _, [], ok_l_pull, g_l_pull, F_l_pull.kp, (F_l_pull.bindsN fun _ _ _ _ _ _ us hl => match us, hl with | [_, _], _ => rfl), .nil, rfl⟩
  have ok_l_pick : FnOk P w K mg base (L2.CX P w) 2 _ fd_l_pick ["_law_bag_here", "_law_rows"] (spOf K ci fc_pick) := fnM F_l_pick sc_l_pick (fun as S ex Q h => by obtain ⟨k, m, rows, l, rfl, _⟩ := h; rfl) (b_l_pick T C_l_pull) v_pick
  have C_l_pick : CallP P w K mg base ci 2 "_law_pick" [] (spOf K ci fc_pick) := ⟨_, fd_l_pick, _, [], ok_l_pick, g_l_pick, F_l_pick.kp, (F_l_pick.bindsN fun _ _ _ _ _ _ us hl => match us, hl with | [_, _], _ => rfl), .nil, rfl⟩
  have bS : Binds K fd_l_same ["_law_found", "_law_due"] [] := F_l_same.bindsN fun _ _ _ _ _ _ us hl => match us, hl with | [_, _], _ => rfl
  have okS : ∀ n : Nat, FnOk P w K mg base (L2.CX P w) (n + 1) (He.ga K "_law_same") fd_l_same ["_law_found", "_law_due"] (spP K ci (G_same n)) := by
    intro n
    induction n with
    | zero =>
      have z : CallP P w K mg base ci 0 "_law_same" [] (spP K ci (G_prev 0)) := ⟨_, fd_l_same, ["_law_found", "_law_due"], [], ⟨fun vs H Q E h => (by obtain ⟨_, _, _, _, _, h, _⟩ := h; cases h), fun A outer s H args us vs Q E hr e b v h => (by obtain ⟨_, _, _, _, _, h, _⟩ := h; cases h)⟩, g_l_same, F_l_same.kp, bS, .nil, rfl⟩
      exact fnP F_l_same sc_l_same (fun ds o h => hlen_same 0 ds o h) (b_l_same (G_prev 0) T z) (v_same 0)
    | succ n ih =>
      have z : CallP P w K mg base ci (n + 1) "_law_same" [] (spP K ci (G_prev (n + 1))) := ⟨_, fd_l_same, _, [], ih, g_l_same, F_l_same.kp, bS, .nil, rfl⟩
      exact fnP F_l_same sc_l_same (fun ds o h => hlen_same (n + 1) ds o h) (b_l_same (G_prev (n + 1)) T z) (v_same (n + 1))
  have C_l_same : CallP P w K mg base ci 5 "_law_same" [] (spP K ci (G_same 4)) := ⟨_, fd_l_same, _, [], okS 4, g_l_same, F_l_same.kp, bS, .nil, rfl⟩
  have ok_l_odd : FnOk P w K mg base (L2.CX P w) 3 _ fd_l_odd ["_law_bag_here"] (spOf K ci fc_odd) := fnM F_l_odd sc_l_odd (fun as S ex Q h => by obtain ⟨k, m, rfl, _⟩ := h; rfl) (b_l_odd T C_l_pick) v_odd
  have C_l_odd : CallP P w K mg base ci 3 "_law_odd" [] (spOf K ci fc_odd) := ⟨_, fd_l_odd, _, [], ok_l_odd, g_l_odd, F_l_odd.kp, (F_l_odd.bindsN fun _ _ _ _ _ _ us hl => match us, hl with | [_], _ => rfl), .nil, rfl⟩
  have ok_l_in : FnOk P w K mg base (L2.CX P w) 1 _ fd_l_in ["_law_number", "_law_spans_here"] (spP K ci G_in) := fnP F_l_in sc_l_in (fun ds o h => by unfold G_in at h; split at h <;> first | rfl | cases h) (b_l_in T ) v_in
  have C_l_in : CallP P w K mg base ci 1 "_law_in" [] (spP K ci G_in) := ⟨_, fd_l_in, _, [], ok_l_in, g_l_in, F_l_in.kp, (F_l_in.bindsN fun _ _ _ _ _ _ us hl => match us, hl with | [_, _], _ => rfl), .nil, rfl⟩
  have ok_l_runs : FnOk P w K mg base (L2.CX P w) 1 _ fd_l_runs ["_law_spans_here"] (spP K ci G_joined) := fnP F_l_runs sc_l_runs (fun ds o h => by unfold G_joined at h; split at h <;> first | rfl | cases h) (b_l_runs T ) v_l_runs
  have C_l_runs : CallP P w K mg base ci 1 "_law_runs" [] (spP K ci G_joined) := ⟨_, fd_l_runs, _, [], ok_l_runs, g_l_runs, F_l_runs.kp, (F_l_runs.bindsN fun _ _ _ _ _ _ us hl => match us, hl with | [_], _ => rfl), .nil, rfl⟩
  have ok_l_letter : FnOk P w K mg base (L2.CX P w) 6 _ fd_l_letter ["_law_spans_here"] (spP K ci G_letter) := fnP F_l_letter sc_l_letter (fun ds o h => by unfold G_letter at h; split at h <;> first | rfl | cases h) (b_l_letter T MS_Letter) v_letter
  have C_l_letter : CallP P w K mg base ci 6 "_law_letter" [] (spP K ci G_letter) := ⟨_, fd_l_letter, _, [], ok_l_letter, g_l_letter, F_l_letter.kp, (F_l_letter.bindsN fun _ _ _ _ _ _ us hl => match us, hl with | [_], _ => rfl), .nil, rfl⟩
  have ok_l_span : FnOk P w K mg base (L2.CX P w) 3 _ fd_l_span ["_law_bag_here", "_law_base"] (spOf K ci fc_span) := fnM F_l_span sc_l_span (fun as S ex Q h => by obtain ⟨k, m, base, rfl, _⟩ := h; rfl) (b_l_span T C_l_pull C_l_pick) v_span
  have C_l_span : CallP P w K mg base ci 3 "_law_span" [] (spOf K ci fc_span) := ⟨_, fd_l_span, _, [], ok_l_span, g_l_span, F_l_span.kp, (F_l_span.bindsN fun _ _ _ _ _ _ us hl => match us, hl with | [_, _], _ => rfl), .nil, rfl⟩
  have ok_l_spans : FnOk P w K mg base (L2.CX P w) 4 _ fd_l_spans ["_law_bag_here"] (spOf K ci fc_spans) := fnM F_l_spans sc_l_spans (fun as S ex Q h => by obtain ⟨k, m, rfl, _⟩ := h; rfl) (b_l_spans T C_l_pick C_l_pull C_l_span) v_spans
  have C_l_spans : CallP P w K mg base ci 4 "_law_spans" [] (spOf K ci fc_spans) := ⟨_, fd_l_spans, _, [], ok_l_spans, g_l_spans, F_l_spans.kp, (F_l_spans.bindsN fun _ _ _ _ _ _ us hl => match us, hl with | [_], _ => rfl), .nil, rfl⟩
  have ok_l_near : FnOk P w K mg base (L2.CX P w) 1 _ fd_l_near ["_law_spans_here"] (spP K ci G_near) := fnP F_l_near sc_l_near (fun ds o h => by unfold G_near at h; split at h <;> first | rfl | cases h) (b_l_near T ) v_near
  have C_l_near : CallP P w K mg base ci 1 "_law_near" [] (spP K ci G_near) := ⟨_, fd_l_near, _, [], ok_l_near, g_l_near, F_l_near.kp, (F_l_near.bindsN fun _ _ _ _ _ _ us hl => match us, hl with | [_], _ => rfl), .nil, rfl⟩
  have ok_l_span_text : FnOk P w K mg base (L2.CX P w) 1 _ fd_l_span_text ["_law_low", "_law_high"] (spP K ci G_stext) := fnP F_l_span_text sc_l_span_text (fun ds o h => by unfold G_stext at h; split at h <;> first | rfl | cases h) (b_l_span_text T ) v_l_stext
  have C_l_span_text : CallP P w K mg base ci 1 "_law_span_text" [] (spP K ci G_stext) := ⟨_, fd_l_span_text, _, [], ok_l_span_text, g_l_span_text, F_l_span_text.kp, (F_l_span_text.bindsN fun _ _ _ _ _ _ us hl => match us, hl with | [_, _], _ => rfl), .nil, rfl⟩
  have ok_l_runs_text : FnOk P w K mg base (L2.CX P w) 2 _ fd_l_runs_text ["_law_runs_here"] (spP K ci G_rtext) := fnP F_l_runs_text sc_l_runs_text (fun ds o h => by unfold G_rtext at h; split at h <;> first | rfl | cases h) (b_l_runs_text T C_l_span_text) v_l_rtext
  have C_l_runs_text : CallP P w K mg base ci 2 "_law_runs_text" [] (spP K ci G_rtext) := ⟨_, fd_l_runs_text, _, [], ok_l_runs_text, g_l_runs_text, F_l_runs_text.kp, (F_l_runs_text.bindsN fun _ _ _ _ _ _ us hl => match us, hl with | [_], _ => rfl), .nil, rfl⟩
  have GM_walk : GenP K ci 0 "walk" 0 := ⟨⟨_, fd_Letter_walk, _, _, _, "run", "self", _, _, _, _, _, _, _, _, F_Letter_walk, ⟨rfl, rfl, rfl, by decide +kernel, rfl, fun x hx => .inl (by rw [List.mem_singleton.mp hx]; kernel_rfl), by decide +kernel⟩, by kernel_rfl, by kernel_rfl, by decide +kernel, by decide +kernel, fun _ => rfl, fun _ _ => rfl, He.meth_ok (c.fact 50 (f := .fa (.meth "Letter" "walk")) rfl), (F_Letter_walk.bindsN fun _ _ _ _ _ _ us hl => match us, hl with | [_], _ => rfl), A_own_runs 0 (List.mem_singleton.mpr rfl), (by show ("walk" : Str) ∉ at0; decide +kernel)⟩⟩
  have ok_law : FnOk P w K mg base (L2.CX P w) 14 _ fd_law ["_law_script"] (spOf K ci (fc_lawT tT lamQ 63)) := fnML F_law (funC_ok F_law hcT) sc_law (n := 4) (by kernel_rfl) (fun as S ex Q h => by obtain ⟨cs, rfl, _⟩ := h; rfl) (b_law tT T TBL C_l_bag C_l_spans C_l_letter C_l_runs C_l_same C_l_near C_l_in C_l_runs_text C_l_odd C_l_pick C_l_span MS_Letter M_runs ME_runs ML_runs R_many RE_many M_contains M_bool M_repr GM_walk gm_Letter V_GREATEST WHYS) (v_law tT)
  exact law_closeT ok_law
end Hd
open PySem PySem.W PySem.Calls PyProof.Rows
theorem PySem.Challenge.cw_lumplooks_k03_letters_by_membership_holds : PySem.Challenge.rw_lumplooks_k03_letters_by_membership.Holds := by
  w_on; o_law
  refine HandSHeadRun.head_any (r := OpenLaw.row PySem.Challenge.rw_lumplooks_k03_letters_by_membership) (q := view (OpenLaw.row PySem.Challenge.rw_lumplooks_k03_letters_by_membership).prog [38]) (H := Hd.hk) (ob := Hd.ob) (M := 6000) (loose := Hd.loose) (d := HandSHeadRun.topDef (OpenLaw.row PySem.Challenge.rw_lumplooks_k03_letters_by_membership).prog 38) (kwd := []) Hd.ob_eq
    (by kernel_rfl) (fun s => by kernel_rfl) Hd.run (by kernel_rfl) (by kernel_rfl) (by kernel_rfl) (by rfl) (by first | assumption | decide +kernel) (by decide +kernel) ⟨rfl, rfl, rfl, rfl, rfl, by decide +kernel⟩ ?hw ?hc
  case hw => w_witness2
  case hc =>
    refine LamX.walk_ofTsE (l := PySem.Challenge.rw_lumplooks_k03_letters_by_membership) (n := 63) (k := 14) (x := "_law_script") (CX := fun _ => LP.CXn) rfl (by decide) (by kernel_rfl) ⟨rfl, by decide, by decide⟩ ?F (fun _ _ _ _ _ z => z)
    intro w mg fa h Y G hmg0
    obtain ⟨K, c, T, h1, h2, h3, h4, h5, h6⟩ := Y
    have hmg : mg ("law" : PySem.Str) = some (.ref fa) := by
      have e : (HandSHeadRun.topDef (OpenLaw.row PySem.Challenge.rw_lumplooks_k03_letters_by_membership).prog 38).name = ("law" : PySem.Str) := by kernel_rfl
      rw [← e]
      exact hmg0
    obtain ⟨fd, hb, hF⟩ := Hd.facts (P := (PySem.Challenge.rw_lumplooks_k03_letters_by_membership).prog) (w := w) (cT := c) (tT := T) (by kernel_rfl) (by kernel_rfl) h1 G hmg h2 h6
    exact ⟨K, h1, fd, [(c, T)], LP.spLawT K T 63, fun p hp => (by rw [List.mem_singleton.mp hp]; exact h4), fun p hp => (by rw [List.mem_singleton.mp hp]; exact h3), fun p hp => (by rw [List.mem_singleton.mp hp]; exact PySem.W.codeHd_of_K h1 h5), hb, fun H a ns hl _ hT hS => ⟨a, ns, rfl, hl, hS, hT (c, T) (List.mem_singleton.mpr rfl), fun _ => rfl⟩, fun base k1 k2 k3 => hF base k1 k2 (k3 (c, T) (List.mem_singleton.mpr rfl))⟩
