import PyProof.Rows.All
import Wide.All
import OpenK.AllK
import Wide.FinOn
import PyProof.EqAt
import PyProof.EqKinds
import PyProof.TupleCall
import KE.KStateDown
import KE.KOpsOwn
import KE.KExcSuper
import KE.RegKSuper
import HandS.Base
import HandS.Call
import HandS.List
import HandS.Comp
import HandS.Ends
import HandS.Dict
import HandS.Iter
import HandS.More
import HandS.Exc
import HandS.TryOnly
import HandS.ExcOwn
import HandS.ExcInit
import HandS.ExcIs
import HandS.ExcField
import HandS.HotCalls
import HandS.Words
import HandS.WordsList
import HandS.WordsExc
import HandS.Defaults
import HandS.Evl
import HandS.Wide
import HandS.WideBits
import HandS.Gcd
import HandS.IsInst
import HandS.Star
import HandS.Property
import HandS.ClsMeth
import HandS.MakeKw
import HandS.MakeKwOnly
import HandS.Conv
import HandS.OwnIter
import HandS.Head0
import HandS.Head1
import HandS.Head2
import HandS.Head3
import HandS.HeadEnd
import HandS.HeadHook1
import HandS.HeadHook2
import HandS.HeadHook3
import PySem.Challenge.RW_whosefork_k83_whole_purses_far
set_option Elab.async false
set_option linter.all false
set_option maxRecDepth 100000
set_option maxHeartbeats 4000000
/-! D0: data without addresses over the hand layer: values D, a store of changing objects, environments, the judgements ED (expression), TD (test), AD (arguments), SD (block). -/
namespace DD
open PySem PySem.Spec PyProof.Rows L2

inductive D where
  | non | bl (b : Bool) | int (i : Int) | str (s : Str) | ptr (a : Addr) | ty (n : String)
  | tup (xs : List D) | lst (xs : List D) | obj (C : Addr) (ns : List Str) (ds : List D)

mutual
def Is (G : Hp) : D → V → Prop
  | .non, v => v = .non
  | .bl b, v => v = .bl b
  | .int i, v => v = .int i
  | .str s, v => v = .str s
  | .ptr a, v => v = .ref a
  | .ty n, v => v = .ty n
  | .tup xs, v => ∃ a vs, v = .ref a ∧ G a = some (.tup vs) ∧ IsL G xs vs
  | .lst xs, v => ∃ a vs, v = .ref a ∧ G a = some (.lst vs) ∧ IsL G xs vs
  | .obj C ns ds, v => ∃ a dx vs, v = .ref a ∧ G a = some (.ins C dx (ns.zip vs)) ∧ IsL G ds vs ∧ ns.length = ds.length
def IsL (G : Hp) : List D → List V → Prop
  | [], vs => vs = []
  | d :: ds, vs => ∃ v r, vs = v :: r ∧ Is G d v ∧ IsL G ds r
end

mutual
theorem Is.mono0 {G G' : Hp} (e : Same G G') : ∀ (d : D) {v : V}, Is G d v → Is G' d v
  | .non, _, h => h
  | .bl _, _, h => h
  | .int _, _, h => h
  | .str _, _, h => h
  | .ptr _, _, h => h
  | .ty _, _, h => h
  | .tup xs, _, ⟨a, vs, h1, h2, h3⟩ => ⟨a, vs, h1, e _ _ h2, IsL.mono0 e xs h3⟩
  | .lst xs, _, ⟨a, vs, h1, h2, h3⟩ => ⟨a, vs, h1, e _ _ h2, IsL.mono0 e xs h3⟩
  | .obj C ns ds, _, ⟨a, dx, vs, h1, h2, h3, h4⟩ => ⟨a, dx, vs, h1, e _ _ h2, IsL.mono0 e ds h3, h4⟩
theorem IsL.mono0 {G G' : Hp} (e : Same G G') : ∀ (ds : List D) {vs : List V}, IsL G ds vs → IsL G' ds vs
  | [], _, h => h
  | d :: ds, _, ⟨v, r, h1, h2, h3⟩ => ⟨v, r, h1, Is.mono0 e d h2, IsL.mono0 e ds h3⟩
end
theorem Is.mono {G G' : Hp} {d : D} {v : V} (h : Is G d v) (e : Same G G') : Is G' d v := Is.mono0 e d h
theorem IsL.mono {G G' : Hp} {ds : List D} {vs : List V} (h : IsL G ds vs) (e : Same G G') : IsL G' ds vs := IsL.mono0 e ds h
theorem IsL.length {G : Hp} : ∀ {ds : List D} {vs : List V}, IsL G ds vs → vs.length = ds.length
  | [], _, h => by cases h; rfl
  | _ :: ds, _, ⟨_, _, h1, _, h3⟩ => by subst h1; simp [IsL.length h3]
theorem IsL.get {G : Hp} : ∀ {ds : List D} {vs : List V} {i : Nat} {d : D}, IsL G ds vs → ds[i]? = some d → ∃ v, vs[i]? = some v ∧ Is G d v
  | [], _, _, _, _, e => by simp at e
  | _ :: _, _, 0, _, ⟨v, _, h1, h2, _⟩, e => by subst h1; simp at e; subst e; exact ⟨v, rfl, h2⟩
  | _ :: ds, _, i + 1, d, ⟨_, _, h1, _, h3⟩, e => by
    subst h1
    obtain ⟨u, h4, h5⟩ := IsL.get (i := i) (d := d) h3 (by simpa using e)
    exact ⟨u, by simpa using h4, h5⟩
theorem IsL.getV {G : Hp} {ds : List D} {vs : List V} {i : Nat} {v : V} (h : IsL G ds vs) (e : vs[i]? = some v) : ∃ d, ds[i]? = some d ∧ Is G d v := by
  have hl := h.length
  obtain ⟨hi, _⟩ := List.getElem?_eq_some_iff.mp e
  obtain ⟨u, h1, h2⟩ := h.get (i := i) (d := ds[i]'(by omega)) (by simp [hl ▸ hi])
  rw [e] at h1; cases h1
  exact ⟨_, by simp [hl ▸ hi], h2⟩
theorem IsL.nil {G : Hp} : IsL G [] [] := rfl
theorem IsL.cons {G : Hp} {d : D} {ds : List D} {v : V} {vs : List V} (h : Is G d v) (t : IsL G ds vs) : IsL G (d :: ds) (v :: vs) := ⟨v, vs, rfl, h, t⟩
theorem IsL.append {G : Hp} : ∀ {ds es : List D} {vs ws : List V}, IsL G ds vs → IsL G es ws → IsL G (ds ++ es) (vs ++ ws)
  | [], _, _, _, h, k => by cases h; exact k
  | _ :: _, _, _, _, ⟨v, r, h1, h2, h3⟩, k => by subst h1; exact ⟨v, r ++ _, rfl, h2, IsL.append h3 k⟩
theorem IsL.set {G : Hp} : ∀ {ds : List D} {vs : List V} (i : Nat) {d : D} {v : V}, Is G d v → IsL G ds vs → IsL G (ds.set i d) (vs.set i v)
  | [], _, _, _, _, _, h => by cases h; rfl
  | _ :: _, _, 0, _, _, k, ⟨_, r, h1, _, h3⟩ => by subst h1; exact ⟨_, r, rfl, k, h3⟩
  | _ :: _, _, i + 1, _, _, k, ⟨v, r, h1, h2, h3⟩ => by subst h1; exact ⟨v, r.set i _, rfl, h2, IsL.set i k h3⟩
theorem IsL.reverse {G : Hp} : ∀ {ds : List D} {vs : List V}, IsL G ds vs → IsL G ds.reverse vs.reverse
  | [], _, h => by cases h; rfl
  | _ :: _, _, ⟨v, r, h1, h2, h3⟩ => by
    subst h1
    rw [List.reverse_cons, List.reverse_cons]
    exact IsL.append (IsL.reverse h3) (IsL.cons h2 IsL.nil)
theorem IsL.rep {G : Hp} {d : D} {v : V} (h : Is G d v) : ∀ n : Nat, IsL G (List.replicate n d) (List.replicate n v)
  | 0 => rfl
  | n + 1 => ⟨v, _, rfl, h, IsL.rep h n⟩
theorem isL_ints {G : Hp} : ∀ {ns : List Int} {vs : List V}, IsL G (ns.map D.int) vs ↔ vs = ns.map V.int
  | [], vs => Iff.rfl
  | n :: ns, vs => ⟨fun ⟨v, r, h1, h2, h3⟩ => by
      have h2' : v = .int n := h2
      rw [h1, h2', isL_ints.mp h3]; rfl, fun h => ⟨_, _, h, rfl, isL_ints.mpr rfl⟩⟩
theorem isL_bls {G : Hp} : ∀ {ns : List Bool} {vs : List V}, IsL G (ns.map D.bl) vs ↔ vs = ns.map V.bl
  | [], vs => Iff.rfl
  | n :: ns, vs => ⟨fun ⟨v, r, h1, h2, h3⟩ => by
      have h2' : v = .bl n := h2
      rw [h1, h2', isL_bls.mp h3]; rfl, fun h => ⟨_, _, h, rfl, isL_bls.mpr rfl⟩⟩

/-! ### the store of changing objects -/
inductive MO where
  | lst (xs : List D)
  | ins (C dx : Addr) (ns : List Str) (ds : List D)
abbrev Mu := Addr → Option MO
def mu0 : Mu := fun _ => none
def mns (H : Hp) (μ : Mu) : Hp := fun a => match μ a with
  | none => H a
  | some _ => none
def IsM (G : Hp) : MO → HO → Prop
  | .lst xs, o => ∃ vs, o = .lst vs ∧ IsL G xs vs
  | .ins C dx ns ds, o => ∃ vs, o = .ins C dx (ns.zip vs) ∧ IsL G ds vs ∧ ns.length = ds.length
theorem IsM.mono {G G' : Hp} (e : Same G G') {m : MO} {o : HO} (h : IsM G m o) : IsM G' m o := by
  cases m with
  | lst xs => obtain ⟨vs, h1, h2⟩ := h; exact ⟨vs, h1, h2.mono e⟩
  | ins C dx ns ds => obtain ⟨vs, h1, h2, h3⟩ := h; exact ⟨vs, h1, h2.mono e, h3⟩
def Rep (μ : Mu) (H : Hp) : Prop := ∀ a m, μ a = some m → ∃ u, H a = some u ∧ IsM (mns H μ) m u
def mset (μ : Mu) (a : Addr) (m : MO) : Mu := fun b => if b = a then some m else μ b
def mdel (μ : Mu) (a : Addr) : Mu := fun b => if b = a then none else μ b
theorem mset_same {μ : Mu} {a : Addr} {m : MO} : mset μ a m a = some m := if_pos rfl
theorem mset_ne {μ : Mu} {a b : Addr} {m : MO} (h : b ≠ a) : mset μ a m b = μ b := if_neg h
theorem mdel_same {μ : Mu} {a : Addr} : mdel μ a a = none := if_pos rfl
theorem mdel_ne {μ : Mu} {a b : Addr} (h : b ≠ a) : mdel μ a b = μ b := if_neg h
theorem mset_mset {μ : Mu} {a : Addr} {m m' : MO} : mset (mset μ a m) a m' = mset μ a m' := by
  funext b; unfold mset; split <;> rfl
theorem mdel_mset {μ : Mu} {a : Addr} {m : MO} (h : μ a = none) : mdel (mset μ a m) a = μ := by
  funext b; unfold mset mdel
  by_cases e : b = a
  · rw [if_pos e, e, h]
  · rw [if_neg e]
    exact if_neg e
theorem mset_comm {μ : Mu} {a b : Addr} {m m' : MO} (h : a ≠ b) : mset (mset μ a m) b m' = mset (mset μ b m') a m := by
  funext c; unfold mset
  by_cases h1 : c = b
  · by_cases h2 : c = a
    · exact absurd (h2.symm.trans h1) h
    · simp [h1, h2]
      intro e; exact absurd e.symm h
  · simp [h1]
theorem mns_none {H : Hp} {μ : Mu} {a : Addr} (h : μ a = none) : mns H μ a = H a := by unfold mns; rw [h]
theorem mns_some {H : Hp} {μ : Mu} {a : Addr} {m : MO} (h : μ a = some m) : mns H μ a = none := by unfold mns; rw [h]
theorem mns_at {H : Hp} {μ : Mu} {a : Addr} {o : HO} (h : mns H μ a = some o) : μ a = none ∧ H a = some o := by
  cases e : μ a with
  | none => rw [mns_none e] at h; exact ⟨rfl, h⟩
  | some m => rw [mns_some e] at h; cases h
theorem Rep.fresh {μ : Mu} {H : Hp} (r : Rep μ H) {p : Addr} (h : H p = none) : μ p = none := by
  cases e : μ p with
  | none => rfl
  | some m =>
    obtain ⟨u, h1, _⟩ := r p m e
    rw [h] at h1; cases h1
/-- a new object, frozen -/
theorem same_new {μ : Mu} {H : Hp} {p : Addr} {o : HO} (h : H p = none) : Same (mns H μ) (mns (upd H p o) μ) := fun a u e => by
  obtain ⟨e1, e2⟩ := mns_at e
  rw [mns_none e1, upd_ne (ne_of_none e2 h)]
  exact e2
theorem rep_new {μ : Mu} {H : Hp} {p : Addr} {o : HO} (r : Rep μ H) (h : H p = none) : Rep μ (upd H p o) := fun a m e => by
  obtain ⟨u, h1, h2⟩ := r a m e
  exact ⟨u, by rw [upd_ne (ne_of_none h1 h)]; exact h1, h2.mono (same_new h)⟩
theorem mns_new {μ : Mu} {H : Hp} {p : Addr} {o : HO} (r : Rep μ H) (h : H p = none) : mns (upd H p o) μ p = some o := by
  rw [mns_none (r.fresh h), upd_same]
/-- objects that were there stay: the heap only grows -/
theorem same_up {μ : Mu} {H H' : Hp} (e : Same H H') : Same (mns H μ) (mns H' μ) := fun a u z => by
  obtain ⟨e1, e2⟩ := mns_at z
  rw [mns_none e1]
  exact e _ _ e2
theorem rep_up {μ : Mu} {H H' : Hp} (r : Rep μ H) (e : Same H H') : Rep μ H' := fun a m z => by
  obtain ⟨u, h1, h2⟩ := r a m z
  exact ⟨u, e _ _ h1, h2.mono (same_up e)⟩
/-- a new object, to be changed -/
theorem same_newM {μ : Mu} {H : Hp} {p : Addr} {o : HO} {m : MO} (h : H p = none) : Same (mns H μ) (mns (upd H p o) (mset μ p m)) := fun a u e => by
  obtain ⟨e1, e2⟩ := mns_at e
  have ne := ne_of_none e2 h
  rw [mns_none (by rw [mset_ne ne]; exact e1), upd_ne ne]
  exact e2
theorem rep_newM {μ : Mu} {H : Hp} {p : Addr} {o : HO} {m : MO} (r : Rep μ H) (h : H p = none) (hm : IsM (mns H μ) m o) : Rep (mset μ p m) (upd H p o) := fun a n e => by
  by_cases q : a = p
  · subst q
    rw [mset_same] at e; cases e
    exact ⟨o, upd_same, hm.mono (same_newM h)⟩
  · rw [mset_ne q] at e
    obtain ⟨u, h1, h2⟩ := r a n e
    exact ⟨u, by rw [upd_ne q]; exact h1, h2.mono (same_newM h)⟩
/-- a changing object is written -/
theorem same_set {μ : Mu} {H : Hp} {p : Addr} {o : HO} {m m' : MO} (h : μ p = some m) : Same (mns H μ) (mns (upd H p o) (mset μ p m')) := fun a u e => by
  obtain ⟨e1, e2⟩ := mns_at e
  have ne : a ≠ p := fun z => by rw [z, h] at e1; cases e1
  rw [mns_none (by rw [mset_ne ne]; exact e1), upd_ne ne]
  exact e2
theorem rep_set {μ : Mu} {H : Hp} {p : Addr} {o : HO} {m m' : MO} (r : Rep μ H) (h : μ p = some m) (hm : IsM (mns H μ) m' o) : Rep (mset μ p m') (upd H p o) := fun a n e => by
  by_cases q : a = p
  · subst q
    rw [mset_same] at e; cases e
    exact ⟨o, upd_same, hm.mono (same_set h)⟩
  · rw [mset_ne q] at e
    obtain ⟨u, h1, h2⟩ := r a n e
    exact ⟨u, by rw [upd_ne q]; exact h1, h2.mono (same_set h)⟩
/-- .. is frozen -/
theorem same_del {μ : Mu} {H : Hp} {p : Addr} : Same (mns H μ) (mns H (mdel μ p)) := fun a u e => by
  obtain ⟨e1, e2⟩ := mns_at e
  refine (mns_none ?_).trans e2
  by_cases q : a = p
  · rw [q]; exact mdel_same
  · rw [mdel_ne q]; exact e1
theorem rep_del {μ : Mu} {H : Hp} {p : Addr} (r : Rep μ H) : Rep (mdel μ p) H := fun a n e => by
  by_cases q : a = p
  · subst q; rw [mdel_same] at e; cases e
  · rw [mdel_ne q] at e
    obtain ⟨u, h1, h2⟩ := r a n e
    exact ⟨u, h1, h2.mono same_del⟩

/-! ### environments -/
abbrev Rho := List (Option D)
def EnvD (G : Hp) (ρ : Rho) (σ : L2.St) : Prop := σ.length = ρ.length ∧ ∀ (i : Nat) (d : D), ρ[i]? = some (some d) → ∃ v, σ[i]? = some (some v) ∧ Is G d v
theorem EnvD.mono {G G' : Hp} {ρ : Rho} {σ : L2.St} (h : EnvD G ρ σ) (e : Same G G') : EnvD G' ρ σ := ⟨h.1, fun i d z => let ⟨v, h1, h2⟩ := h.2 i d z; ⟨v, h1, h2.mono e⟩⟩
theorem EnvD.set {G : Hp} {ρ : Rho} {σ : L2.St} (h : EnvD G ρ σ) (i : Nat) {d : D} {v : V} (k : Is G d v) : EnvD G (ρ.set i (some d)) (σ.set i (some v)) := by
  refine ⟨by rw [List.length_set, List.length_set, h.1], fun j e z => ?_⟩
  by_cases q : j = i
  · subst q
    have hj : j < ρ.length := by
      have := (List.getElem?_eq_some_iff.mp z).1
      rwa [List.length_set] at this
    rw [List.getElem?_set_self hj] at z
    cases z
    exact ⟨v, List.getElem?_set_self (by rw [h.1]; exact hj), k⟩
  · rw [List.getElem?_set_ne (Ne.symm q)] at z
    obtain ⟨u, h1, h2⟩ := h.2 j e z
    exact ⟨u, by rw [List.getElem?_set_ne (Ne.symm q)]; exact h1, h2⟩

/-! ### the context -/
structure Ctx where
  X : Cx
  G0 : Hp
  ξ : Addr → List Str → List D → Mu → Prop
  ek : XK
def ExcAt (C : Addr) (ns : List Str) (ds : List D) (G : Hp) (H : Hp) (cls : Value) (d : Option Addr) : Prop :=
  cls = .ref C ∧ ns.length = ds.length ∧ match ns with
  | [] => d = none
  | _ :: _ => ∃ dd vs, d = some dd ∧ H dd = some (.xd (ns.zip vs)) ∧ IsL G ds vs
structure Ctx.Ok (Γ : Ctx) (k : Nat) : Prop where
  calm : Γ.X.calm = true
  room : Room k Γ.X.A
  pass : Passes (L2.CX Γ.X.prog Γ.X.w) Γ.X Γ.ek
  own : PassesOwn (model Γ.X.prog Γ.X.w) Γ.X.A Γ.X.env Γ.X.xe
  exc : ∀ C ns ds μ H cls d, Γ.ξ C ns ds μ → ExcAt C ns ds (mns H μ) H cls d → Rep μ H → Same Γ.G0 (mns H μ) → Γ.ek cls d H
  nd : Γ.X.N.Nodup

/-! ### the weakest readings -/
structure wE (X : Cx) (e : Expr) (σ : L2.St) (H : Hp) (Q : VK) : Prop where
  run : ∀ pins s, Inv X pins σ H s → wpAny (model X.prog X.w) X.A (eval e X.env) (EP X pins σ Q) X.xe s
structure wT (X : Cx) (e : Expr) (σ : L2.St) (H : Hp) (Q : Bool → Hp → Prop) : Prop where
  run : ∀ pins s, Inv X pins σ H s → wpAny (model X.prog X.w) X.A (isTrue e X.env (eval e X.env)) (TP X pins σ Q) X.xe s
structure wA (X : Cx) (es : List Expr) (σ : L2.St) (H : Hp) (Q : List V → Hp → Prop) : Prop where
  run : ∀ (pos : Pos) pins s, Inv X pins σ H s → wpAny (model X.prog X.w) X.A (spliced (backTo pos (starEach es X.env))) (AP X pins σ Q) X.xe s
structure wS (X : Cx) (st : Stmt) (D : Ends) (σ : L2.St) (H : Hp) : Prop where
  run : ∀ pins s, Inv X pins σ H s → wpAny (model X.prog X.w) X.A (exec st X.env) (SP X pins D) X.xe s
structure wSs (X : Cx) (sts : List Stmt) (D : Ends) (σ : L2.St) (H : Hp) : Prop where
  run : ∀ pins s, Inv X pins σ H s → wpAny (model X.prog X.w) X.A (execs sts X.env) (SP X pins D) X.xe s
theorem pe_w {X : Cx} {e : Expr} : PE X e (wE X e) := ⟨fun pins s _ _ _ I h => h.run pins s I⟩
theorem pt_w {X : Cx} {e : Expr} : PT X e (wT X e) := ⟨fun pins s _ _ _ I h => h.run pins s I⟩
theorem pa_w {X : Cx} {es : List Expr} : PA X es (wA X es) := ⟨fun pos pins s _ _ _ I h => h.run pos pins s I⟩
theorem ps_w {X : Cx} {st : Stmt} : PS X st (wS X st) := ⟨fun pins s _ _ _ I h => h.run pins s I⟩
theorem pss_w {X : Cx} {sts : List Stmt} : PSs X sts (wSs X sts) := ⟨fun pins s _ _ _ I h => h.run pins s I⟩

/-! ### the judgements -/
/-- what is known where something begins -/
structure At (Γ : Ctx) (ρ : Rho) (μ : Mu) (σ : L2.St) (H : Hp) : Prop where
  env : EnvD (mns H μ) ρ σ
  rep : Rep μ H
  up : Same Γ.G0 (mns H μ)
theorem At.go {Γ : Ctx} {ρ : Rho} {μ μ' : Mu} {σ : L2.St} {H H' : Hp} (a : At Γ ρ μ σ H) (r : Rep μ' H') (e : Same (mns H μ) (mns H' μ')) : At Γ ρ μ' σ H' := ⟨a.env.mono e, r, a.up.trans e⟩
def KE (G : Hp) (Q : D → Mu → Prop) (Qv : VK) : Prop := ∀ v d μ' H', Q d μ' → Is (mns H' μ') d v → Rep μ' H' → Same G (mns H' μ') → Qv v H'
def KT (G : Hp) (Q : Bool → Mu → Prop) (Qv : Bool → Hp → Prop) : Prop := ∀ b μ' H', Q b μ' → Rep μ' H' → Same G (mns H' μ') → Qv b H'
def KA (G : Hp) (Q : List D → Mu → Prop) (Qv : List V → Hp → Prop) : Prop := ∀ vs ds μ' H', Q ds μ' → IsL (mns H' μ') ds vs → Rep μ' H' → Same G (mns H' μ') → Qv vs H'
theorem KE.up {G G' : Hp} {Q : D → Mu → Prop} {Qv : VK} (k : KE G Q Qv) (e : Same G G') : KE G' Q Qv := fun v d μ' H' q i r z => k v d μ' H' q i r (e.trans z)
theorem KT.up {G G' : Hp} {Q : Bool → Mu → Prop} {Qv : Bool → Hp → Prop} (k : KT G Q Qv) (e : Same G G') : KT G' Q Qv := fun b μ' H' q r z => k b μ' H' q r (e.trans z)
theorem KA.up {G G' : Hp} {Q : List D → Mu → Prop} {Qv : List V → Hp → Prop} (k : KA G Q Qv) (e : Same G G') : KA G' Q Qv := fun v d μ' H' q i r z => k v d μ' H' q i r (e.trans z)
structure DE where
  nx : Rho → Mu → Prop
  rt : D → Mu → Prop
  bk : Rho → Mu → Prop := fun _ _ => False
  ct : Rho → Mu → Prop := fun _ _ => False
structure KS (G : Hp) (E : DE) (F : Ends) : Prop where
  nx : ∀ ρ' μ' σ' H', E.nx ρ' μ' → EnvD (mns H' μ') ρ' σ' → Rep μ' H' → Same G (mns H' μ') → F.nx σ' H'
  rt : ∀ v d μ' H', E.rt d μ' → Is (mns H' μ') d v → Rep μ' H' → Same G (mns H' μ') → F.rt v H'
  bk : ∀ ρ' μ' σ' H', E.bk ρ' μ' → EnvD (mns H' μ') ρ' σ' → Rep μ' H' → Same G (mns H' μ') → F.bk σ' H'
  ct : ∀ ρ' μ' σ' H', E.ct ρ' μ' → EnvD (mns H' μ') ρ' σ' → Rep μ' H' → Same G (mns H' μ') → F.ct σ' H'
theorem KS.up {G G' : Hp} {E : DE} {F : Ends} (k : KS G E F) (e : Same G G') : KS G' E F :=
  ⟨fun ρ μ σ H q a r z => k.nx ρ μ σ H q a r (e.trans z), fun v d μ H q a r z => k.rt v d μ H q a r (e.trans z), fun ρ μ σ H q a r z => k.bk ρ μ σ H q a r (e.trans z), fun ρ μ σ H q a r z => k.ct ρ μ σ H q a r (e.trans z)⟩

/-- the expression e, where the names hold ρ and the changing objects are μ, comes to a d and a μ' of Q -/
def ED (Γ : Ctx) (e : Expr) (ρ : Rho) (μ : Mu) (Q : D → Mu → Prop) : Prop := ∀ σ H Qv, At Γ ρ μ σ H → KE (mns H μ) Q Qv → wE Γ.X e σ H Qv
def TD (Γ : Ctx) (e : Expr) (ρ : Rho) (μ : Mu) (Q : Bool → Mu → Prop) : Prop := ∀ σ H Qv, At Γ ρ μ σ H → KT (mns H μ) Q Qv → wT Γ.X e σ H Qv
def AD (Γ : Ctx) (es : List Expr) (ρ : Rho) (μ : Mu) (Q : List D → Mu → Prop) : Prop := ∀ σ H Qv, At Γ ρ μ σ H → KA (mns H μ) Q Qv → wA Γ.X es σ H Qv
def S1 (Γ : Ctx) (st : Stmt) (ρ : Rho) (μ : Mu) (E : DE) : Prop := ∀ σ H F, At Γ ρ μ σ H → KS (mns H μ) E F → wS Γ.X st F σ H
def SD (Γ : Ctx) (sts : List Stmt) (ρ : Rho) (μ : Mu) (E : DE) : Prop := ∀ σ H F, At Γ ρ μ σ H → KS (mns H μ) E F → wSs Γ.X sts F σ H

section
variable {Γ : Ctx} {e e1 e2 a b c : Expr} {es : List Expr} {st : Stmt} {sts : List Stmt} {ρ : Rho} {μ : Mu} {Q : D → Mu → Prop} {R : Bool → Mu → Prop} {E : DE} {pos : Pos} {k : Nat}
theorem ed_of {t : TE} (p : PE Γ.X e t) (h : ∀ σ H Qv, At Γ ρ μ σ H → KE (mns H μ) Q Qv → t σ H Qv) : ED Γ e ρ μ Q := fun σ H Qv a k => ⟨fun pins s I => p.run pins s σ H Qv I (h σ H Qv a k)⟩
theorem td_of {t : TT} (p : PT Γ.X e t) (h : ∀ σ H Qv, At Γ ρ μ σ H → KT (mns H μ) R Qv → t σ H Qv) : TD Γ e ρ μ R := fun σ H Qv a k => ⟨fun pins s I => p.run pins s σ H Qv I (h σ H Qv a k)⟩
theorem ad_of {Q : List D → Mu → Prop} {t : TA} (p : PA Γ.X es t) (h : ∀ σ H Qv, At Γ ρ μ σ H → KA (mns H μ) Q Qv → t σ H Qv) : AD Γ es ρ μ Q := fun σ H Qv a k => ⟨fun pos pins s I => p.run pos pins s σ H Qv I (h σ H Qv a k)⟩
theorem s1_of {t : TS} (p : PS Γ.X st t) (h : ∀ σ H F, At Γ ρ μ σ H → KS (mns H μ) E F → t F σ H) : S1 Γ st ρ μ E := fun σ H F a k => ⟨fun pins s I => p.run pins s σ H F I (h σ H F a k)⟩
theorem sd_of {t : TS} (p : PSs Γ.X sts t) (h : ∀ σ H F, At Γ ρ μ σ H → KS (mns H μ) E F → t F σ H) : SD Γ sts ρ μ E := fun σ H F a k => ⟨fun pins s I => p.run pins s σ H F I (h σ H F a k)⟩
theorem KE.here {Qv : VK} {H : Hp} {v : V} {d : D} (k : KE (mns H μ) Q Qv) (r : Rep μ H) (q : Q d μ) (i : Is (mns H μ) d v) : Qv v H := k v d μ H q i r (Same.refl _)
theorem ED.imp {Q' : D → Mu → Prop} (h : ED Γ e ρ μ Q) (i : ∀ d μ', Q d μ' → Q' d μ') : ED Γ e ρ μ Q' := fun σ H Qv a k => h σ H Qv a fun v d μ' H' q => k v d μ' H' (i d μ' q)
theorem TD.imp {R' : Bool → Mu → Prop} (h : TD Γ e ρ μ R) (i : ∀ d μ', R d μ' → R' d μ') : TD Γ e ρ μ R' := fun σ H Qv a k => h σ H Qv a fun b μ' H' q => k b μ' H' (i b μ' q)
theorem SD.imp {E' : DE} (h : SD Γ sts ρ μ E) (h1 : ∀ x y, E.nx x y → E'.nx x y) (h2 : ∀ x y, E.rt x y → E'.rt x y) (h3 : ∀ x y, E.bk x y → E'.bk x y) (h4 : ∀ x y, E.ct x y → E'.ct x y) : SD Γ sts ρ μ E' := fun σ H F a k =>
  h σ H F a ⟨fun x y s t q => k.nx x y s t (h1 x y q), fun v d y t q => k.rt v d y t (h2 d y q), fun x y s t q => k.bk x y s t (h3 x y q), fun x y s t q => k.ct x y s t (h4 x y q)⟩

/-! ### names, constants -/
theorem ed_var (i : Nat) {x : Str} {d : D} (hd : ρ[i]? = some (some d)) (q : Q d μ) (hN : Γ.X.N[i]? = some x := by rfl) (hv : Vis Γ.X.env.scope x := by first | exact Or.inl rfl | exact Or.inr (Or.inl rfl) | exact Or.inr (Or.inr rfl))
    (hdb : (x == ("__debug__" : Str)) = false := by decide) (hcd : (x == ("__classdict__" : Str)) = false := by decide) : ED Γ (.Name x pos) ρ μ Q := ed_of (pe_var hN hv hdb hcd) fun σ H Qv a k => by
  obtain ⟨v, h1, h2⟩ := a.env.2 i d hd
  exact ⟨v, h1, k.here a.rep q h2⟩
theorem ed_int {i : Int} {j : Nat} (q : Q (.int i) μ) : ED Γ (.Constant (.int i) j pos) ρ μ Q := ed_of pe_int fun σ H Qv a k => k.here a.rep q rfl
theorem ed_bl {i : Bool} {j : Nat} (q : Q (.bl i) μ) : ED Γ (.Constant (.bool i) j pos) ρ μ Q := ed_of pe_bl fun σ H Qv a k => k.here a.rep q rfl
theorem ed_non {j : Nat} (q : Q .non μ) : ED Γ (.Constant .none j pos) ρ μ Q := ed_of pe_non fun σ H Qv a k => k.here a.rep q rfl
theorem ed_str {i : Str} {j : Nat} (q : Q (.str i) μ) : ED Γ (.Constant (.str i) j pos) ρ μ Q := ed_of pe_str fun σ H Qv a k => k.here a.rep q rfl
theorem ed_globI {x : Str} {i : Int} (hm : ∃ t, Γ.X.mg x = some (.int i t)) (q : Q (.int i) μ) (hg : Gl Γ.X x := by rfl) (hdb : (x == ("__debug__" : Str)) = false := by decide) : ED Γ (.Name x pos) ρ μ Q := by
  obtain ⟨t, hm⟩ := hm
  exact ed_of (pe_glob (v := .int i) hg hm ⟨t, rfl⟩ hdb) fun σ H Qv a k => k.here a.rep q rfl
theorem ed_globS {x : Str} {i : Str} (hm : ∃ t, Γ.X.mg x = some (.str i t)) (q : Q (.str i) μ) (hg : Gl Γ.X x := by rfl) (hdb : (x == ("__debug__" : Str)) = false := by decide) : ED Γ (.Name x pos) ρ μ Q := by
  obtain ⟨t, hm⟩ := hm
  exact ed_of (pe_glob (v := .str i) hg hm ⟨t, rfl⟩ hdb) fun σ H Qv a k => k.here a.rep q rfl

/-! ### operators -/
/-- two parts in a row -/
theorem two {P : D → D → Mu → Prop} (ha : ED Γ a ρ μ fun x μ1 => ED Γ b ρ μ1 fun y μ2 => P x y μ2) {σ : L2.St} {H : Hp} {Rv : V → V → Hp → Prop} (z : At Γ ρ μ σ H)
    (h : ∀ x y u v μ' H', P x y μ' → Is (mns H' μ') x u → Is (mns H' μ') y v → Rep μ' H' → Same (mns H μ) (mns H' μ') → Rv u v H') : wE Γ.X a σ H fun u H1 => wE Γ.X b σ H1 fun v H2 => Rv u v H2 := by
  refine ha σ H _ z fun u x μ1 H1 q1 i1 r1 e1 => ?_
  exact q1 σ H1 _ (z.go r1 e1) fun v y μ2 H2 q2 i2 r2 e2 => h x y u v μ2 H2 q2 (i1.mono e2) i2 r2 (e1.trans e2)
theorem one {P : D → Mu → Prop} (ha : ED Γ a ρ μ P) {σ : L2.St} {H : Hp} {Rv : V → Hp → Prop} (z : At Γ ρ μ σ H)
    (h : ∀ x u μ' H', P x μ' → Is (mns H' μ') x u → Rep μ' H' → Same (mns H μ) (mns H' μ') → Rv u H') : wE Γ.X a σ H Rv := ha σ H _ z fun u x μ1 H1 q1 i1 r1 e1 => h x u μ1 H1 q1 i1 r1 e1
/-- an operator on two ints, under C, to a flat value -/
theorem ed_opI {op : Operator} {C : Int → Int → Prop} {g : Int → Int → Int} (ho : OpR Γ.X (binaryOp op) (rI C fun i j => .int (g i j)))
    (ha : ED Γ a ρ μ fun x μ1 => ED Γ b ρ μ1 fun y μ2 => ∃ i j, x = .int i ∧ y = .int j ∧ C i j ∧ Q (.int (g i j)) μ2) : ED Γ (.BinOp a op b pos) ρ μ Q :=
  ed_of (pe_op ho pe_w pe_w) fun σ H Qv z k => two ha z fun x y u v μ' H' ⟨i, j, hx, hy, hc, q⟩ ix iy r e => by
    subst hx hy
    exact ⟨i, j, ix, iy, hc, k _ _ _ _ q rfl r e⟩
theorem ed_opI0 {op : Operator} {g : Int → Int → Int} (ho : OpR Γ.X (binaryOp op) (rI0 fun i j => .int (g i j)))
    (ha : ED Γ a ρ μ fun x μ1 => ED Γ b ρ μ1 fun y μ2 => ∃ i j, x = .int i ∧ y = .int j ∧ Q (.int (g i j)) μ2) : ED Γ (.BinOp a op b pos) ρ μ Q :=
  ed_of (pe_op ho pe_w pe_w) fun σ H Qv z k => two ha z fun x y u v μ' H' ⟨i, j, hx, hy, q⟩ ix iy r e => by
    subst hx hy
    exact ⟨i, j, ix, iy, k _ _ _ _ q rfl r e⟩
theorem ed_add (ha : ED Γ a ρ μ fun x μ1 => ED Γ b ρ μ1 fun y μ2 => ∃ i j, x = .int i ∧ y = .int j ∧ Q (.int (i + j)) μ2) : ED Γ (.BinOp a .Add b pos) ρ μ Q := ed_opI0 op_add ha
theorem ed_sub (ha : ED Γ a ρ μ fun x μ1 => ED Γ b ρ μ1 fun y μ2 => ∃ i j, x = .int i ∧ y = .int j ∧ Q (.int (i - j)) μ2) : ED Γ (.BinOp a .Sub b pos) ρ μ Q := ed_opI0 op_sub ha
theorem ed_mul (ha : ED Γ a ρ μ fun x μ1 => ED Γ b ρ μ1 fun y μ2 => ∃ i j, x = .int i ∧ y = .int j ∧ CMul i j ∧ Q (.int (i * j)) μ2) : ED Γ (.BinOp a .Mult b pos) ρ μ Q := ed_opI op_mul ha
theorem ed_mulW (ha : ED Γ a ρ μ fun x μ1 => ED Γ b ρ μ1 fun y μ2 => ∃ i j, x = .int i ∧ y = .int j ∧ CMulW i j ∧ Q (.int (i * j)) μ2) : ED Γ (.BinOp a .Mult b pos) ρ μ Q := ed_opI op_mulW ha
theorem ed_fdivW (ha : ED Γ a ρ μ fun x μ1 => ED Γ b ρ μ1 fun y μ2 => ∃ i j, x = .int i ∧ y = .int j ∧ CDivW i j ∧ Q (.int (i / j)) μ2) : ED Γ (.BinOp a .FloorDiv b pos) ρ μ Q := ed_opI op_fdivW ha
theorem ed_mod (ha : ED Γ a ρ μ fun x μ1 => ED Γ b ρ μ1 fun y μ2 => ∃ i j, x = .int i ∧ y = .int j ∧ 0 < j ∧ Q (.int (i % j)) μ2) : ED Γ (.BinOp a .Mod b pos) ρ μ Q := ed_opI op_mod ha
theorem ed_pow (ha : ED Γ a ρ μ fun x μ1 => ED Γ b ρ μ1 fun y μ2 => ∃ i j, x = .int i ∧ y = .int j ∧ CPow i j ∧ Q (.int (i ^ j.toNat)) μ2) : ED Γ (.BinOp a .Pow b pos) ρ μ Q := ed_opI op_pow ha
theorem ed_shl (ha : ED Γ a ρ μ fun x μ1 => ED Γ b ρ μ1 fun y μ2 => ∃ i j, x = .int i ∧ y = .int j ∧ CPow i j ∧ Q (.int (i * 2 ^ j.toNat)) μ2) : ED Γ (.BinOp a .LShift b pos) ρ μ Q := ed_opI op_shl ha
theorem ed_shr (ha : ED Γ a ρ μ fun x μ1 => ED Γ b ρ μ1 fun y μ2 => ∃ i j, x = .int i ∧ y = .int j ∧ 0 ≤ j ∧ Q (.int (i / 2 ^ j.toNat)) μ2) : ED Γ (.BinOp a .RShift b pos) ρ μ Q := ed_opI op_shr ha
theorem ed_and (ha : ED Γ a ρ μ fun x μ1 => ED Γ b ρ μ1 fun y μ2 => ∃ i j, x = .int i ∧ y = .int j ∧ Q (.int (Builtin.bitAnd i j)) μ2) : ED Γ (.BinOp a .BitAnd b pos) ρ μ Q := ed_opI0 op_and ha
theorem ed_or (ha : ED Γ a ρ μ fun x μ1 => ED Γ b ρ μ1 fun y μ2 => ∃ i j, x = .int i ∧ y = .int j ∧ Q (.int (Builtin.bitOr i j)) μ2) : ED Γ (.BinOp a .BitOr b pos) ρ μ Q := ed_opI0 op_or ha
theorem ed_neg (ha : ED Γ a ρ μ fun x μ1 => ∃ i, x = .int i ∧ Q (.int (-i)) μ1) : ED Γ (.UnaryOp .USub a pos) ρ μ Q :=
  ed_of (pe_un un_neg pe_w) fun σ H Qv z k => one ha z fun x u μ' H' ⟨i, hx, q⟩ ix r e => by
    subst hx
    exact ⟨i, ix, k _ _ _ _ q rfl r e⟩
/-! ### comparisons -/
theorem ed_cmp {op : CmpOp} {f : Int → Int → Bool} (ho : OpR Γ.X (compareOp op) (rI0 fun i j => .bl (f i j))) (hm : behindInMarks op b = false)
    (ha : ED Γ a ρ μ fun x μ1 => ED Γ b ρ μ1 fun y μ2 => ∃ i j, x = .int i ∧ y = .int j ∧ Q (.bl (f i j)) μ2) : ED Γ (.Compare a [op] [b] pos) ρ μ Q :=
  ed_of (pe_cmpR ho pe_w pe_w hm) fun σ H Qv z k => two ha z fun x y u v μ' H' ⟨i, j, hx, hy, q⟩ ix iy r e => by
    subst hx hy
    exact ⟨i, j, ix, iy, k _ _ _ _ q rfl r e⟩
theorem td_cmp {op : CmpOp} {f : Int → Int → Bool} (ho : OpR Γ.X (compareOp op) (rI0 fun i j => .bl (f i j))) (hm : behindInMarks op b = false)
    (ha : ED Γ a ρ μ fun x μ1 => ED Γ b ρ μ1 fun y μ2 => ∃ i j, x = .int i ∧ y = .int j ∧ R (f i j) μ2) : TD Γ (.Compare a [op] [b] pos) ρ μ R :=
  td_of (pt_cmpR ho pe_w pe_w hm) fun σ H Qv z k => two ha z fun x y u v μ' H' ⟨i, j, hx, hy, q⟩ ix iy r e => by
    subst hx hy
    exact ⟨i, j, ix, iy, _, rfl, k _ _ _ q r e⟩
theorem ed_lt (ha : ED Γ a ρ μ fun x μ1 => ED Γ b ρ μ1 fun y μ2 => ∃ i j, x = .int i ∧ y = .int j ∧ Q (.bl (decide (i < j))) μ2) : ED Γ (.Compare a [.Lt] [b] pos) ρ μ Q := ed_cmp op_lt (nomark _) ha
theorem ed_le (ha : ED Γ a ρ μ fun x μ1 => ED Γ b ρ μ1 fun y μ2 => ∃ i j, x = .int i ∧ y = .int j ∧ Q (.bl (decide (i ≤ j))) μ2) : ED Γ (.Compare a [.LtE] [b] pos) ρ μ Q := ed_cmp op_le (nomark _) ha
theorem ed_gt (ha : ED Γ a ρ μ fun x μ1 => ED Γ b ρ μ1 fun y μ2 => ∃ i j, x = .int i ∧ y = .int j ∧ Q (.bl (decide (j < i))) μ2) : ED Γ (.Compare a [.Gt] [b] pos) ρ μ Q := ed_cmp op_gt (nomark _) ha
theorem ed_ge (ha : ED Γ a ρ μ fun x μ1 => ED Γ b ρ μ1 fun y μ2 => ∃ i j, x = .int i ∧ y = .int j ∧ Q (.bl (decide (j ≤ i))) μ2) : ED Γ (.Compare a [.GtE] [b] pos) ρ μ Q := ed_cmp op_ge (nomark _) ha
theorem td_lt (ha : ED Γ a ρ μ fun x μ1 => ED Γ b ρ μ1 fun y μ2 => ∃ i j, x = .int i ∧ y = .int j ∧ R (decide (i < j)) μ2) : TD Γ (.Compare a [.Lt] [b] pos) ρ μ R := td_cmp op_lt (nomark _) ha
theorem td_le (ha : ED Γ a ρ μ fun x μ1 => ED Γ b ρ μ1 fun y μ2 => ∃ i j, x = .int i ∧ y = .int j ∧ R (decide (i ≤ j)) μ2) : TD Γ (.Compare a [.LtE] [b] pos) ρ μ R := td_cmp op_le (nomark _) ha
theorem td_gt (ha : ED Γ a ρ μ fun x μ1 => ED Γ b ρ μ1 fun y μ2 => ∃ i j, x = .int i ∧ y = .int j ∧ R (decide (j < i)) μ2) : TD Γ (.Compare a [.Gt] [b] pos) ρ μ R := td_cmp op_gt (nomark _) ha
theorem td_ge (ha : ED Γ a ρ μ fun x μ1 => ED Γ b ρ μ1 fun y μ2 => ∃ i j, x = .int i ∧ y = .int j ∧ R (decide (j ≤ i)) μ2) : TD Γ (.Compare a [.GtE] [b] pos) ρ μ R := td_cmp op_ge (nomark _) ha
/-- flat values and their == -/
def flatD : D → Option V
  | .non => some .non
  | .bl b => some (.bl b)
  | .int i => some (.int i)
  | .str s => some (.str s)
  | _ => none
theorem is_flat {G : Hp} {d : D} {v w : V} (h : flatD d = some w) (i : Is G d v) : v = w := by
  cases d <;> simp only [flatD, Option.some.injEq, reduceCtorEq] at h <;> (subst h; exact i)
theorem ed_eq (ha : ED Γ a ρ μ fun x μ1 => ED Γ b ρ μ1 fun y μ2 => ∃ u v, flatD x = some u ∧ flatD y = some v ∧ scal u v = true ∧ Q (.bl (decide (u = v))) μ2) : ED Γ (.Compare a [.Eq] [b] pos) ρ μ Q :=
  ed_of (pe_cmpR op_eq pe_w pe_w (nomark _)) fun σ H Qv z k => two ha z fun x y u v μ' H' ⟨i, j, hx, hy, hs, q⟩ ix iy r e => by
    rw [is_flat hx ix, is_flat hy iy]
    exact ⟨hs, k _ _ _ _ q rfl r e⟩
theorem td_eq (ha : ED Γ a ρ μ fun x μ1 => ED Γ b ρ μ1 fun y μ2 => ∃ u v, flatD x = some u ∧ flatD y = some v ∧ scal u v = true ∧ R (decide (u = v)) μ2) : TD Γ (.Compare a [.Eq] [b] pos) ρ μ R :=
  td_of (pt_cmpR op_eq pe_w pe_w (nomark _)) fun σ H Qv z k => two ha z fun x y u v μ' H' ⟨i, j, hx, hy, hs, q⟩ ix iy r e => by
    rw [is_flat hx ix, is_flat hy iy]
    exact ⟨hs, _, rfl, k _ _ _ q r e⟩
theorem ed_ne (ha : ED Γ a ρ μ fun x μ1 => ED Γ b ρ μ1 fun y μ2 => ∃ u v, flatD x = some u ∧ flatD y = some v ∧ scal u v = true ∧ Q (.bl (!decide (u = v))) μ2) : ED Γ (.Compare a [.NotEq] [b] pos) ρ μ Q :=
  ed_of (pe_cmpR op_ne pe_w pe_w (nomark _)) fun σ H Qv z k => two ha z fun x y u v μ' H' ⟨i, j, hx, hy, hs, q⟩ ix iy r e => by
    rw [is_flat hx ix, is_flat hy iy]
    exact ⟨hs, k _ _ _ _ q rfl r e⟩
theorem td_ne (ha : ED Γ a ρ μ fun x μ1 => ED Γ b ρ μ1 fun y μ2 => ∃ u v, flatD x = some u ∧ flatD y = some v ∧ scal u v = true ∧ R (!decide (u = v)) μ2) : TD Γ (.Compare a [.NotEq] [b] pos) ρ μ R :=
  td_of (pt_cmpR op_ne pe_w pe_w (nomark _)) fun σ H Qv z k => two ha z fun x y u v μ' H' ⟨i, j, hx, hy, hs, q⟩ ix iy r e => by
    rw [is_flat hx ix, is_flat hy iy]
    exact ⟨hs, _, rfl, k _ _ _ q r e⟩
/-- two ints compared: the usual case -/
theorem td_eqI (ha : ED Γ a ρ μ fun x μ1 => ED Γ b ρ μ1 fun y μ2 => ∃ i j, x = .int i ∧ y = .int j ∧ R (decide (i = j)) μ2) : TD Γ (.Compare a [.Eq] [b] pos) ρ μ R :=
  td_eq (ha.imp fun x μ1 h => h.imp fun y μ2 ⟨i, j, hx, hy, q⟩ => by
    subst hx hy
    exact ⟨_, _, rfl, rfl, rfl, by rw [show decide (V.int i = V.int j) = decide (i = j) by simp]; exact q⟩)
theorem td_neI (ha : ED Γ a ρ μ fun x μ1 => ED Γ b ρ μ1 fun y μ2 => ∃ i j, x = .int i ∧ y = .int j ∧ R (!decide (i = j)) μ2) : TD Γ (.Compare a [.NotEq] [b] pos) ρ μ R :=
  td_ne (ha.imp fun x μ1 h => h.imp fun y μ2 ⟨i, j, hx, hy, q⟩ => by
    subst hx hy
    exact ⟨_, _, rfl, rfl, rfl, by rw [show decide (V.int i = V.int j) = decide (i = j) by simp]; exact q⟩)
theorem ed_eqI (ha : ED Γ a ρ μ fun x μ1 => ED Γ b ρ μ1 fun y μ2 => ∃ i j, x = .int i ∧ y = .int j ∧ Q (.bl (decide (i = j))) μ2) : ED Γ (.Compare a [.Eq] [b] pos) ρ μ Q :=
  ed_eq (ha.imp fun x μ1 h => h.imp fun y μ2 ⟨i, j, hx, hy, q⟩ => by
    subst hx hy
    exact ⟨_, _, rfl, rfl, rfl, by rw [show decide (V.int i = V.int j) = decide (i = j) by simp]; exact q⟩)
/-- is None -/
def nonD : D → Bool
  | .non => true
  | _ => false
theorem is_non {G : Hp} {d : D} {v : V} (i : Is G d v) : decide (v = V.non) = nonD d := by
  cases d with
  | non => cases (show v = _ from i); rfl
  | bl b => cases (show v = _ from i); rfl
  | int b => cases (show v = _ from i); rfl
  | str b => cases (show v = _ from i); rfl
  | ptr b => cases (show v = _ from i); rfl
  | ty b => cases (show v = _ from i); rfl
  | tup xs => obtain ⟨a, vs, e, _⟩ := i; subst e; rfl
  | lst xs => obtain ⟨a, vs, e, _⟩ := i; subst e; rfl
  | obj C ns ds => obtain ⟨a, dx, vs, e, _⟩ := i; subst e; rfl
theorem ed_isN {j : Nat} {pos' : Pos} (ha : ED Γ a ρ μ fun x μ1 => Q (.bl (nonD x)) μ1) : ED Γ (.Compare a [.Is] [.Constant .none j pos'] pos) ρ μ Q :=
  ed_of (pe_cmp (pc_isN pe_w) rfl) fun σ H Qv z k => one ha z fun x u μ' H' q ix r e => k _ _ _ _ q (is_non ix ▸ rfl) r e
theorem td_isN {j : Nat} {pos' : Pos} (ha : ED Γ a ρ μ fun x μ1 => R (nonD x) μ1) : TD Γ (.Compare a [.Is] [.Constant .none j pos'] pos) ρ μ R :=
  td_of (pt_cmp (pc_isN pe_w) rfl) fun σ H Qv z k => one ha z fun x u μ' H' q ix r e => ⟨_, rfl, by rw [is_non ix]; exact k _ _ _ q r e⟩
theorem td_notN {j : Nat} {pos' : Pos} (ha : ED Γ a ρ μ fun x μ1 => R (!nonD x) μ1) : TD Γ (.Compare a [.IsNot] [.Constant .none j pos'] pos) ρ μ R :=
  td_of (pt_cmp (pc_notN pe_w) rfl) fun σ H Qv z k => one ha z fun x u μ' H' q ix r e => ⟨_, rfl, by rw [is_non ix]; exact k _ _ _ q r e⟩
/-- a <= b <= c of ints -/
theorem td_chain {op op' : CmpOp} {f g : Int → Int → Bool} (ho : OpR Γ.X (compareOp op) (rI0 fun i j => .bl (f i j))) (ho' : OpR Γ.X (compareOp op') (rI0 fun i j => .bl (g i j)))
    (ha : ED Γ a ρ μ fun x μ1 => ED Γ b ρ μ1 fun y μ2 => ∃ i j, x = .int i ∧ y = .int j ∧ if f i j = true then ED Γ c ρ μ2 fun w μ3 => ∃ l, w = .int l ∧ R (g j l) μ3 else R false μ2)
    (hm : lastMarks [op, op'] [b, c] = false := by with_unfolding_all rfl) : TD Γ (.Compare a [op, op'] [b, c] pos) ρ μ R :=
  td_of (pt_chain ho ho' pe_w pe_w pe_w hm) fun σ H Qv z k => two ha z fun x y u v μ' H' ⟨i, j, hx, hy, q⟩ ix iy r e => by
    subst hx hy
    refine ⟨i, j, ix, iy, _, rfl, ?_⟩
    cases hf : f i j with
    | true =>
      rw [hf] at q
      exact one q (z.go r e) fun x3 u3 μ3 H3 ⟨l, hl, q3⟩ i3 r3 e3 => by
        subst hl
        exact ⟨j, l, iy, i3, _, rfl, k _ _ _ q3 r3 (e.trans e3)⟩
    | false =>
      rw [hf] at q
      exact ⟨_, rfl, k _ _ _ q r e⟩

/-! ### tests -/
theorem td_val (ha : ED Γ e ρ μ fun x μ1 => ∃ c, x = .bl c ∧ R c μ1) (he : ∀ whole, isTrue e Γ.X.env whole = (do let v ← whole; standAt e.pos; holding [v] (truthy v)) := by intro _; rfl) : TD Γ e ρ μ R :=
  td_of (pt_val pe_w he) fun σ H Qv z k => one ha z fun x u μ' H' ⟨c, hx, q⟩ ix r e => by
    subst hx
    exact ⟨c, ix, k _ _ _ q r e⟩
theorem td_not (ha : TD Γ a ρ μ fun c μ1 => R (!c) μ1) : TD Γ (.UnaryOp .Not a pos) ρ μ R :=
  td_of (pt_not pt_w) fun σ H Qv z k => ha σ H _ z fun b μ' H' q r e => k _ _ _ q r e
theorem td_and (ha : TD Γ a ρ μ fun c μ1 => if c = true then TD Γ b ρ μ1 R else R false μ1) : TD Γ (.BoolOp .And [a, b] pos) ρ μ R :=
  td_of (PW.pt (pw_and pt_w (pw_and1 pt_w))) fun σ H Qv z k => ha σ H _ z fun c μ' H' q r e => by
    cases c with
    | true => exact q σ H' _ (z.go r e) (k.up e)
    | false => exact k _ _ _ q r e
theorem td_or (ha : TD Γ a ρ μ fun c μ1 => if c = true then R true μ1 else TD Γ b ρ μ1 R) : TD Γ (.BoolOp .Or [a, b] pos) ρ μ R :=
  td_of (PW.pt (pw_or pt_w (pw_or1 pt_w))) fun σ H Qv z k => ha σ H _ z fun c μ' H' q r e => by
    cases c with
    | true => exact k _ _ _ q r e
    | false => exact q σ H' _ (z.go r e) (k.up e)
/-- as values -/
theorem ed_or2 (ha : ED Γ a ρ μ fun x μ1 => ∃ c, x = .bl c ∧ if c = true then Q (.bl true) μ1 else ED Γ b ρ μ1 Q) : ED Γ (.BoolOp .Or [a, b] pos) ρ μ Q :=
  ed_of (pe_or pe_w (pe_one pe_w)) fun σ H Qv z k => one ha z fun x u μ' H' ⟨c, hx, q⟩ ix r e => by
    subst hx
    refine ⟨c, ix, ?_⟩
    cases c with
    | true => exact k _ _ _ _ q rfl r e
    | false => exact q σ H' _ (z.go r e) (k.up e)
theorem ed_and2 (ha : ED Γ a ρ μ fun x μ1 => ∃ c, x = .bl c ∧ if c = true then ED Γ b ρ μ1 Q else Q (.bl false) μ1) : ED Γ (.BoolOp .And [a, b] pos) ρ μ Q :=
  ed_of (pe_and pe_w (pe_one pe_w)) fun σ H Qv z k => one ha z fun x u μ' H' ⟨c, hx, q⟩ ix r e => by
    subst hx
    refine ⟨c, ix, ?_⟩
    cases c with
    | true => exact q σ H' _ (z.go r e) (k.up e)
    | false => exact k _ _ _ _ q rfl r e
theorem ed_and3 (ha : ED Γ a ρ μ fun x μ1 => ∃ c, x = .bl c ∧ if c = true then ED Γ (.BoolOp .And [b, e] pos) ρ μ1 Q else Q (.bl false) μ1) : ED Γ (.BoolOp .And [a, b, e] pos) ρ μ Q :=
  ed_of (pe_and pe_w pe_w) fun σ H Qv z k => one ha z fun x u μ' H' ⟨c, hx, q⟩ ix r e => by
    subst hx
    refine ⟨c, ix, ?_⟩
    cases c with
    | true => exact q σ H' _ (z.go r e) (k.up e)
    | false => exact k _ _ _ _ q rfl r e
theorem td_and3 (ha : TD Γ a ρ μ fun c μ1 => if c = true then TD Γ b ρ μ1 fun c2 μ2 => if c2 = true then TD Γ e ρ μ2 R else R false μ2 else R false μ1) : TD Γ (.BoolOp .And [a, b, e] pos) ρ μ R :=
  td_of (PW.pt (pw_and pt_w (pw_and pt_w (pw_and1 pt_w)))) fun σ H Qv z k => ha σ H _ z fun c μ' H' q r e => by
    cases c with
    | true =>
      refine q σ H' _ (z.go r e) fun c2 μ2 H2 q2 r2 e2 => ?_
      cases c2 with
      | true => exact q2 σ H2 _ ((z.go r e).go r2 e2) (k.up (e.trans e2))
      | false => exact k _ _ _ q2 r2 (e.trans e2)
    | false => exact k _ _ _ q r e
theorem ed_not (ha : ED Γ a ρ μ fun x μ1 => ∃ c, x = .bl c ∧ Q (.bl (!c)) μ1) : ED Γ (.UnaryOp .Not a pos) ρ μ Q :=
  ed_of (pe_not pe_w) fun σ H Qv z k => one ha z fun x u μ' H' ⟨c, hx, q⟩ ix r e => by
    subst hx
    exact ⟨c, ix, k _ _ _ _ q rfl r e⟩
end
end DD
set_option Elab.async false
set_option linter.all false
set_option maxRecDepth 100000
set_option maxHeartbeats 4000000
/-! D1: lists, tuples, displays, fields, calls of built-ins, statements, loops. -/
namespace DD
open PySem PySem.Spec PyProof.Rows L2

/-! ### what is read as a list, a tuple, an instance -/
def lstOf (μ : Mu) : D → Option (List D)
  | .lst xs => some xs
  | .ptr p => match μ p with
    | some (.lst xs) => some xs
    | _ => none
  | _ => none
theorem lst_at {μ : Mu} {H : Hp} {d : D} {v : V} {xs : List D} (r : Rep μ H) (i : Is (mns H μ) d v) (h : lstOf μ d = some xs) : ∃ a vs, v = .ref a ∧ H a = some (.lst vs) ∧ IsL (mns H μ) xs vs := by
  cases d with
  | lst ys =>
    cases h
    obtain ⟨a, vs, h1, h2, h3⟩ := i
    exact ⟨a, vs, h1, (mns_at h2).2, h3⟩
  | ptr p =>
    have h' : (match μ p with
      | some (.lst xs) => some xs
      | _ => none) = some xs := h
    cases e : μ p with
    | none => rw [e] at h'; cases h'
    | some m =>
      rw [e] at h'
      cases m with
      | lst ys =>
        cases h'
        obtain ⟨u, h1, vs, h2, h3⟩ := r p _ e
        subst h2
        exact ⟨p, vs, i, h1, h3⟩
      | ins C dx ns ds => cases h'
  | _ => cases h
theorem lstOf_ptr {μ : Mu} {p : Addr} {xs : List D} (h : μ p = some (.lst xs)) : lstOf μ (.ptr p) = some xs := by
  show (match μ p with
    | some (.lst xs) => some xs
    | _ => none) = some xs
  rw [h]
def insOf (μ : Mu) : D → Option (Addr × List Str × List D)
  | .obj C ns ds => some (C, ns, ds)
  | .ptr p => match μ p with
    | some (.ins C _ ns ds) => some (C, ns, ds)
    | _ => none
  | _ => none
theorem ins_at {μ : Mu} {H : Hp} {d : D} {v : V} {C : Addr} {ns : List Str} {ds : List D} (r : Rep μ H) (i : Is (mns H μ) d v) (h : insOf μ d = some (C, ns, ds)) :
    ∃ a dx vs, v = .ref a ∧ H a = some (.ins C dx (ns.zip vs)) ∧ IsL (mns H μ) ds vs ∧ ns.length = ds.length := by
  cases d with
  | obj C' ns' ds' =>
    cases h
    obtain ⟨a, dx, vs, h1, h2, h3, h4⟩ := i
    exact ⟨a, dx, vs, h1, (mns_at h2).2, h3, h4⟩
  | ptr p =>
    have h' : (match μ p with
      | some (.ins C _ ns ds) => some (C, ns, ds)
      | _ => none) = some (C, ns, ds) := h
    cases e : μ p with
    | none => rw [e] at h'; cases h'
    | some m =>
      rw [e] at h'
      cases m with
      | lst ys => cases h'
      | ins C' dx ns' ds' =>
        cases h'
        obtain ⟨u, h1, vs, h2, h3, h4⟩ := r p _ e
        subst h2
        exact ⟨p, dx, vs, i, h1, h3, h4⟩
  | _ => cases h
theorem insOf_ptr {μ : Mu} {p C dx : Addr} {ns : List Str} {ds : List D} (h : μ p = some (.ins C dx ns ds)) : insOf μ (.ptr p) = some (C, ns, ds) := by
  show (match μ p with
    | some (.ins C _ ns ds) => some (C, ns, ds)
    | _ => none) = some (C, ns, ds)
  rw [h]
theorem atI_is {G : Hp} {xs : List D} {vs : List V} {i : Int} {d : D} (l : IsL G xs vs) (h : atI xs i = some d) : ∃ v, atI vs i = some v ∧ Is G d v := by
  unfold atI at h ⊢
  rw [l.length]
  cases e : ixN xs.length i with
  | none => rw [e] at h; cases h
  | some j =>
    rw [e] at h
    exact l.get (show xs[j]? = some d from h)
/-- a field by name -/
def fldD : List Str → List D → Str → Option D
  | n :: ns, d :: ds, f => if n = f then some d else fldD ns ds f
  | _, _, _ => none
theorem fld_is {G : Hp} {f : Str} {d : D} : ∀ {ns : List Str} {ds : List D} {vs : List V}, IsL G ds vs → fldD ns ds f = some d → ∃ v, (ns.zip vs).lookup f = some v ∧ Is G d v
  | [], _, _, _, h => by cases h
  | _ :: _, [], _, _, h => by cases h
  | n :: ns, e :: ds, _, ⟨v, r, h1, h2, h3⟩, h => by
    subst h1
    have h' : (if n = f then some e else fldD ns ds f) = some d := h
    by_cases q : n = f
    · rw [if_pos q] at h'; cases h'
      subst q
      exact ⟨v, by simp [List.lookup], h2⟩
    · rw [if_neg q] at h'
      obtain ⟨u, k1, k2⟩ := fld_is h3 h'
      have q' : (f == n) = false := by simpa using fun z : f = n => q z.symm
      exact ⟨u, by simp [List.lookup, q', k1], k2⟩
theorem fld_none {f : Str} : ∀ {ns : List Str} {vs : List V}, f ∉ ns → (ns.zip vs).lookup f = none
  | [], _, _ => by simp
  | _ :: _, [], _ => by simp
  | n :: ns, v :: vs, h => by
    have q' : (f == n) = false := by simpa using fun z : f = n => h (by simp [z])
    have ih := fld_none (f := f) (ns := ns) (vs := vs) fun z => h (List.mem_cons_of_mem _ z)
    simp [List.lookup, q', ih]
/-- a field stored -/
def putN : List Str → Str → List Str
  | [], f => [f]
  | n :: ns, f => if n = f then n :: ns else n :: putN ns f
def putD : List Str → List D → Str → D → List D
  | n :: ns, d :: ds, f, y => if n = f then y :: ds else d :: putD ns ds f y
  | _, ds, _, y => ds ++ [y]
theorem put_is {G : Hp} {f : Str} {y : D} {v : V} (hy : Is G y v) : ∀ {ns : List Str} {ds : List D} {vs : List V}, IsL G ds vs → ns.length = ds.length →
    ∃ ws, putF f v (ns.zip vs) = (putN ns f).zip ws ∧ IsL G (putD ns ds f y) ws ∧ (putN ns f).length = (putD ns ds f y).length
  | [], [], _, h, _ => by
    cases h
    exact ⟨[v], rfl, ⟨v, [], rfl, hy, rfl⟩, rfl⟩
  | [], _ :: _, _, _, h => by cases h
  | _ :: _, [], _, _, h => by cases h
  | n :: ns, d :: ds, _, ⟨u, r, h1, h2, h3⟩, hl => by
    subst h1
    show ∃ ws, (if n = f then (n, v) :: ns.zip r else (n, u) :: putF f v (ns.zip r)) = (putN (n :: ns) f).zip ws ∧ IsL G (if n = f then y :: ds else d :: putD ns ds f y) ws ∧ (putN (n :: ns) f).length = _
    by_cases q : n = f
    · refine ⟨v :: r, ?_, ?_, ?_⟩
      · rw [if_pos q, show putN (n :: ns) f = n :: ns from if_pos q]; rfl
      · rw [if_pos q]; exact ⟨v, r, rfl, hy, h3⟩
      · rw [show putN (n :: ns) f = n :: ns from if_pos q, show putD (n :: ns) (d :: ds) f y = y :: ds from if_pos q]; exact hl
    · obtain ⟨ws, k1, k2, k3⟩ := put_is hy h3 (Nat.succ.inj hl)
      refine ⟨u :: ws, ?_, ?_, ?_⟩
      · rw [if_neg q, show putN (n :: ns) f = n :: putN ns f from if_neg q, k1]; rfl
      · rw [if_neg q]; exact ⟨u, ws, rfl, h2, k2⟩
      · rw [show putN (n :: ns) f = n :: putN ns f from if_neg q, show putD (n :: ns) (d :: ds) f y = d :: putD ns ds f y from if_neg q, List.length_cons, List.length_cons, k3]

section
variable {Γ : Ctx} {e a b c o : Expr} {es : List Expr} {st : Stmt} {sts : List Stmt} {ρ : Rho} {μ : Mu} {Q : D → Mu → Prop} {R : Bool → Mu → Prop} {E : DE} {pos : Pos} {k : Nat} {x f m : Str} {p : Pos}

/-! ### arguments -/
theorem ad_nil {Q : List D → Mu → Prop} (q : Q [] μ) : AD Γ [] ρ μ Q := ad_of pa_nil fun σ H Qv z k => k [] [] μ H q rfl z.rep (Same.refl _)
theorem ad_cons {Q : List D → Mu → Prop} (ha : ED Γ e ρ μ fun d μ1 => AD Γ es ρ μ1 fun ds μ2 => Q (d :: ds) μ2) (hs : starEach (e :: es) Γ.X.env = (false, eval e Γ.X.env) :: starEach es Γ.X.env := by rfl) : AD Γ (e :: es) ρ μ Q :=
  ad_of (pa_cons pe_w pa_w hs) fun σ H Qv z k => one ha z fun d u μ1 H1 q1 i1 r1 e1 => q1 σ H1 _ (z.go r1 e1) fun vs ds μ2 H2 q2 i2 r2 e2 =>
    k _ _ _ _ q2 (.cons (i1.mono e2) i2) r2 (e1.trans e2)
theorem ad_star {Q : List D → Mu → Prop} {sp : Pos} (ha : ED Γ e ρ μ fun d μ1 => ∃ xs, d = .tup xs ∧ AD Γ es ρ μ1 fun ds μ2 => Q (xs ++ ds) μ2) (hs : starEach (.Starred e sp :: es) Γ.X.env = (true, eval e Γ.X.env) :: starEach es Γ.X.env := by rfl) : AD Γ (.Starred e sp :: es) ρ μ Q :=
  ad_of (StX.pa_star pe_w pa_w hs) fun σ H Qv z k => one ha z fun d u μ1 H1 ⟨xs, hx, q1⟩ i1 r1 e1 => by
    subst hx
    obtain ⟨a, vs, h1, h2, h3⟩ := i1
    refine ⟨a, vs, h1, .inl (SqT.of (mns_at h2).2), q1 σ H1 _ (z.go r1 e1) fun vs2 ds μ2 H2 q2 i2 r2 e2 => ?_⟩
    exact k _ _ _ _ q2 (IsL.append (h3.mono e2) i2) r2 (e1.trans e2)
theorem AD.imp {Q Q' : List D → Mu → Prop} (h : AD Γ es ρ μ Q) (i : ∀ d μ', Q d μ' → Q' d μ') : AD Γ es ρ μ Q' := fun σ H Qv a k => h σ H Qv a fun v d μ' H' q => k v d μ' H' (i d μ' q)

/-! ### displays -/
theorem sz1000 {n : Nat} (h : n ≤ 1000) : n ≤ sizeLine := Nat.le_trans h (by decide)
theorem ed_lst (ha : AD Γ es ρ μ fun ds μ1 => ds.length ≤ 1000 ∧ Q (.lst ds) μ1) : ED Γ (.List es pos) ρ μ Q :=
  ed_of (pe_lst pa_w) fun σ H Qv z k => ha σ H _ z fun vs ds μ1 H1 ⟨hl, q⟩ i r e => ⟨by rw [i.length]; exact sz1000 hl, fun p hp =>
    k _ _ _ _ q ⟨p, vs, rfl, mns_new r hp, i.mono (same_new hp)⟩ (rep_new r hp) (e.trans (same_new hp))⟩
theorem ed_lstM (ha : AD Γ es ρ μ fun ds μ1 => ds.length ≤ 1000 ∧ ∀ p, μ1 p = none → Q (.ptr p) (mset μ1 p (.lst ds))) : ED Γ (.List es pos) ρ μ Q :=
  ed_of (pe_lst pa_w) fun σ H Qv z k => ha σ H _ z fun vs ds μ1 H1 ⟨hl, q⟩ i r e => ⟨by rw [i.length]; exact sz1000 hl, fun p hp =>
    k _ _ _ _ (q p (r.fresh hp)) rfl (rep_newM r hp ⟨vs, rfl, i⟩) (e.trans (same_newM hp))⟩
theorem ed_tup {x1} (ha : AD Γ es ρ μ fun ds μ1 => ds.length ≤ 1000 ∧ Q (.tup ds) μ1) : ED Γ (.Tuple es x1 pos) ρ μ Q :=
  ed_of (pe_tup pa_w) fun σ H Qv z k => ha σ H _ z fun vs ds μ1 H1 ⟨hl, q⟩ i r e => ⟨by rw [i.length]; exact sz1000 hl, fun p hp =>
    k _ _ _ _ q ⟨p, vs, rfl, mns_new r hp, i.mono (same_new hp)⟩ (rep_new r hp) (e.trans (same_new hp))⟩

/-! ### freeze -/
theorem ed_freeze (h : ED Γ e ρ μ fun d μ' => ∃ p ds, d = .ptr p ∧ μ' p = some (.lst ds) ∧ Q (.lst ds) (mdel μ' p)) : ED Γ e ρ μ Q := fun σ H Qv z k => h σ H Qv z fun v d μ' H' ⟨p, ds, hd, hp, q⟩ i r e => by
  subst hd
  obtain ⟨u, h1, vs, h2, h3⟩ := r p _ hp
  subst h2
  exact k v _ _ H' q ⟨p, vs, i, (mns_none mdel_same).trans h1, h3.mono same_del⟩ (rep_del r) (e.trans same_del)
theorem ed_freezeI (h : ED Γ e ρ μ fun d μ' => ∃ p C dx ns ds, d = .ptr p ∧ μ' p = some (.ins C dx ns ds) ∧ Q (.obj C ns ds) (mdel μ' p)) : ED Γ e ρ μ Q := fun σ H Qv z k => h σ H Qv z fun v d μ' H' ⟨p, C, dx, ns, ds, hd, hp, q⟩ i r e => by
  subst hd
  obtain ⟨u, h1, vs, h2, h3, h4⟩ := r p _ hp
  subst h2
  exact k v _ _ H' q ⟨p, dx, vs, i, (mns_none mdel_same).trans h1, h3.mono same_del, h4⟩ (rep_del r) (e.trans same_del)
/-- a name that holds a changing list holds it frozen from now on -/
theorem sd_freeze {i : Nat} {q : Addr} {ds : List D} (hi : ρ[i]? = some (some (.ptr q))) (hq : μ q = some (.lst ds)) (h : SD Γ sts (ρ.set i (some (.lst ds))) (mdel μ q) E) : SD Γ sts ρ μ E := fun σ H F z k => by
  have e : Same (mns H μ) (mns H (mdel μ q)) := same_del
  obtain ⟨v, h1, h2⟩ := z.env.2 i _ hi
  obtain ⟨u, h3, vs, h4, h5⟩ := z.rep q _ hq
  subst h4
  have hv : v = .ref q := h2
  subst hv
  have il : Is (mns H (mdel μ q)) (.lst ds) (.ref q) := ⟨q, vs, rfl, (mns_none mdel_same).trans h3, h5.mono same_del⟩
  have en := (z.env.mono e).set i il
  have hs : σ.set i (some (.ref q)) = σ := by
    refine List.ext_getElem? fun j => ?_
    by_cases hj : j = i
    · subst hj
      rw [List.getElem?_set_self (List.getElem?_eq_some_iff.mp h1).1, h1]
    · rw [List.getElem?_set_ne (Ne.symm hj)]
  rw [hs] at en
  exact h σ H F ⟨en, rep_del z.rep, z.up.trans e⟩ (k.up e)
/-- a changing object that is not needed any more -/
theorem sd_drop (q : Addr) (h : SD Γ sts ρ (mdel μ q) E) : SD Γ sts ρ μ E := fun σ H F z k => h σ H F ⟨z.env.mono same_del, rep_del z.rep, z.up.trans same_del⟩ (k.up same_del)
theorem ed_drop (h : ED Γ e ρ μ fun d μ' => ∃ p, Q d (mdel μ' p)) : ED Γ e ρ μ Q := fun σ H Qv z k => h σ H Qv z fun v d μ' H' ⟨p, q⟩ i r e => k v d _ H' q (i.mono same_del) (rep_del r) (e.trans same_del)

/-! ### subscripts -/
theorem ed_ixL (ha : ED Γ a ρ μ fun x μ1 => ED Γ b ρ μ1 fun y μ2 => ∃ xs i d, lstOf μ2 x = some xs ∧ y = .int i ∧ atI xs i = some d ∧ Q d μ2) (hs : PlainIx b := by intro _ _; rfl) : ED Γ (.Subscript a b pos) ρ μ Q :=
  ed_of (pe_ix ix_list pe_w pe_w hs) fun σ H Qv z k => two ha z fun x y u v μ' H' ⟨xs, i, d, hx, hy, hd, q⟩ ix iy r e => by
    subst hy
    obtain ⟨p, vs, h1, h2, h3⟩ := lst_at r ix hx
    obtain ⟨w, h4, h5⟩ := atI_is h3 hd
    exact ⟨p, vs, i, w, h1, iy, SqL.of h2, h4, k _ _ _ _ q h5 r e⟩
theorem ed_ixT (ha : ED Γ a ρ μ fun x μ1 => ED Γ b ρ μ1 fun y μ2 => ∃ xs i d, x = .tup xs ∧ y = .int i ∧ atI xs i = some d ∧ Q d μ2) (hs : PlainIx b := by intro _ _; rfl) : ED Γ (.Subscript a b pos) ρ μ Q :=
  ed_of (pe_ix ix_tup pe_w pe_w hs) fun σ H Qv z k => two ha z fun x y u v μ' H' ⟨xs, i, d, hx, hy, hd, q⟩ ix iy r e => by
    subst hx hy
    obtain ⟨p, vs, h1, h2, h3⟩ := ix
    obtain ⟨w, h4, h5⟩ := atI_is h3 hd
    exact ⟨p, vs, i, w, h1, iy, SqT.of (mns_at h2).2, h4, k _ _ _ _ q h5 r e⟩
/-- list + list, list * int, == of lists -/
theorem ed_cat (ha : ED Γ a ρ μ fun x μ1 => ED Γ b ρ μ1 fun y μ2 => ∃ xs ys, lstOf μ2 x = some xs ∧ lstOf μ2 y = some ys ∧ xs.length + ys.length ≤ 1000 ∧ Q (.lst (xs ++ ys)) μ2) : ED Γ (.BinOp a .Add b pos) ρ μ Q :=
  ed_of (pe_op op_cat pe_w pe_w) fun σ H Qv z k => two ha z fun x y u v μ' H' ⟨xs, ys, hx, hy, hl, q⟩ ix iy r e => by
    obtain ⟨p, vs, h1, h2, h3⟩ := lst_at r ix hx
    obtain ⟨p', vs', h1', h2', h3'⟩ := lst_at r iy hy
    refine ⟨p, p', vs, vs', h1, h1', h2, h2', by rw [h3.length, h3'.length]; exact sz1000 hl, fun n hn => ?_⟩
    exact k _ _ _ _ q ⟨n, _, rfl, mns_new r hn, (IsL.append h3 h3').mono (same_new hn)⟩ (rep_new r hn) (e.trans (same_new hn))
theorem flatten_rep {α : Type} (x : α) : ∀ n : Nat, (List.replicate n [x]).flatten = List.replicate n x
  | 0 => rfl
  | n + 1 => by rw [List.replicate_succ, List.flatten_cons, flatten_rep x n]; rfl
/-- [d] * n, to be changed -/
theorem ed_repM (ha : ED Γ a ρ μ fun x μ1 => ED Γ b ρ μ1 fun y μ2 => ∃ d i, x = .lst [d] ∧ y = .int i ∧ 0 ≤ i ∧ i ≤ 1000 ∧ ∀ p, μ2 p = none → Q (.ptr p) (mset μ2 p (.lst (List.replicate i.toNat d)))) : ED Γ (.BinOp a .Mult b pos) ρ μ Q :=
  ed_of (pe_op op_rep pe_w pe_w) fun σ H Qv z k => two ha z fun x y u v μ' H' ⟨d, i, hx, hy, h0, h1, q⟩ ix iy r e => by
    subst hx hy
    obtain ⟨p, vs, h1', h2, h3⟩ := ix
    obtain ⟨w, r', hv, hw, hr⟩ := h3
    cases hr
    subst hv
    refine ⟨p, i, [w], h1', iy, (mns_at h2).2, by omega, by omega, by rw [List.length_singleton, Nat.one_mul]; exact sz1000 (by omega), fun n hn => ?_⟩
    rw [flatten_rep]
    exact k _ _ _ _ (q n (r.fresh hn)) rfl (rep_newM r hn ⟨_, rfl, IsL.rep hw _⟩) (e.trans (same_newM hn))

/-! ### fields -/
theorem ed_fld (ha : ED Γ a ρ μ fun x μ1 => ∃ C ns ds d, insOf μ1 x = some (C, ns, ds) ∧ Cls Γ.X.K C ∧ NoAttr Γ.X.K C f ∧ fldD ns ds f = some d ∧ Q d μ1) (hb : attributeBase a f Γ.X.env (eval a Γ.X.env) = eval a Γ.X.env := by rfl) : ED Γ (.Attribute a f pos) ρ μ Q :=
  ed_of (pe_fld pe_w hb) fun σ H Qv z k => one ha z fun x u μ1 H1 ⟨C, ns, ds, d, hx, hc, hn, hf, q⟩ i r e => by
    obtain ⟨p, dx, vs, h1, h2, h3, _⟩ := ins_at r i hx
    obtain ⟨w, h4, h5⟩ := fld_is h3 hf
    exact ⟨p, C, dx, _, w, h1, h2, hc, hn, h4, k _ _ _ _ q h5 r e⟩
theorem putN_length (f : Str) : ∀ ns : List Str, (putN ns f).length ≤ ns.length + 1
  | [] => Nat.le_refl _
  | n :: ns => by
    by_cases q : n = f
    · rw [show putN (n :: ns) f = n :: ns from if_pos q]; omega
    · rw [show putN (n :: ns) f = n :: putN ns f from if_neg q, List.length_cons, List.length_cons]
      have := putN_length f ns
      omega
theorem s1_fld {value : Expr} {pos' : Pos} (ha : ED Γ value ρ μ fun y μ1 => ED Γ o ρ μ1 fun x μ2 => ∃ p C dx ns ds, x = .ptr p ∧ μ2 p = some (.ins C dx ns ds) ∧ Cls Γ.X.K C ∧ NoAttr Γ.X.K C f ∧ ns.length < 1000 ∧
      E.nx ρ (mset μ2 p (.ins C dx (putN ns f) (putD ns ds f y))))
    (hs : swapsWith value (some (.Attribute o f pos')) pos.line Γ.X.env = pure false := by rfl) : S1 Γ (.Assign [.Attribute o f pos'] value pos) ρ μ E :=
  s1_of (ps_fld pe_w pe_w hs) fun σ H F z k => two ha z fun y x v u μ' H' ⟨p, C, dx, ns, ds, hx, hp, hc, hn, hl, q⟩ iy ix r e => by
    subst hx
    obtain ⟨o, h1, vs, h2, h3, h4⟩ := r p _ hp
    subst h2
    obtain ⟨ws, h5, h6, h7⟩ := put_is iy h3 h4
    refine ⟨p, C, dx, _, ix, h1, hc, hn, ?_, ?_⟩
    · rw [List.length_zip]; omega
    · have sm : Same (mns H' μ') (mns (upd H' p (.ins C dx (putF f v (ns.zip vs)))) (mset μ' p (.ins C dx (putN ns f) (putD ns ds f y)))) := same_set hp
      exact k.nx _ _ _ _ q (z.env.mono (e.trans sm)) (rep_set r hp ⟨ws, by rw [h5], h6, h7⟩) (e.trans sm)

/-! ### names stored -/
theorem s1_set (i : Nat) {value : Expr} {pos' : Pos} (ha : ED Γ value ρ μ fun d μ1 => E.nx (ρ.set i (some d)) μ1) (hN : Γ.X.N.Nodup) (hi : Γ.X.N[i]? = some x := by rfl) (hx : Loc Γ.X.env.scope x := by first | exact Or.inl rfl | exact Or.inr rfl)
    (hs : swapsWith value (some (.Name x pos')) pos.line Γ.X.env = pure false := by rfl) (hf : Γ.X.fn x = true ∨ Γ.X.env.scope.names.lookup x = some .local := by first | exact .inl rfl | exact .inr rfl | assumption) : S1 Γ (.Assign [.Name x pos'] value pos) ρ μ E :=
  s1_of (ps_set hN hi hx pe_w hs hf) fun σ H F z k => one ha z fun d v μ1 H1 q i1 r e => k.nx _ _ _ _ q ((z.env.mono e).set i i1) r e
/-- several targets: names of a tuple -/
def setL : List Nat → List D → Rho → Rho
  | i :: is, d :: ds, ρ => setL is ds (ρ.set i (some d))
  | _, _, ρ => ρ
def gNames : List Nat → TGs
  | [] => gNil
  | i :: is => gCons (gName i) (gNames is)
theorem gNames_ok {G : Hp} : ∀ {is : List Nat} {ds : List D} {vs : List V} {ρ : Rho} {σ : L2.St} {H : Hp} {Qs : L2.St → Hp → Prop}, is.length = ds.length → IsL G ds vs → EnvD G ρ σ → (∀ σ', EnvD G (setL is ds ρ) σ' → Qs σ' H) → gNames is vs σ H Qs
  | [], [], _, _, _, _, _, _, h, en, q => by cases h; exact ⟨rfl, q _ en⟩
  | [], _ :: _, _, _, _, _, _, hl, _, _, _ => by cases hl
  | _ :: _, [], _, _, _, _, _, hl, _, _, _ => by cases hl
  | i :: is, d :: ds, _, ρ, σ, H, Qs, hl, ⟨v, r, h1, h2, h3⟩, en, q => by
    subst h1
    exact ⟨v, r, rfl, gNames_ok (Nat.succ.inj hl) h3 (en.set i h2) q⟩
end
end DD
set_option Elab.async false
set_option linter.all false
set_option maxRecDepth 100000
set_option maxHeartbeats 4000000
/-! D2: statements, loops, comprehensions, calls of built-ins. -/
namespace DD
open PySem PySem.Spec PyProof.Rows L2
section
variable {Γ : Ctx} {e a b c o value : Expr} {es : List Expr} {st : Stmt} {sts u1 u2 body : List Stmt} {ρ : Rho} {μ : Mu} {Q : D → Mu → Prop} {R : Bool → Mu → Prop} {E : DE} {pos : Pos} {k : Nat} {x f m : Str} {p : Pos}

/-! ### blocks -/
theorem sd_nil (q : E.nx ρ μ) : SD Γ [] ρ μ E := sd_of pss_nil fun σ H F z k => k.nx _ _ _ _ q z.env z.rep (Same.refl _)
theorem sd_cons (h : S1 Γ st ρ μ { E with nx := fun ρ' μ' => SD Γ sts ρ' μ' E }) : SD Γ (st :: sts) ρ μ E :=
  sd_of (pss_cons ps_w pss_w) fun σ H F z k => h σ H _ z ⟨fun ρ' μ' σ' H' q en r e => q σ' H' F ⟨en, r, z.up.trans e⟩ (k.up e), k.rt, k.bk, k.ct⟩
theorem sd_one (h : S1 Γ st ρ μ E) : SD Γ [st] ρ μ E := sd_of (pss_one ps_w) fun σ H F z k => h σ H F z k
theorem s1_pass (q : E.nx ρ μ) : S1 Γ (.Pass pos) ρ μ E := s1_of ps_pass fun σ H F z k => k.nx _ _ _ _ q z.env z.rep (Same.refl _)
theorem s1_ret (h : ED Γ e ρ μ E.rt) : S1 Γ (.Return (some e) pos) ρ μ E := s1_of (ps_ret pe_w) fun σ H F z k => h σ H _ z fun v d μ' H' q i r e => k.rt v d μ' H' q i r e
theorem s1_expr (h : ED Γ e ρ μ fun _ μ' => E.nx ρ μ') (hs : swapsWith e none pos.line Γ.X.env = pure false := by rfl) : S1 Γ (.Expr e pos) ρ μ E :=
  s1_of (ps_expr pe_w hs) fun σ H F z k => h σ H _ z fun v d μ' H' q i r e => k.nx _ _ _ _ q (z.env.mono e) r e
theorem s1_if (h : TD Γ c ρ μ fun b μ' => if b = true then SD Γ u1 ρ μ' E else SD Γ u2 ρ μ' E) : S1 Γ (.If c u1 u2 pos) ρ μ E :=
  s1_of (ps_if pt_w pss_w pss_w) fun σ H F z k => h σ H _ z fun b μ' H' q r e => by
    cases b with
    | true => exact q σ H' F (z.go r e) (k.up e)
    | false => exact q σ H' F (z.go r e) (k.up e)
theorem s1_never (h : False) : S1 Γ st ρ μ E := h.elim
/-- a, b, .. = a tuple -/
theorem s1_unpack (is : List Nat) {ts : List Expr} {kt : Nat} {pt : Pos} (calm : Γ.X.calm = true) (hg : PGs Γ.X ts (gNames is)) (hn : (assignEach ts Γ.X.env).length = is.length) (hst : (assignEach ts Γ.X.env).findIdx? (·.1) = none)
    (ha : ED Γ value ρ μ fun d μ1 => ∃ ds, d = .tup ds ∧ is.length = ds.length ∧ E.nx (setL is ds ρ) μ1)
    (hs : swapsWithSole [.Tuple ts kt pt] value pos.line Γ.X.env = pure false := by rfl) (hw : swappedStores [.Tuple ts kt pt] value Γ.X.env = pure none := by rfl)
    (h1 : (assignEach [.Tuple ts kt pt] Γ.X.env).map (·.2) = [assign (.Tuple ts kt pt) Γ.X.env] := by rfl) : S1 Γ (.Assign [.Tuple ts kt pt] value pos) ρ μ E :=
  s1_of (ps_asg pe_w (pg_tup calm hg hn hst) hs hw h1) fun σ H F z k => one ha z fun d v μ1 H1 ⟨ds, hd, hl, q⟩ i r e => by
    subst hd
    obtain ⟨a, vs, h1, h2, h3⟩ := i
    exact ⟨a, vs, h1, SqT.of (mns_at h2).2, by rw [h3.length, hl], gNames_ok hl h3 (z.env.mono e) fun σ' en => k.nx _ _ _ _ q en r e⟩
/-- a, b = x, y -/
theorem s1_par (i j : Nat) {y : Str} {px py pt : Pos} {kt k2 pt2} (calm : Γ.X.calm = true) (hN : Γ.X.N.Nodup) (ha : AD Γ [a, b] ρ μ fun ds μ1 => ∃ d1 d2, ds = [d1, d2] ∧ E.nx ((ρ.set i (some d1)).set j (some d2)) μ1) (hi : Γ.X.N[i]? = some x := by rfl) (hj : Γ.X.N[j]? = some y := by rfl) (hij : i ≠ j := by decide)
    (hx : Γ.X.env.scope.names.lookup x = some .local := by rfl) (hy : Γ.X.env.scope.names.lookup y = some .local := by rfl)
    (hw : swappedStores [.Tuple [.Name x px, .Name y py] kt pt] (.Tuple [a, b] k2 pt2) Γ.X.env = pure (some [x, y]) := by rfl)
    (hs : swapsWithSole [.Tuple [.Name x px, .Name y py] kt pt] (.Tuple [a, b] k2 pt2) pos.line Γ.X.env = pure false := by rfl) : S1 Γ (.Assign [.Tuple [.Name x px, .Name y py] kt pt] (.Tuple [a, b] k2 pt2) pos) ρ μ E :=
  s1_of (ps_par calm hN hi hj hij hx hy pa_w hw hs) fun σ H F z k => ha σ H _ z fun vs ds μ1 H1 ⟨d1, d2, hd, q⟩ i1 r e => by
    subst hd
    obtain ⟨v1, r1, e1, i2, v2, r2, e2, i3, e3⟩ := i1
    subst e1
    subst e2
    cases e3
    exact ⟨v1, v2, rfl, k.nx _ _ _ _ q (((z.env.mono e).set i i2).set j i3) r e⟩
/-- xs[i] = v, a changing list -/
theorem s1_sub (ha : ED Γ value ρ μ fun y μ1 => ED Γ a ρ μ1 fun l μ2 => ED Γ b ρ μ2 fun i μ3 => ∃ p xs n j, l = .ptr p ∧ μ3 p = some (.lst xs) ∧ i = .int n ∧ ixN xs.length n = some j ∧ E.nx ρ (mset μ3 p (.lst (xs.set j y))))
    {sp : Pos} (hasg : ∀ v, assign (.Subscript a b sp) Γ.X.env v = (do
      let ov ← holding [v] (eval a Γ.X.env)
      let iv ← holding [v, ov] (eval b Γ.X.env)
      standAt sp
      holding [v, ov, iv] (setItem ov iv v)
      release [v, ov, iv] []) := by intro _; rfl)
    (hs : swapsWithSole [.Subscript a b sp] value pos.line Γ.X.env = pure false := by rfl) (hw : swappedStores [.Subscript a b sp] value Γ.X.env = pure none := by rfl)
    (h1 : (assignEach [.Subscript a b sp] Γ.X.env).map (·.2) = [assign (.Subscript a b sp) Γ.X.env] := by rfl) : S1 Γ (.Assign [.Subscript a b sp] value pos) ρ μ E :=
  s1_of (ps_asg pe_w (pg_sub pe_w pe_w set_list hasg) hs hw h1) fun σ H F z k => one ha z fun y v μ1 H1 q1 i1 r1 e1 => one q1 (z.go r1 e1) fun l w μ2 H2 q2 i2 r2 e2 =>
    one q2 ((z.go r1 e1).go r2 e2) fun i t μ3 H3 ⟨p, xs, n, j, hl, hp, hi, hj, q⟩ i3 r3 e3 => by
    subst hl hi
    obtain ⟨o, h4, vs, h5, h6⟩ := r3 p _ hp
    subst h5
    refine ⟨p, vs, n, j, (i2.mono e3 : _), i3, h4, by rw [h6.length]; exact hj, ?_⟩
    have iv : Is (mns H3 μ3) y v := (i1.mono e2).mono e3
    have sm : Same (mns H3 μ3) (mns (upd H3 p (.lst (vs.set j v))) (mset μ3 p (.lst (xs.set j y)))) := same_set hp
    have up : Same (mns H μ) (mns H3 μ3) := (e1.trans e2).trans e3
    exact k.nx _ _ _ _ q (z.env.mono (up.trans sm)) (rep_set r3 hp ⟨_, rfl, IsL.set j iv h6⟩) (up.trans sm)

/-! ### loops -/
/-- for x in range(n) -/
theorem s1_forR (i : Nat) (I : Nat → Rho → Mu → Prop) {ex : Expr} {px : Pos} (ok : Γ.Ok k) (hm : Γ.X.mg "range" = none)
    (ha : AD Γ [ex] ρ μ fun ds μ1 => ∃ n : Int, ds = [.int n] ∧ n < 2 ^ 62 ∧ -(2 ^ 62) ≤ n ∧ I 0 ρ μ1 ∧
      (∀ (j : Nat) ρ' μ', (j : Int) < n → I j ρ' μ' → SD Γ body (ρ'.set i (some (.int j))) μ' { E with nx := I (j + 1), ct := I (j + 1), bk := E.nx }) ∧ ∀ ρ' μ', I n.toNat ρ' μ' → E.nx ρ' μ')
    (hi : Γ.X.N[i]? = some x := by rfl) (hx : Loc Γ.X.env.scope x := by first | exact Or.inl rfl | exact Or.inr rfl) (hg : Gl Γ.X "range" := by rfl)
    (hst : starEach [ex] Γ.X.env = [(false, eval ex Γ.X.env)] := by rfl) (hf : Γ.X.fn x = true ∨ Γ.X.env.scope.names.lookup x = some .local := by first | exact .inl rfl | exact .inr rfl)
    (hs : ∀ y, foldedSetIterable (.Call (.Name "range" p) [ex] [] px) Γ.X.env y = pure y := by intro _; rfl) {pn : Pos} : S1 Γ (.For (.Name x pn) (.Call (.Name "range" p) [ex] [] px) body [] pos) ρ μ E :=
  s1_of (ps_for ok.own ok.calm (pi_range1 hg hm pa_w hst) (pg_name ok.nd hi hx hf) pss_w hs) fun σ H F z k => ha σ H _ z fun vs ds μ1 H1 ⟨n, hd, h1, h2, i0, turn, done⟩ iv r e => by
    subst hd
    obtain ⟨v, r', e1, e2, e3⟩ := iv
    subst e1
    cases e2
    cases e3
    refine ⟨n, rfl, h2, h1, for_range (lo := 0) (n := n.toNat) (fun j σ' H' => ∃ ρ' μ', I j ρ' μ' ∧ EnvD (mns H' μ') ρ' σ' ∧ Rep μ' H' ∧ Same (mns H μ) (mns H' μ')) ⟨ρ, μ1, i0, z.env.mono e, r, e⟩ (fun j σ' H' hj ⟨ρ', μ', iv, en, r', e'⟩ => ?_) fun σ' H' ⟨ρ', μ', iv, en, r', e'⟩ => k.nx _ _ _ _ (done ρ' μ' iv) en r' e'⟩
    have hv : Is (mns H' μ') (.int (j : Int)) (.int (0 + (j : Int))) := by rw [Int.zero_add]; rfl
    refine turn j ρ' μ' (by omega) iv _ H' _ ⟨en.set i hv, r', z.up.trans e'⟩ ⟨fun ρ2 μ2 σ2 H2 q en2 r2 e2 => ⟨ρ2, μ2, q, en2, r2, e'.trans e2⟩, fun v d μ2 H2 q i2 r2 e2 => k.rt v d μ2 H2 q i2 r2 (e'.trans e2), fun ρ2 μ2 σ2 H2 q en2 r2 e2 => k.nx _ _ _ _ q en2 r2 (e'.trans e2), fun ρ2 μ2 σ2 H2 q en2 r2 e2 => ⟨ρ2, μ2, q, en2, r2, e'.trans e2⟩⟩
/-- for x in a list that stands still -/
theorem s1_forL (i : Nat) (I : Nat → Rho → Mu → Prop) {it : Expr} (ok : Γ.Ok k)
    (ha : ED Γ it ρ μ fun l μ1 => ∃ ds, l = .lst ds ∧ I 0 ρ μ1 ∧
      (∀ (j : Nat) d ρ' μ', ds[j]? = some d → I j ρ' μ' → SD Γ body (ρ'.set i (some d)) μ' { E with nx := I (j + 1), ct := I (j + 1), bk := E.nx }) ∧ ∀ ρ' μ', I ds.length ρ' μ' → E.nx ρ' μ')
    (hi : Γ.X.N[i]? = some x := by rfl) (hx : Loc Γ.X.env.scope x := by first | exact Or.inl rfl | exact Or.inr rfl)
    (hf : Γ.X.fn x = true ∨ Γ.X.env.scope.names.lookup x = some .local := by first | exact .inl rfl | exact .inr rfl)
    (hs : ∀ y, foldedSetIterable it Γ.X.env y = pure y := by intro _; rfl) {pn : Pos} : S1 Γ (.For (.Name x pn) it body [] pos) ρ μ E :=
  s1_of (ps_for ok.own ok.calm (pi_list pe_w) (pg_name ok.nd hi hx hf) pss_w hs) fun σ H F z k => one ha z fun l u μ1 H1 ⟨ds, hd, i0, turn, done⟩ iv r e => by
    subst hd
    obtain ⟨a, vs, h1, h2, h3⟩ := iv
    have hsame : ∀ {H' : Hp} {μ' : Mu}, Same (mns H1 μ1) (mns H' μ') → mns H' μ' a = some (.lst vs) := fun e' => e' _ _ h2
    refine ⟨a, h1, ⟨vs, SqL.of (mns_at h2).2⟩, for_list (K := Γ.X.K) (a := a) (xs := vs) (fun j σ' H' => ∃ ρ' μ', I j ρ' μ' ∧ EnvD (mns H' μ') ρ' σ' ∧ Rep μ' H' ∧ Same (mns H1 μ1) (mns H' μ')) ⟨ρ, μ1, i0, z.env.mono e, r, Same.refl _⟩
      (fun j σ' H' _ ⟨ρ', μ', _, _, _, e'⟩ => SqL.of (mns_at (hsame e')).2) (fun j v σ' H' hj ⟨ρ', μ', iv, en, r', e'⟩ => ?_) fun σ' H' ⟨ρ', μ', iv, en, r', e'⟩ => k.nx _ _ _ _ (done ρ' μ' (h3.length ▸ iv)) en r' (e.trans e')⟩
    obtain ⟨d, hd, hv⟩ := h3.getV hj
    refine turn j d ρ' μ' hd iv _ H' _ ⟨en.set i (hv.mono e'), r', (z.up.trans e).trans e'⟩ ⟨fun ρ2 μ2 σ2 H2 q en2 r2 e2 => ⟨ρ2, μ2, q, en2, r2, e'.trans e2⟩, fun v d μ2 H2 q i2 r2 e2 => k.rt v d μ2 H2 q i2 r2 (e.trans (e'.trans e2)), fun ρ2 μ2 σ2 H2 q en2 r2 e2 => k.nx _ _ _ _ q en2 r2 (e.trans (e'.trans e2)), fun ρ2 μ2 σ2 H2 q en2 r2 e2 => ⟨ρ2, μ2, q, en2, r2, e'.trans e2⟩⟩
theorem s1_forT (i : Nat) (I : Nat → Rho → Mu → Prop) {it : Expr} (ok : Γ.Ok k)
    (ha : ED Γ it ρ μ fun l μ1 => ∃ ds, l = .tup ds ∧ I 0 ρ μ1 ∧
      (∀ (j : Nat) d ρ' μ', ds[j]? = some d → I j ρ' μ' → SD Γ body (ρ'.set i (some d)) μ' { E with nx := I (j + 1), ct := I (j + 1), bk := E.nx }) ∧ ∀ ρ' μ', I ds.length ρ' μ' → E.nx ρ' μ')
    (hi : Γ.X.N[i]? = some x := by rfl) (hx : Loc Γ.X.env.scope x := by first | exact Or.inl rfl | exact Or.inr rfl)
    (hf : Γ.X.fn x = true ∨ Γ.X.env.scope.names.lookup x = some .local := by first | exact .inl rfl | exact .inr rfl)
    (hs : ∀ y, foldedSetIterable it Γ.X.env y = pure y := by intro _; rfl) {pn : Pos} : S1 Γ (.For (.Name x pn) it body [] pos) ρ μ E :=
  s1_of (ps_for ok.own ok.calm (pi_tup pe_w) (pg_name ok.nd hi hx hf) pss_w hs) fun σ H F z k => one ha z fun l u μ1 H1 ⟨ds, hd, i0, turn, done⟩ iv r e => by
    subst hd
    obtain ⟨a, vs, h1, h2, h3⟩ := iv
    have hsame : ∀ {H' : Hp} {μ' : Mu}, Same (mns H1 μ1) (mns H' μ') → mns H' μ' a = some (.tup vs) := fun e' => e' _ _ h2
    refine ⟨a, h1, ⟨vs, SqT.of (mns_at h2).2⟩, for_tup (K := Γ.X.K) (a := a) (xs := vs) (fun j σ' H' => ∃ ρ' μ', I j ρ' μ' ∧ EnvD (mns H' μ') ρ' σ' ∧ Rep μ' H' ∧ Same (mns H1 μ1) (mns H' μ')) ⟨ρ, μ1, i0, z.env.mono e, r, Same.refl _⟩
      (fun j σ' H' _ ⟨ρ', μ', _, _, _, e'⟩ => SqT.of (mns_at (hsame e')).2) (fun j v σ' H' hj ⟨ρ', μ', iv, en, r', e'⟩ => ?_) fun σ' H' ⟨ρ', μ', iv, en, r', e'⟩ => k.nx _ _ _ _ (done ρ' μ' (h3.length ▸ iv)) en r' (e.trans e')⟩
    obtain ⟨d, hd, hv⟩ := h3.getV hj
    refine turn j d ρ' μ' hd iv _ H' _ ⟨en.set i (hv.mono e'), r', (z.up.trans e).trans e'⟩ ⟨fun ρ2 μ2 σ2 H2 q en2 r2 e2 => ⟨ρ2, μ2, q, en2, r2, e'.trans e2⟩, fun v d μ2 H2 q i2 r2 e2 => k.rt v d μ2 H2 q i2 r2 (e.trans (e'.trans e2)), fun ρ2 μ2 σ2 H2 q en2 r2 e2 => k.nx _ _ _ _ q en2 r2 (e.trans (e'.trans e2)), fun ρ2 μ2 σ2 H2 q en2 r2 e2 => ⟨ρ2, μ2, q, en2, r2, e'.trans e2⟩⟩

/-! ### built-ins -/
theorem vals1D {G : Hp} {d : D} {vs : List V} (h : IsL G [d] vs) : ∃ v, vs = [v] ∧ Is G d v := by
  obtain ⟨v, r, e, i, e2⟩ := h
  cases e2
  exact ⟨v, e, i⟩
theorem vals2D {G : Hp} {d e : D} {vs : List V} (h : IsL G [d, e] vs) : ∃ v w, vs = [v, w] ∧ Is G d v ∧ Is G e w := by
  obtain ⟨v, r, h1, i, w, r2, h2, j, e3⟩ := h
  cases e3
  subst h2
  exact ⟨v, w, h1, i, j⟩
def seqLen (μ : Mu) : D → Option Nat
  | .tup xs => some xs.length
  | d => (lstOf μ d).map List.length
theorem ed_len (hm : Γ.X.mg "len" = none) (ha : ED Γ e ρ μ fun d μ1 => ∃ n, seqLen μ1 d = some n ∧ Q (.int n) μ1) (hg : Gl Γ.X "len" := by rfl)
    (he : starEach [e] Γ.X.env = (false, eval e Γ.X.env) :: starEach [] Γ.X.env := by rfl) : ED Γ (.Call (.Name "len" p) [e] [] pos) ρ μ Q :=
  ed_of (pe_callB call_len_seq hg hm boot_len (pa_cons pe_w pa_nil he) (by decide) (by decide) he rfl) fun σ H Qv z k => one ha z fun d u μ1 H1 ⟨n, hn, q⟩ i r e => by
    cases d with
    | tup xs =>
      cases hn
      obtain ⟨a, vs, h1, h2, h3⟩ := i
      exact ⟨a, vs, by rw [h1], .inr (SqT.of (mns_at h2).2), by rw [h3.length]; exact k _ _ _ _ q rfl r e⟩
    | lst xs =>
      cases hn
      obtain ⟨a, vs, h1, h2, h3⟩ := i
      exact ⟨a, vs, by rw [h1], .inl (SqL.of (mns_at h2).2), by rw [h3.length]; exact k _ _ _ _ q rfl r e⟩
    | ptr pp =>
      have hn' : (lstOf μ1 (.ptr pp)).map List.length = some n := hn
      obtain ⟨xs, hx, hl⟩ := Option.map_eq_some_iff.mp hn'
      obtain ⟨a, vs, h1, h2, h3⟩ := lst_at r i hx
      exact ⟨a, vs, by rw [h1], .inl (SqL.of h2), by rw [h3.length, hl]; exact k _ _ _ _ q rfl r e⟩
    | _ => cases hn
theorem ed_abs (hm : Γ.X.mg "abs" = none) (ha : ED Γ e ρ μ fun d μ1 => ∃ n, d = .int n ∧ Q (.int (if n < 0 then -n else n)) μ1) (hg : Gl Γ.X "abs" := by rfl)
    (he : starEach [e] Γ.X.env = (false, eval e Γ.X.env) :: starEach [] Γ.X.env := by rfl) : ED Γ (.Call (.Name "abs" p) [e] [] pos) ρ μ Q :=
  ed_of (pe_callB call_abs hg hm (by decide +kernel) (pa_cons pe_w pa_nil he) (by decide) (by decide) he rfl) fun σ H Qv z k => one ha z fun d u μ1 H1 ⟨n, hn, q⟩ i r e => by
    subst hn
    exact ⟨n, by rw [show u = V.int n from i], k _ _ _ _ q rfl r e⟩
theorem ed_int1 (hm : Γ.X.mg "int" = none) (ha : ED Γ e ρ μ fun d μ1 => (∃ n, d = .int n ∧ Q (.int n) μ1) ∨ ∃ c, d = .bl c ∧ Q (.int (if c then 1 else 0)) μ1) (hg : Gl Γ.X "int" := by rfl)
    (he : starEach [e] Γ.X.env = (false, eval e Γ.X.env) :: starEach [] Γ.X.env := by rfl) : ED Γ (.Call (.Name "int" p) [e] [] pos) ρ μ Q :=
  ed_of (pe_callTy call_int1 hg hm (by decide +kernel) (pa_cons pe_w pa_nil he) (by decide) (by decide) he rfl) fun σ H Qv z k => one ha z fun d u μ1 H1 h i r e => by
    rcases h with ⟨n, hn, q⟩ | ⟨n, hn, q⟩
    · subst hn
      exact .inl ⟨n, by rw [show u = V.int n from i], k _ _ _ _ q rfl r e⟩
    · subst hn
      exact .inr ⟨n, by rw [show u = V.bl n from i], k _ _ _ _ q rfl r e⟩
theorem ed_max2 (calm : Γ.X.calm = true) (hm : Γ.X.mg "max" = none) (ha : ED Γ a ρ μ fun x μ1 => ED Γ b ρ μ1 fun y μ2 => ∃ i j, x = .int i ∧ y = .int j ∧ Q (.int (if j > i then j else i)) μ2) (hg : Gl Γ.X "max" := by rfl)
    (he : starEach [a, b] Γ.X.env = (false, eval a Γ.X.env) :: starEach [b] Γ.X.env := by rfl) (he2 : starEach [b] Γ.X.env = (false, eval b Γ.X.env) :: starEach [] Γ.X.env := by rfl) (hpl : (backTo pos (starEach [b] Γ.X.env)).any (·.1) = false := by rfl) : ED Γ (.Call (.Name "max" p) [a, b] [] pos) ρ μ Q :=
  ed_of (pe_callB (call_max2 calm) hg hm (by decide +kernel) (pa_cons pe_w (pa_cons pe_w pa_nil he2) he) (by decide) (by decide) he hpl) fun σ H Qv z k => two ha z fun x y u v μ1 H1 ⟨i, j, hx, hy, q⟩ ix iy r e => by
    subst hx hy
    exact ⟨i, j, by rw [show u = V.int i from ix, show v = V.int j from iy], k _ _ _ _ q rfl r e⟩
theorem ed_min2 (calm : Γ.X.calm = true) (hm : Γ.X.mg "min" = none) (ha : ED Γ a ρ μ fun x μ1 => ED Γ b ρ μ1 fun y μ2 => ∃ i j, x = .int i ∧ y = .int j ∧ Q (.int (if j < i then j else i)) μ2) (hg : Gl Γ.X "min" := by rfl)
    (he : starEach [a, b] Γ.X.env = (false, eval a Γ.X.env) :: starEach [b] Γ.X.env := by rfl) (he2 : starEach [b] Γ.X.env = (false, eval b Γ.X.env) :: starEach [] Γ.X.env := by rfl) (hpl : (backTo pos (starEach [b] Γ.X.env)).any (·.1) = false := by rfl) : ED Γ (.Call (.Name "min" p) [a, b] [] pos) ρ μ Q :=
  ed_of (pe_callB (call_min2 calm) hg hm (by decide +kernel) (pa_cons pe_w (pa_cons pe_w pa_nil he2) he) (by decide) (by decide) he hpl) fun σ H Qv z k => two ha z fun x y u v μ1 H1 ⟨i, j, hx, hy, q⟩ ix iy r e => by
    subst hx hy
    exact ⟨i, j, by rw [show u = V.int i from ix, show v = V.int j from iy], k _ _ _ _ q rfl r e⟩
/-- a list of ints -/
theorem ints_at {μ : Mu} {H : Hp} {d : D} {v : V} {ns : List Int} (r : Rep μ H) (i : Is (mns H μ) d v) (h : lstOf μ d = some (ns.map D.int)) : ∃ a, v = .ref a ∧ H a = some (.lst (ns.map V.int)) := by
  obtain ⟨a, vs, h1, h2, h3⟩ := lst_at r i h
  rw [isL_ints.mp h3] at h2
  exact ⟨a, h1, h2⟩
theorem ed_sum (calm : Γ.X.calm = true) (hm : Γ.X.mg "sum" = none) (ha : ED Γ e ρ μ fun d μ1 => ∃ ns : List Int, lstOf μ1 d = some (ns.map D.int) ∧ Q (.int ns.sum) μ1) (hg : Gl Γ.X "sum" := by rfl)
    (he : starEach [e] Γ.X.env = (false, eval e Γ.X.env) :: starEach [] Γ.X.env := by rfl) : ED Γ (.Call (.Name "sum" p) [e] [] pos) ρ μ Q :=
  ed_of (pe_callB (cr_sum calm) hg hm (by decide +kernel) (pa_cons pe_w pa_nil he) (by decide) (by decide) he rfl) fun σ H Qv z k => one ha z fun d u μ1 H1 ⟨ns, hn, q⟩ i r e => by
    obtain ⟨a, h1, h2⟩ := ints_at r i hn
    exact ⟨a, ns, by rw [h1], SqL.of h2, k _ _ _ _ q rfl r e⟩
theorem ed_max (calm : Γ.X.calm = true) (hm : Γ.X.mg "max" = none) (ha : ED Γ e ρ μ fun d μ1 => ∃ ns : List Int, lstOf μ1 d = some (ns.map D.int) ∧ 0 < ns.length ∧ ∀ m, m ∈ ns → (∀ y, y ∈ ns → y ≤ m) → Q (.int m) μ1) (hg : Gl Γ.X "max" := by rfl)
    (he : starEach [e] Γ.X.env = (false, eval e Γ.X.env) :: starEach [] Γ.X.env := by rfl) : ED Γ (.Call (.Name "max" p) [e] [] pos) ρ μ Q :=
  ed_of (pe_callB (cr_max calm) hg hm (by decide +kernel) (pa_cons pe_w pa_nil he) (by decide) (by decide) he rfl) fun σ H Qv z k => one ha z fun d u μ1 H1 ⟨ns, hn, hl, q⟩ i r e => by
    obtain ⟨a, h1, h2⟩ := ints_at r i hn
    exact ⟨a, ns, by rw [h1], SqL.of h2, hl, fun m hm hle => k _ _ _ _ (q m hm hle) rfl r e⟩
theorem ed_min (calm : Γ.X.calm = true) (hm : Γ.X.mg "min" = none) (ha : ED Γ e ρ μ fun d μ1 => ∃ ns : List Int, lstOf μ1 d = some (ns.map D.int) ∧ 0 < ns.length ∧ ∀ m, m ∈ ns → (∀ y, y ∈ ns → m ≤ y) → Q (.int m) μ1) (hg : Gl Γ.X "min" := by rfl)
    (he : starEach [e] Γ.X.env = (false, eval e Γ.X.env) :: starEach [] Γ.X.env := by rfl) : ED Γ (.Call (.Name "min" p) [e] [] pos) ρ μ Q :=
  ed_of (pe_callB (cr_min calm) hg hm (by decide +kernel) (pa_cons pe_w pa_nil he) (by decide) (by decide) he rfl) fun σ H Qv z k => one ha z fun d u μ1 H1 ⟨ns, hn, hl, q⟩ i r e => by
    obtain ⟨a, h1, h2⟩ := ints_at r i hn
    exact ⟨a, ns, by rw [h1], SqL.of h2, hl, fun m hm hle => k _ _ _ _ (q m hm hle) rfl r e⟩
theorem ed_sorted (hm : Γ.X.mg "sorted" = none) (ha : ED Γ e ρ μ fun d μ1 => ∃ ns : List Int, lstOf μ1 d = some (ns.map D.int) ∧ ns.length < 64 ∧ ∀ ns' : List Int, ns'.Perm ns → ns'.Pairwise (· ≤ ·) → Q (.lst (ns'.map D.int)) μ1) (hg : Gl Γ.X "sorted" := by rfl)
    (he : starEach [e] Γ.X.env = (false, eval e Γ.X.env) :: starEach [] Γ.X.env := by rfl) : ED Γ (.Call (.Name "sorted" p) [e] [] pos) ρ μ Q :=
  ed_of (pe_callB cr_sorted hg hm (by decide +kernel) (pa_cons pe_w pa_nil he) (by decide) (by decide) he rfl) fun σ H Qv z k => one ha z fun d u μ1 H1 ⟨ns, hn, hl, q⟩ i r e => by
    obtain ⟨a, h1, h2⟩ := ints_at r i hn
    exact ⟨a, ns, by rw [h1], SqL.of h2, hl, fun ns' n hp hs hnn => k _ _ _ _ (q ns' hp hs) ⟨n, _, rfl, mns_new r hnn, isL_ints.mpr rfl⟩ (rep_new r hnn) (e.trans (same_new hnn))⟩
theorem ed_all (calm : Γ.X.calm = true) (hm : Γ.X.mg "all" = none) (ha : ED Γ e ρ μ fun d μ1 => ∃ bs : List Bool, lstOf μ1 d = some (bs.map D.bl) ∧ Q (.bl (bs.all id)) μ1) (hg : Gl Γ.X "all" := by rfl)
    (he : starEach [e] Γ.X.env = (false, eval e Γ.X.env) :: starEach [] Γ.X.env := by rfl) : ED Γ (.Call (.Name "all" p) [e] [] pos) ρ μ Q :=
  ed_of (pe_callB (cr_all calm) hg hm (by decide +kernel) (pa_cons pe_w pa_nil he) (by decide) (by decide) he rfl) fun σ H Qv z k => one ha z fun d u μ1 H1 ⟨bs, hn, q⟩ i r e => by
    obtain ⟨a, vs, h1, h2, h3⟩ := lst_at r i hn
    rw [isL_bls.mp h3] at h2
    exact ⟨a, bs, by rw [h1], SqL.of h2, k _ _ _ _ q rfl r e⟩
/-- list(x) of a list or tuple; tuple(x) -/
def seqOf (μ : Mu) : D → Option (List D)
  | .tup xs => some xs
  | d => lstOf μ d
theorem seq_at {K : PySem.W.Frag} {μ : Mu} {H : Hp} {d : D} {v : V} {xs : List D} (r : Rep μ H) (i : Is (mns H μ) d v) (h : seqOf μ d = some xs) : ∃ a vs, v = .ref a ∧ (SqL K H a vs ∨ SqT K H a vs) ∧ IsL (mns H μ) xs vs := by
  cases d with
  | tup ys =>
    cases h
    obtain ⟨a, vs, h1, h2, h3⟩ := i
    exact ⟨a, vs, h1, .inr (SqT.of (mns_at h2).2), h3⟩
  | lst ys =>
    obtain ⟨a, vs, h1, h2, h3⟩ := lst_at r i (show lstOf μ (.lst ys) = some xs from h)
    exact ⟨a, vs, h1, .inl (SqL.of h2), h3⟩
  | ptr pp =>
    obtain ⟨a, vs, h1, h2, h3⟩ := lst_at r i (show lstOf μ (.ptr pp) = some xs from h)
    exact ⟨a, vs, h1, .inl (SqL.of h2), h3⟩
  | _ => cases h
theorem ed_list (hm : Γ.X.mg "list" = none) (ha : ED Γ e ρ μ fun d μ1 => ∃ xs, seqOf μ1 d = some xs ∧ Q (.lst xs) μ1) (hg : Gl Γ.X "list" := by rfl)
    (he : starEach [e] Γ.X.env = (false, eval e Γ.X.env) :: starEach [] Γ.X.env := by rfl) : ED Γ (.Call (.Name "list" p) [e] [] pos) ρ μ Q :=
  ed_of (pe_callTy call_list_of hg hm (by decide +kernel) (pa_cons pe_w pa_nil he) (by decide) (by decide) he rfl) fun σ H Qv z k => one ha z fun d u μ1 H1 ⟨xs, hx, q⟩ i r e => by
    obtain ⟨a, vs, h1, h2, h3⟩ := seq_at r i hx
    exact ⟨a, vs, by rw [h1], h2, fun n hn => k _ _ _ _ q ⟨n, vs, rfl, mns_new r hn, h3.mono (same_new hn)⟩ (rep_new r hn) (e.trans (same_new hn))⟩
theorem ed_listM (hm : Γ.X.mg "list" = none) (ha : ED Γ e ρ μ fun d μ1 => ∃ xs, seqOf μ1 d = some xs ∧ ∀ p, μ1 p = none → Q (.ptr p) (mset μ1 p (.lst xs))) (hg : Gl Γ.X "list" := by rfl)
    (he : starEach [e] Γ.X.env = (false, eval e Γ.X.env) :: starEach [] Γ.X.env := by rfl) : ED Γ (.Call (.Name "list" p) [e] [] pos) ρ μ Q :=
  ed_of (pe_callTy call_list_of hg hm (by decide +kernel) (pa_cons pe_w pa_nil he) (by decide) (by decide) he rfl) fun σ H Qv z k => one ha z fun d u μ1 H1 ⟨xs, hx, q⟩ i r e => by
    obtain ⟨a, vs, h1, h2, h3⟩ := seq_at r i hx
    exact ⟨a, vs, by rw [h1], h2, fun n hn => k _ _ _ _ (q n (r.fresh hn)) rfl (rep_newM r hn ⟨vs, rfl, h3⟩) (e.trans (same_newM hn))⟩
theorem ed_tuple (hm : Γ.X.mg "tuple" = none) (ha : ED Γ e ρ μ fun d μ1 => ∃ xs, lstOf μ1 d = some xs ∧ Q (.tup xs) μ1) (hg : Gl Γ.X "tuple" := by rfl)
    (he : starEach [e] Γ.X.env = (false, eval e Γ.X.env) :: starEach [] Γ.X.env := by rfl) : ED Γ (.Call (.Name "tuple" p) [e] [] pos) ρ μ Q :=
  ed_of (pe_callTy call_tuple_of hg hm (by decide +kernel) (pa_cons pe_w pa_nil he) (by decide) (by decide) he rfl) fun σ H Qv z k => one ha z fun d u μ1 H1 ⟨xs, hx, q⟩ i r e => by
    obtain ⟨a, vs, h1, h2, h3⟩ := lst_at r i hx
    exact ⟨a, vs, by rw [h1], .inl ⟨SqL.of h2, fun n hn => k _ _ _ _ q ⟨n, vs, rfl, mns_new r hn, h3.mono (same_new hn)⟩ (rep_new r hn) (e.trans (same_new hn))⟩⟩
/-- list(range(n)) -/
theorem rgV_is {G : Hp} {n : Int} : IsL G ((List.range n.toNat).map fun i : Nat => D.int (i : Int)) (rgV 0 n) := by
  have h : (List.range n.toNat).map (fun i : Nat => D.int (i : Int)) = ((List.range n.toNat).map (fun i : Nat => (i : Int))).map D.int := by rw [List.map_map]; rfl
  rw [h]
  refine isL_ints.mpr ?_
  unfold rgV
  rw [List.map_map, Int.sub_zero]
  refine List.map_congr_left fun i _ => ?_
  show V.int (0 + (i : Int)) = V.int i
  rw [Int.zero_add]
theorem ed_listRg {p2 pos2 : Pos} (calm : Γ.X.calm = true) (hm : Γ.X.mg "list" = none) (hm2 : Γ.X.mg "range" = none) (ha : ED Γ e ρ μ fun d μ1 => ∃ n : Int, d = .int n ∧ 0 ≤ n ∧ n ≤ 100000 ∧ Q (.lst ((List.range n.toNat).map fun i : Nat => D.int (i : Int))) μ1) (hg : Gl Γ.X "list" := by rfl) (hg2 : Gl Γ.X "range" := by rfl)
    (he : starEach [e] Γ.X.env = (false, eval e Γ.X.env) :: starEach [] Γ.X.env := by rfl) (he2 : starEach [.Call (.Name "range" p2) [e] [] pos2] Γ.X.env = (false, eval (.Call (.Name "range" p2) [e] [] pos2) Γ.X.env) :: starEach [] Γ.X.env := by rfl) :
    ED Γ (.Call (.Name "list" p) [.Call (.Name "range" p2) [e] [] pos2] [] pos) ρ μ Q :=
  ed_of (pe_listRg calm hg hm (prg_1 hg2 hm2 pe_w he) he2) fun σ H Qv z k => one ha z fun d u μ1 H1 ⟨n, hn, h0, h1, q⟩ i r e => by
    subst hn
    exact ⟨n, i, .of_le (by omega) (by omega) (by omega) (by omega), fun m hm => k _ _ _ _ q ⟨m, _, rfl, mns_new r hm, rgV_is⟩ (rep_new r hm) (e.trans (same_new hm))⟩
theorem ed_gcd (hm : Γ.X.mg "gcd" = some (.builtin "math.gcd")) (ha : ED Γ a ρ μ fun x μ1 => ED Γ b ρ μ1 fun y μ2 => ∃ i j, x = .int i ∧ y = .int j ∧ Q (.int ((Nat.gcd i.natAbs j.natAbs : Nat) : Int)) μ2) (hg : Gl Γ.X "gcd" := by rfl)
    (he : starEach [a, b] Γ.X.env = (false, eval a Γ.X.env) :: starEach [b] Γ.X.env := by rfl) (he2 : starEach [b] Γ.X.env = (false, eval b Γ.X.env) :: starEach [] Γ.X.env := by rfl) (hpl : (backTo pos (starEach [b] Γ.X.env)).any (·.1) = false := by rfl) : ED Γ (.Call (.Name "gcd" p) [a, b] [] pos) ρ μ Q :=
  ed_of (pe_callBfun cr_gcd hg hm (pa_cons pe_w (pa_cons pe_w pa_nil he2) he) (by decide) he hpl) fun σ H Qv z k => two ha z fun x y u v μ1 H1 ⟨i, j, hx, hy, q⟩ ix iy r e => by
    subst hx hy
    exact ⟨i, j, by rw [show u = V.int i from ix, show v = V.int j from iy], k _ _ _ _ q rfl r e⟩
theorem ed_bits {apos : Pos} (ha : ED Γ o ρ μ fun d μ1 => ∃ n, d = .int n ∧ Q (.int (Builtin.Int.intBits n : Nat)) μ1) (hb : attributeBase o "bit_length" Γ.X.env (eval o Γ.X.env) = eval o Γ.X.env := by rfl) (hl : (apos.endLine == pos.line) = true := by rfl) : ED Γ (.Call (.Attribute o "bit_length" apos) [] [] pos) ρ μ Q :=
  ed_of (pe_bits pe_w hb hl) fun σ H Qv z k => one ha z fun d u μ1 H1 ⟨n, hn, q⟩ i r e => by
    subst hn
    exact ⟨n, i, k _ _ _ _ q rfl r e⟩
/-! ### methods of lists -/
theorem ed_append {apos : Pos} (ha : ED Γ o ρ μ fun l μ1 => ∃ pp xs, l = .ptr pp ∧ μ1 pp = some (.lst xs) ∧ ED Γ e ρ μ1 fun d μ2 => μ2 pp = some (.lst xs) ∧ xs.length < 1000 ∧ Q .non (mset μ2 pp (.lst (xs ++ [d]))))
    (hbase : attributeBase o "append" Γ.X.env (eval o Γ.X.env) = eval o Γ.X.env := by rfl)
    (hfew : ((backTo pos (starEach [e] Γ.X.env)).all (fun x => !x.1) && (backToKw pos (keywordEach [] Γ.X.env)).all (fun x => x.1.isSome)
      && decide ([e].length + ([] : List Keyword).length + (if ([] : List Keyword).isEmpty then 0 else 1) < 30)) = true := by rfl)
    (hline : (apos.endLine == pos.line) = true := by rfl) (hs : starEach [e] Γ.X.env = (false, eval e Γ.X.env) :: starEach [] Γ.X.env := by rfl) : ED Γ (.Call (.Attribute o "append" apos) [e] [] pos) ρ μ Q :=
  ed_of (pe_bm PySem.F.plainAttrs_list PySem.F.slot_list_append PySem.F.type_list_append mt_append pe_w (pa_cons pe_w pa_nil hs) hbase hfew hline hs rfl) fun σ H Qv z k => one ha z fun l u μ1 H1 ⟨pp, xs, hl, hp, q⟩ i r e => by
    subst hl
    have hu : u = .ref pp := i
    subst hu
    obtain ⟨ho, h1, vs, h2, h3⟩ := r pp _ hp
    subst h2
    refine ⟨.inl ⟨rfl, vs, SqL.of h1⟩, one q (z.go r e) fun d w μ2 H2 ⟨hp2, hl2, q2⟩ i2 r2 e2 => ?_⟩
    obtain ⟨ho2, h12, vs2, h22, h32⟩ := r2 pp _ hp2
    subst h22
    exact ⟨pp, vs2, w, rfl, rfl, h12, by rw [h32.length]; exact Nat.lt_of_lt_of_le hl2 (by decide), k _ _ _ _ q2 rfl (rep_set r2 hp2 ⟨_, rfl, IsL.append h32 (.cons i2 .nil)⟩) (e.trans (e2.trans (same_set hp2)))⟩
theorem ed_reverse {apos : Pos} (ha : ED Γ o ρ μ fun l μ1 => ∃ pp xs, l = .ptr pp ∧ μ1 pp = some (.lst xs) ∧ Q .non (mset μ1 pp (.lst xs.reverse)))
    (hbase : attributeBase o "reverse" Γ.X.env (eval o Γ.X.env) = eval o Γ.X.env := by rfl) (hline : (apos.endLine == pos.line) = true := by rfl) : ED Γ (.Call (.Attribute o "reverse" apos) [] [] pos) ρ μ Q :=
  ed_of (pe_bm0 PySem.F.plainAttrs_list PySem.F.slot_list_reverse PySem.F.type_list_reverse mt_reverse pe_w hbase hline) fun σ H Qv z k => one ha z fun l u μ1 H1 ⟨pp, xs, hl, hp, q⟩ i r e => by
    subst hl
    have hu : u = .ref pp := i
    subst hu
    obtain ⟨ho, h1, vs, h2, h3⟩ := r pp _ hp
    subst h2
    exact ⟨.inl ⟨rfl, vs, SqL.of h1⟩, pp, vs, rfl, rfl, h1, k _ _ _ _ q rfl (rep_set r hp ⟨_, rfl, IsL.reverse h3⟩) (e.trans (same_set hp))⟩
/-- xs.index(n) of ints -/
theorem eqV_int {i j : Int} : eqV (.int i) (.int j) = decide (i = j) := by
  first | rfl | (simp [eqV])
theorem ed_index {apos : Pos} (ha : ED Γ o ρ μ fun l μ1 => ∃ ns : List Int, lstOf μ1 l = some (ns.map D.int) ∧ ED Γ e ρ μ1 fun d μ2 => ∃ n, d = .int n ∧ lstOf μ2 l = some (ns.map D.int) ∧ ∃ j : Nat, ns[j]? = some n ∧ (∀ m z, m < j → ns[m]? = some z → z ≠ n) ∧ Q (.int j) μ2)
    (hbase : attributeBase o "index" Γ.X.env (eval o Γ.X.env) = eval o Γ.X.env := by rfl)
    (hfew : ((backTo pos (starEach [e] Γ.X.env)).all (fun x => !x.1) && (backToKw pos (keywordEach [] Γ.X.env)).all (fun x => x.1.isSome)
      && decide ([e].length + ([] : List Keyword).length + (if ([] : List Keyword).isEmpty then 0 else 1) < 30)) = true := by rfl)
    (hline : (apos.endLine == pos.line) = true := by rfl) (hs : starEach [e] Γ.X.env = (false, eval e Γ.X.env) :: starEach [] Γ.X.env := by rfl) : ED Γ (.Call (.Attribute o "index" apos) [e] [] pos) ρ μ Q :=
  ed_of (pe_bm PySem.F.plainAttrs_list PySem.F.slot_list_index PySem.F.type_list_index mt_index pe_w (pa_cons pe_w pa_nil hs) hbase hfew hline hs rfl) fun σ H Qv z k => one ha z fun l u μ1 H1 ⟨ns, hl, q⟩ i r e => by
    obtain ⟨a, h1, h2⟩ := ints_at r i hl
    refine ⟨by rw [h1]; exact .inl ⟨rfl, _, SqL.of h2⟩, one q (z.go r e) fun d w μ2 H2 ⟨n, hn, hl2, j, hj, hno, q2⟩ i2 r2 e2 => ?_⟩
    subst hn
    obtain ⟨a', h1', h2'⟩ := ints_at r2 (i.mono e2) hl2
    have hw : w = .int n := i2
    subst hw
    refine ⟨a', ns.map V.int, .int n, j, .int n, h1', rfl, SqL.of h2', rfl, ?_, by rw [List.getElem?_map, hj]; rfl, by rw [eqV_int]; exact decide_eq_true rfl, fun m z' hm hz => ?_, k _ _ _ _ q2 rfl r2 (e.trans e2)⟩
    · rw [List.all_map]; exact List.all_eq_true.mpr fun _ _ => rfl
    · rw [List.getElem?_map] at hz
      obtain ⟨y, hy, hz⟩ := Option.map_eq_some_iff.mp hz
      subst hz
      rw [eqV_int]
      exact decide_eq_false (hno m y hm hy)
/-- n not in a list of ints -/
theorem td_notIn (ha : ED Γ a ρ μ fun x μ1 => ED Γ b ρ μ1 fun y μ2 => ∃ (n : Int) (ns : List Int), x = .int n ∧ lstOf μ2 y = some (ns.map D.int) ∧ R (!decide (n ∈ ns)) μ2) (hm : behindInMarks .NotIn b = false := by rfl) : TD Γ (.Compare a [.NotIn] [b] pos) ρ μ R :=
  td_of (pt_cmpR op_notIn_seq pe_w pe_w hm) fun σ H Qv z k => two ha z fun x y u v μ1 H1 ⟨n, ns, hx, hy, q⟩ ix iy r e => by
    subst hx
    obtain ⟨a, h1, h2⟩ := ints_at r iy hy
    have hu : u = .int n := ix
    subst hu
    refine ⟨a, ns.map V.int, h1, .inl (SqL.of h2), rfl, ?_, ?_⟩
    · rw [List.all_map]; exact List.all_eq_true.mpr fun _ _ => rfl
    · have hin : inV (.int n) (ns.map V.int) = decide (n ∈ ns) := by
        unfold inV
        rw [List.any_map, Bool.eq_iff_iff, List.any_eq_true]
        constructor
        · rintro ⟨y, hy, h⟩
          have h' : eqV (.int y) (.int n) = true := h
          rw [eqV_int] at h'
          rw [← of_decide_eq_true h']
          exact decide_eq_true hy
        · intro h
          refine ⟨n, of_decide_eq_true h, ?_⟩
          show eqV (.int n) (.int n) = true
          rw [eqV_int]
          exact decide_eq_true rfl
      refine ⟨_, rfl, ?_⟩
      rw [hin]
      exact k _ _ _ q r e
end
end DD
set_option Elab.async false
set_option linter.all false
set_option maxRecDepth 100000
set_option maxHeartbeats 4000000
/-! D3: defs, their promises over data, calls, instances, comprehensions, isinstance. -/
namespace DD
open PySem PySem.Spec PyProof.Rows L2

abbrev XD := Addr → List Str → List D → Mu → Prop
abbrev X0 : XD := fun _ _ _ _ => False
/-- a promise over data: arguments, the store, what is wanted of the answer, of an exception -/
abbrev SpD := List D → Mu → (D → Mu → Prop) → XD → Prop
def spD (S : SpD) : Sp := fun vs H Q E => ∃ ds μ Qd ξ, IsL (mns H μ) ds vs ∧ Rep μ H ∧ S ds μ Qd ξ ∧ KE (mns H μ) Qd Q ∧
  ∀ C ns es μ' H' cls d, ξ C ns es μ' → ExcAt C ns es (mns H' μ') H' cls d → Rep μ' H' → Same (mns H μ) (mns H' μ') → E cls d H'
def startD (N : List Str) (ds : List D) : Rho := ds.map some ++ List.replicate (N.length - ds.length) none
theorem env_start {G : Hp} {N : List Str} {ds : List D} {vs : List V} (h : IsL G ds vs) : EnvD G (startD N ds) (L2.start N vs) := by
  have hl := h.length
  refine ⟨by unfold startD L2.start; simp [hl], fun i d e => ?_⟩
  unfold startD at e
  unfold L2.start
  by_cases hi : i < ds.length
  · rw [List.getElem?_append_left (by simpa using hi), List.getElem?_map] at e
    obtain ⟨d', e1, e2⟩ := Option.map_eq_some_iff.mp e
    cases e2
    obtain ⟨v, h1, h2⟩ := h.get e1
    exact ⟨v, by rw [List.getElem?_append_left (by simpa [hl] using hi), List.getElem?_map, h1]; rfl, h2⟩
  · rw [List.getElem?_append_right (by simpa using hi)] at e
    rw [List.getElem?_replicate] at e
    split at e <;> cases e
abbrev gam (P : Program) (w : World) (K : PySem.W.Frag) (mg : Str → Option Value) (base : Heap) (N : List Str) (qual : Str) (scope : Scope) (f : Addr) (cd : Value) (A : Around) (outer : List Env) (s : Shared) (H : Hp) (E : XK) (G0 : Hp) (ξ : XD) : Ctx :=
  ⟨cxOf (L2.CX P w) P w K mg base N qual scope f cd A outer s H E, G0, ξ, E⟩
section
variable {P : Program} {w : World} {K : PySem.W.Frag} {mg : Str → Option Value} {base : Heap}
/-- THE RULE for a def -/
theorem fn_d {x qual : Str} {params : Arguments} {body : List Stmt} {scope : Scope} {dvs : List V} {kws : List (Str × V)} {f : Addr} {fd : FuncData} {N ps : List Str} {k : Nat} {S : SpD} (F : FunD K x qual params body scope dvs kws f fd) (Sc : FnScope N ps scope)
    (len : ∀ ds μ Q ξ, S ds μ Q ξ → ds.length = ps.length)
    (hbody : ∀ cdv A outer s H E G0 ξ, (gam P w K mg base N qual scope f cdv A outer s H E G0 ξ).Ok k → ∀ ds μ Q, S ds μ Q ξ → SD (gam P w K mg base N qual scope f cdv A outer s H E G0 ξ) body (startD N ds) μ { nx := fun _ μ' => Q .non μ', rt := Q }) :
    FnOk P w K mg base (L2.CX P w) (k + 1) f fd ps (spD S) := by
  refine F.ok Sc (fun vs H Q E ⟨ds, μ, Qd, ξ, h1, _, h2, _⟩ => by rw [h1.length]; exact len _ _ _ _ h2) fun cdv A outer s H vs Q E hr ⟨ds, μ, Qd, ξ, h1, h2, h3, h4, h5⟩ => ?_
  refine ⟨_, pss_w, ?_⟩
  have ok : (gam P w K mg base N qual scope f cdv A outer s H E (mns H μ) ξ).Ok k :=
    ⟨rfl, hr, passes_call (takes_of rfl rfl rfl rfl) (fun _ _ _ _ h => h), passes_of rfl, h5, Sc.nd⟩
  refine hbody cdv A outer s H E (mns H μ) ξ ok ds μ Qd h3 (L2.start N vs) H _ ⟨env_start h1, h2, Same.refl _⟩ ⟨fun ρ' μ' σ' H' q en r e => ?_, fun v d μ' H' q i r e => ?_, fun _ _ _ _ q => q.elim, fun _ _ _ _ q => q.elim⟩
  · exact h4 .non .non μ' H' q rfl r e
  · exact h4 v d μ' H' q i r e
/-- what stands at a name, at a class's name -/
structure Fd (P : Program) (w : World) (K : PySem.W.Frag) (mg : Str → Option Value) (base : Heap) (k : Nat) (x : Str) (S : SpD) : Prop where
  ex : ∃ f fd ps, mg x = some (.ref f) ∧ PySem.W.keepIn K (.ref f) = true ∧ Binds K fd ps [] ∧ FnOk P w K mg base (L2.CX P w) k f fd ps (spD S)
structure Md (P : Program) (w : World) (K : PySem.W.Frag) (mg : Str → Option Value) (base : Heap) (k : Nat) (C : Addr) (m : Str) (S : SpD) : Prop where
  ex : ∃ f fd ps, Meth K C m f ∧ Cls K C ∧ Binds K fd ps [] ∧ FnOk P w K mg base (L2.CX P w) k f fd ps (spD S)
structure Pd (P : Program) (w : World) (K : PySem.W.Frag) (mg : Str → Option Value) (base : Heap) (k : Nat) (C : Addr) (m : Str) (S : SpD) : Prop where
  ex : ∃ p g fd ps, PropOf K C m p g ∧ Cls K C ∧ Binds K fd ps [] ∧ FnOk P w K mg base (L2.CX P w) k g fd ps (spD S)
structure Nd (P : Program) (w : World) (K : PySem.W.Frag) (mg : Str → Option Value) (base : Heap) (k : Nat) (x : Str) (C : Addr) (dvs : List V) (S : SpD) : Prop where
  ex : ∃ f fd ps ds, mg x = some (.ref C) ∧ Mk K C f ∧ Binds K fd ps ds ∧ Vals dvs ds ∧ FnOk P w K mg base (L2.CX P w) k f fd ps (spD S)
end
section
variable {Γ : Ctx} {e a b c o value : Expr} {es : List Expr} {st : Stmt} {sts u1 u2 body : List Stmt} {ρ : Rho} {μ : Mu} {Q : D → Mu → Prop} {R : Bool → Mu → Prop} {E : DE} {pos apos : Pos} {k j : Nat} {x f m : Str} {p : Pos} {S : SpD} {C : Addr}
/-- a promise, at a call -/
theorem spD_at (ok : Γ.Ok j) {ds : List D} {vs : List V} {H : Hp} {Qv : VK} {G : Hp} (hS : S ds μ Q Γ.ξ) (i : IsL (mns H μ) ds vs) (r : Rep μ H) (u : Same Γ.G0 (mns H μ)) (kk : KE (mns H μ) Q Qv) : spD S vs H Qv Γ.ek :=
  ⟨ds, μ, Q, Γ.ξ, i, r, hS, kk, fun C ns es μ2 H2 cls d hξ hx r2 e2 => ok.exc C ns es μ2 H2 cls d hξ hx r2 (u.trans e2)⟩
theorem ed_call (F : Fd Γ.X.prog Γ.X.w Γ.X.K Γ.X.mg Γ.X.base k x S) (ok : Γ.Ok j) (ha : AD Γ (e :: es) ρ μ fun ds μ1 => S ds μ1 Q Γ.ξ) (hk : k ≤ j := by decide) (hg : Gl Γ.X x := by rfl) (hdb : (x == ("__debug__" : Str)) = false := by decide)
    (he : starEach (e :: es) Γ.X.env = (false, eval e Γ.X.env) :: starEach es Γ.X.env := by rfl) (hpl : (backTo pos (starEach es Γ.X.env)).any (·.1) = false := by rfl) : ED Γ (.Call (.Name x p) (e :: es) [] pos) ρ μ Q := by
  obtain ⟨f, fd, ps, h1, h2, h3, h4⟩ := F.ex
  refine ed_of (pe_call h4 (ok.room.mono hk) hg h1 h2 h3 .nil ok.pass pa_w hdb he hpl) fun σ H Qv z kk => ha σ H _ z fun vs ds μ' H' q i r e => ?_
  rw [List.append_nil]
  exact spD_at (G := mns H' μ') ok q i r (z.up.trans e) (kk.up e)
theorem ed_call0 (F : Fd Γ.X.prog Γ.X.w Γ.X.K Γ.X.mg Γ.X.base k x S) (ok : Γ.Ok j) (hS : S [] μ Q Γ.ξ) (hk : k ≤ j := by decide) (hg : Gl Γ.X x := by rfl) (hdb : (x == ("__debug__" : Str)) = false := by decide) : ED Γ (.Call (.Name x p) [] [] pos) ρ μ Q := by
  obtain ⟨f, fd, ps, h1, h2, h3, h4⟩ := F.ex
  refine ed_of (pe_call0 h4 (ok.room.mono hk) hg h1 h2 h3 .nil ok.pass hdb) fun σ H Qv z kk => ?_
  exact spD_at (G := mns H μ) (vs := []) ok hS rfl z.rep z.up kk
/-- o.m(..) -/
theorem ed_meth {pl : Sem Bool} (F : Md Γ.X.prog Γ.X.w Γ.X.K Γ.X.mg Γ.X.base k C m S) (ok : Γ.Ok j) (ha : ED Γ o ρ μ fun d μ1 => ∃ ns fs, insOf μ1 d = some (C, ns, fs) ∧ m ∉ ns ∧ AD Γ (e :: es) ρ μ1 fun ds μ2 => S (d :: ds) μ2 Q Γ.ξ) (hk : k ≤ j := by decide)
    (hst : starEach (e :: es) Γ.X.env = (false, eval e Γ.X.env) :: starEach es Γ.X.env := by rfl) (hpl : (backTo pos (starEach es Γ.X.env)).any (·.1) = false := by rfl)
    (ht : eval (.Call (.Attribute o m apos) (e :: es) [] pos) Γ.X.env = (do
      let ov ← eval o Γ.X.env
      standAt apos.atName
      let (f, first) ← holding [ov] (getMethod ov m pl)
      callWith pos f first (backTo pos (starEach (e :: es) Γ.X.env)) (backToKw pos (keywordEach [] Γ.X.env))) := by rfl) : ED Γ (.Call (.Attribute o m apos) (e :: es) [] pos) ρ μ Q := by
  obtain ⟨f, fd, ps, h1, h2, h3, h4⟩ := F.ex
  refine ed_of (pe_meth pe_w h2 h1 h4 (ok.room.mono hk) h3 .nil ok.pass pa_w hst hpl ht) fun σ H Qv z kk => one ha z fun d u μ1 H1 ⟨ns, fs, hi, hm, q⟩ i r e => ?_
  obtain ⟨a, dx, vs, e1, e2, _, _⟩ := ins_at r i hi
  refine ⟨a, dx, _, e1, e2, fld_none hm, q σ H1 _ (z.go r e) fun vs2 ds μ2 H2 q2 i2 r2 e3 => ?_⟩
  rw [List.append_nil]
  exact spD_at (G := mns H2 μ2) ok q2 (.cons (i.mono e3) i2) r2 (z.up.trans (e.trans e3)) (kk.up (e.trans e3))
theorem ed_meth0 {pl : Sem Bool} (F : Md Γ.X.prog Γ.X.w Γ.X.K Γ.X.mg Γ.X.base k C m S) (ok : Γ.Ok j) (ha : ED Γ o ρ μ fun d μ1 => ∃ ns fs, insOf μ1 d = some (C, ns, fs) ∧ m ∉ ns ∧ S [d] μ1 Q Γ.ξ) (hk : k ≤ j := by decide)
    (ht : eval (.Call (.Attribute o m apos) [] [] pos) Γ.X.env = (do
      let ov ← eval o Γ.X.env
      standAt apos.atName
      let (f, first) ← holding [ov] (getMethod ov m pl)
      callWith pos f first (backTo pos (starEach [] Γ.X.env)) (backToKw pos (keywordEach [] Γ.X.env))) := by rfl) : ED Γ (.Call (.Attribute o m apos) [] [] pos) ρ μ Q := by
  obtain ⟨f, fd, ps, h1, h2, h3, h4⟩ := F.ex
  refine ed_of (pe_meth0 pe_w h2 h1 h4 (ok.room.mono hk) h3 .nil ok.pass ht) fun σ H Qv z kk => one ha z fun d u μ1 H1 ⟨ns, fs, hi, hm, q⟩ i r e => ?_
  obtain ⟨a, dx, vs, e1, e2, _, _⟩ := ins_at r i hi
  exact ⟨a, dx, _, e1, e2, fld_none hm, spD_at (G := mns H1 μ1) ok q (.cons i .nil) r (z.up.trans e) (kk.up e)⟩
/-- o.f, a property -/
theorem ed_prop (F : Pd Γ.X.prog Γ.X.w Γ.X.K Γ.X.mg Γ.X.base k C f S) (ok : Γ.Ok j) (ha : ED Γ o ρ μ fun d μ1 => ∃ ns fs, insOf μ1 d = some (C, ns, fs) ∧ S [d] μ1 Q Γ.ξ) (hk : k + 1 ≤ j := by decide)
    (hx : Passes (L2.CX Γ.X.prog Γ.X.w) Γ.X.nox Γ.ek) (hb : attributeBase o f Γ.X.env (eval o Γ.X.env) = eval o Γ.X.env := by rfl) : ED Γ (.Attribute o f pos) ρ μ Q := by
  obtain ⟨p, g, fd, ps, h1, h2, h3, h4⟩ := F.ex
  refine ed_of (pe_prop pe_w h2 h1 h4 (ok.room.mono hk) h3 .nil hx hb) fun σ H Qv z kk => one ha z fun d u μ1 H1 ⟨ns, fs, hi, q⟩ i r e => ?_
  obtain ⟨a, dx, vs, e1, e2, _, _⟩ := ins_at r i hi
  refine ⟨a, dx, _, e1, e2, ?_⟩
  rw [← e1]
  exact spD_at (G := mns H1 μ1) ok q (.cons i .nil) r (z.up.trans e) (kk.up e)
/-- C(..) -/
theorem ed_make {dvs : List V} {dds : List D} (F : Nd Γ.X.prog Γ.X.w Γ.X.K Γ.X.mg Γ.X.base k x C dvs S) (ok : Γ.Ok j) (hdv : ∀ G, IsL G dds dvs) (ha : AD Γ (e :: es) ρ μ fun ds μ1 => ∀ q dx, μ1 q = none →
      S (.ptr q :: (ds ++ dds)) (mset μ1 q (.ins C dx [] [])) (fun v μ' => v = .non ∧ Q (.ptr q) μ') fun C' ns es' μ' => Γ.ξ C' ns es' (mdel μ' q))
    (hk : k + 1 ≤ j := by decide) (hg : Gl Γ.X x := by rfl) (hdb : (x == ("__debug__" : Str)) = false := by decide)
    (he : starEach (e :: es) Γ.X.env = (false, eval e Γ.X.env) :: starEach es Γ.X.env := by rfl) (hpl : (backTo pos (starEach es Γ.X.env)).any (·.1) = false := by rfl) : ED Γ (.Call (.Name x p) (e :: es) [] pos) ρ μ Q := by
  obtain ⟨f, fd, ps, ds, h1, h2, h3, h5, h4⟩ := F.ex
  refine ed_of (pe_make h2 h4 (ok.room.mono hk) hg h1 h3 h5 ok.pass pa_w hdb he hpl) fun σ H Qv z kk => ha σ H _ z fun vs ds μ1 H1 q i r e => fun y dx hy hdx hne => ?_
  have u1 : upd H1 dx (.own y) y = none := by rw [upd_ne (Ne.symm hne)]; exact hy
  have s1 : Same (mns H1 μ1) (mns (upd H1 dx (.own y)) μ1) := same_new hdx
  have r1 := rep_new (o := .own y) r hdx
  have hm : IsM (mns (upd H1 dx (.own y)) μ1) (.ins C dx [] []) (.ins C dx []) := ⟨[], rfl, rfl, rfl⟩
  have r2 := rep_newM r1 u1 hm
  have s2 : Same (mns H1 μ1) (mns (upd (upd H1 dx (.own y)) y (.ins C dx [])) (mset μ1 y (.ins C dx [] []))) := s1.trans (same_newM u1)
  refine ⟨_, _, _, _, IsL.cons (show Is _ (.ptr y) (.ref y) from rfl) (IsL.append (i.mono s2) (hdv _)), r2, q y dx (r.fresh hy), ?_, ?_⟩
  · intro v d μ' H' ⟨hv, qq⟩ iv r' e'
    subst hv
    exact ⟨iv, kk _ _ _ _ qq rfl r' (e.trans (s2.trans e'))⟩
  · intro C' ns es' μ2 H2 cls d hξ hx r3 e3
    exact ok.exc C' ns es' (mdel μ2 y) H2 cls d hξ (by
      obtain ⟨x1, x2, x3⟩ := hx
      refine ⟨x1, x2, ?_⟩
      cases ns with
      | nil => exact x3
      | cons n ns =>
        obtain ⟨dd, vs, y1, y2, y3⟩ := x3
        exact ⟨dd, vs, y1, y2, y3.mono same_del⟩) (rep_del r3) ((z.up.trans e).trans ((s2.trans e3).trans same_del))

/-! ### comprehensions -/
abbrev Ctx.blk (Γ : Ctx) (s : Shared) (H : Hp) (scope : Scope) (C : Addr) (cl : List (Str × Addr)) (fp : List Addr) : Ctx := ⟨Γ.X.blk s H scope (compEnvC scope cl C Γ.X.env) fp, Γ.G0, X0, E0⟩
theorem Ctx.Ok.blk (ok : Γ.Ok k) {s : Shared} {H : Hp} {scope : Scope} {C : Addr} {cl : List (Str × Addr)} {fp : List Addr} : (Γ.blk s H scope C cl fp).Ok k := ⟨ok.calm, ok.room, passL, PassesOwn.never, fun _ _ _ _ _ _ _ h => h.elim, ok.nd⟩
theorem wipe1 (σ : L2.St) (i : Nat) (v : Option V) : wipe ((wipe σ [i]).set i v) [i] = wipe σ [i] := by
  show ((σ.set i none).set i v).set i none = σ.set i none
  rw [List.set_set, List.set_set]
/-- what a store may have become where only what is not known has changed -/
def MuUp (μ μ' : Mu) : Prop := ∀ a m, μ a = some m → μ' a = some m
theorem MuUp.refl (μ : Mu) : MuUp μ μ := fun _ _ h => h
theorem MuUp.new {μ : Mu} {q : Addr} {m : MO} (h : μ q = none) : MuUp μ (mset μ q m) := fun a m' e => by
  have ne : a ≠ q := fun z => by rw [z, h] at e; cases e
  rw [mset_ne ne]; exact e
def TDs (Γ : Ctx) (ifs : List Expr) (ρ : Rho) (μ : Mu) (b : Bool) : Prop := match ifs with
  | [] => b = true
  | [t] => TD Γ t ρ μ fun c μ' => μ' = μ ∧ c = b
  | _ => False
/-- the turns of a comprehension, for a source whose items are xs.map inj -/
def LcTurn (Γ : Ctx) (i : Nat) (ifs : List Expr) (elt : Expr) (scope : Scope) (ρ : Rho) (μ : Mu) (d : D) (b : Bool) (g : D) : Prop :=
  ∀ s H C cl fp μ', MuUp μ μ' → TDs (Γ.blk s H scope C cl fp) ifs (ρ.set i (some d)) μ' b ∧ (b = true → ED (Γ.blk s H scope C cl fp) elt (ρ.set i (some d)) μ' fun y μ2 => μ2 = μ' ∧ y = g)
theorem take_filter_map {α β : Type} (p : α → Bool) (g : α → β) (xs : List α) {i : Nat} {x : α} (h : xs[i]? = some x) : ((xs.take (i + 1)).filter p).map g = ((xs.take i).filter p).map g ++ (if p x = true then [g x] else []) := by
  obtain ⟨hi, e⟩ := List.getElem?_eq_some_iff.mp h
  rw [List.take_succ, h, List.filter_append, List.map_append]
  congr 1
  show (List.filter p [x]).map g = _
  by_cases q : p x = true
  · rw [List.filter_cons_of_pos q, if_pos q]; rfl
  · rw [List.filter_cons_of_neg q, if_neg q]; rfl
def tIfs (X : Cx) (ifs : List Expr) : TT := match ifs with
  | [] => tYes
  | [t] => wT X t
  | _ => fun _ _ _ => False
/-- the test of a turn, as a value -/
theorem lc_turn {i : Nat} {ifs : List Expr} {elt : Expr} {scope : Scope} {d g : D} {b : Bool} (t : LcTurn Γ i ifs elt scope ρ μ d b g) (s : Shared) (H : Hp) (C : Addr) (cl : List (Str × Addr)) (fp : List Addr) {μ' : Mu} (hu : MuUp μ μ') {σ : L2.St} {H' : Hp} {Qb : Bool → Hp → Prop}
    (z : At (Γ.blk s H scope C cl fp) (ρ.set i (some d)) μ' σ H') (q : ∀ H2, Rep μ' H2 → Same (mns H' μ') (mns H2 μ') → Qb b H2) : tIfs (Γ.blk s H scope C cl fp).X ifs σ H' Qb := by
  have t1 := (t s H C cl fp μ' hu).1
  cases ifs with
  | nil =>
    have hb : b = true := t1
    subst hb
    exact q H' z.rep (Same.refl _)
  | cons t0 r =>
    cases r with
    | nil =>
      have t2 : TD (Γ.blk s H scope C cl fp) t0 (ρ.set i (some d)) μ' fun c μ2 => μ2 = μ' ∧ c = b := t1
      refine t2 σ H' _ z fun c μ2 H2 ⟨e1, e2⟩ r2 s2 => ?_
      subst e1 e2
      exact q H2 r2 s2
    | cons _ _ => exact t1.elim
theorem pts_w {X : Cx} : ∀ {ifs : List Expr}, PTs X ifs (tIfs X ifs)
  | [] => pts_nil
  | [_] => pts_one pt_w
  | _ :: _ :: _ => ⟨fun _ _ _ _ _ _ h => h.elim⟩
def uE (X : Cx) (scope : Scope) (elt : Expr) : TE := fun σ H Q => ∀ s H0 C cl fp, wE (X.blk s H0 scope (compEnvC scope cl C X.env) fp) elt σ H Q
def uT (X : Cx) (scope : Scope) (ifs : List Expr) : TT := fun σ H Q => ∀ s H0 C cl fp, tIfs (X.blk s H0 scope (compEnvC scope cl C X.env) fp) ifs σ H Q
theorem pe_u {X : Cx} {scope : Scope} {elt : Expr} (s : Shared) (H : Hp) (C : Addr) (cl : List (Str × Addr)) (fp : List Addr) : PE (X.blk s H scope (compEnvC scope cl C X.env) fp) elt (uE X scope elt) := ⟨fun pins s1 σ H1 Q I h => pe_w.run pins s1 σ H1 Q I (h s H C cl fp)⟩
theorem pts_u {X : Cx} {scope : Scope} {ifs : List Expr} (s : Shared) (H : Hp) (C : Addr) (cl : List (Str × Addr)) (fp : List Addr) : PTs (X.blk s H scope (compEnvC scope cl C X.env) fp) ifs (uT X scope ifs) := ⟨fun pins s1 σ H1 Q I h => pts_w.run pins s1 σ H1 Q I (h s H C cl fp)⟩
/-- the invariant of a comprehension that makes the list at n: acc made so far -/
structure LcInv (μ : Mu) (G : Hp) (n : Addr) (acc : List D) (H : Hp) : Prop where
  rep : Rep (mset μ n (.lst acc)) H
  up : Same G (mns H (mset μ n (.lst acc)))
theorem lc_step {i : Nat} {ifs : List Expr} {elt : Expr} {scope : Scope} {d g : D} {bb : Bool} (t : LcTurn Γ i ifs elt scope ρ μ d bb g) {σ : L2.St} {H0 H' : Hp} {n : Addr} {acc : List D} {v : V} {Nx : Hp → Prop} (z : At Γ ρ μ σ H0) (hn : μ n = none)
    (L : LcInv μ (mns H0 μ) n acc H') (hl : acc.length < 1000) (hv : Is (mns H0 μ) d v) (hx : ∀ H2, LcInv μ (mns H0 μ) n (acc ++ if bb = true then [g] else []) H2 → Nx H2) :
    uT Γ.X scope ifs ((wipe σ [i]).set i (some v)) H' fun b3 H3 => if b3 = true then uE Γ.X scope elt ((wipe σ [i]).set i (some v)) H3 fun y H4 => ∃ accV, H4 n = some (.lst accV) ∧ accV.length < sizeLine ∧ Nx (upd H4 n (.lst (accV ++ [y]))) else Nx H3 := by
  have hu : MuUp μ (mset μ n (.lst acc)) := .new hn
  have hσ : (wipe σ [i]).set i (some v) = σ.set i (some v) := by
    show (σ.set i none).set i (some v) = σ.set i (some v)
    rw [List.set_set]
  rw [hσ]
  have z1 : ∀ {s H C cl fp} {H2 : Hp}, LcInv μ (mns H0 μ) n acc H2 → At (Γ.blk s H scope C cl fp) (ρ.set i (some d)) (mset μ n (.lst acc)) (σ.set i (some v)) H2 := fun L2 => ⟨(z.env.mono L2.up).set i (hv.mono L2.up), L2.rep, z.up.trans L2.up⟩
  intro s Hs C cl fp
  refine lc_turn t s Hs C cl fp hu (z1 L) fun H2 r2 e2 => ?_
  have L2 : LcInv μ (mns H0 μ) n acc H2 := ⟨r2, L.up.trans e2⟩
  cases bb with
  | true =>
    intro s Hs C cl fp
    refine (t s Hs C cl fp _ hu).2 rfl _ _ _ (z1 L2) fun w y μ3 H3 ⟨e1, ey⟩ i3 r3 e3 => ?_
    subst e1 ey
    obtain ⟨o, h1, vs, h2, h3⟩ := r3 n _ mset_same
    subst h2
    refine ⟨vs, h1, by rw [h3.length]; exact Nat.lt_of_lt_of_le hl (by decide), hx _ ⟨?_, ?_⟩⟩
    · have q := rep_set (o := .lst (vs ++ [w])) (m' := .lst (acc ++ [y])) r3 mset_same ⟨_, rfl, IsL.append h3 (.cons i3 .nil)⟩
      rw [mset_mset] at q
      exact q
    · have q : Same (mns H3 (mset μ n (.lst acc))) (mns (upd H3 n (.lst (vs ++ [w]))) (mset (mset μ n (.lst acc)) n (.lst (acc ++ [y])))) := same_set mset_same
      rw [mset_mset] at q
      exact (L2.up.trans e3).trans q
  | false =>
    refine hx _ ?_
    show LcInv _ _ _ (acc ++ []) _
    rw [List.append_nil]
    exact L2
/-- what is left at the end: the list, frozen -/
theorem lc_end {σ : L2.St} {H0 H1 : Hp} {n : Addr} {acc : List D} {Qv : VK} (hn : μ n = none) (L : LcInv μ (mns H0 μ) n acc H1) (kk : KE (mns H0 μ) Q Qv) (q : Q (.lst acc) μ) : Qv (.ref n) H1 := by
  obtain ⟨o, h1, vs, h2, h3⟩ := L.rep n _ mset_same
  subst h2
  have e : mdel (mset μ n (.lst acc)) n = μ := mdel_mset hn
  have s : Same (mns H1 (mset μ n (.lst acc))) (mns H1 μ) := by
    have q : Same (mns H1 (mset μ n (.lst acc))) (mns H1 (mdel (mset μ n (.lst acc)) n)) := same_del
    rw [e] at q; exact q
  have r : Rep μ H1 := by
    have q := rep_del (p := n) L.rep
    rw [e] at q; exact q
  exact kk _ _ _ _ q ⟨n, vs, rfl, (mns_none hn).trans h1, h3.mono s⟩ r (L.up.trans s)
theorem take_len {α β : Type} (p : α → Bool) (g : α → β) (xs : List α) (i : Nat) : (((xs.take i).filter p).map g).length ≤ xs.length := by
  rw [List.length_map]
  exact Nat.le_trans (List.length_filter_le _ _) (by rw [List.length_take]; omega)
/-- [elt for x in l if ..], l a list -/
theorem ed_lc {α : Type} (i : Nat) {ifs : List Expr} {elt it : Expr} {scope : Scope} {pn : Pos} (inj : α → D) (pp : α → Bool) (g : α → D) (ok : Γ.Ok k)
    (ha : ED Γ it ρ μ fun l μ1 => ∃ xs : List α, lstOf μ1 l = some (xs.map inj) ∧ xs.length ≤ 900 ∧ (∀ x ∈ xs, LcTurn Γ i ifs elt scope ρ μ1 (inj x) (pp x) (g x)) ∧ (∀ q, l = .ptr q → False) ∧ Q (.lst ((xs.filter pp).map g)) μ1)
    (bo : blkC Γ.X.N Γ.X.env.scope scope [(x, i)] = true) (hgn : ∀ s H C cl fp, PG (Γ.X.blk s H scope (compEnvC scope cl C Γ.X.env) fp) (.Name x pn) (gName i))
    (hs : ∀ y, foldedSetIterable it Γ.X.env y = pure y := by intro _; rfl) : ED Γ (.ListComp elt [⟨.Name x pn, it, ifs, 0⟩] scope pos) ρ μ Q := by
  refine ed_of (pe_lc (own := [(x, i)]) (g := gName i) ok.calm ok.nd (pi_list pe_w) (blkOk_by bo) hgn pts_u pe_u hs) fun σ H Qv z kk => one ha z fun l u μ1 H1 ⟨xs, hl, hlen, turn, np, q⟩ iv r e => ?_
  obtain ⟨a, vs, h1, h2, h3⟩ := lst_at r iv hl
  have z1 : At Γ ρ μ1 σ H1 := z.go r e
  have ha1 : μ1 a = none := by
    cases l with
    | lst ys =>
      obtain ⟨a', vs', e1, e2, _⟩ := iv
      rw [e1] at h1
      cases h1
      exact (mns_at e2).1
    | ptr q0 => exact (np q0 rfl).elim
    | _ => cases hl
  refine ⟨a, h1, ⟨vs, SqL.of h2⟩, fun n hn => ?_⟩
  have hn1 := r.fresh hn
  have stay : ∀ {acc : List D} {H' : Hp}, LcInv μ1 (mns H1 μ1) n acc H' → H' a = some (.lst vs) := fun L => (mns_at (L.up _ _ ((mns_none ha1).trans h2))).2
  refine lc_list (K := Γ.X.K) (a := a) (xs := vs) (fun j H' => LcInv μ1 (mns H1 μ1) n (((xs.take j).filter pp).map g) H') ⟨rep_newM r hn ⟨[], rfl, rfl⟩, same_newM hn⟩ (fun j H' _ L => SqL.of (stay L)) (fun j v H' hj L => ?_) fun H' L => ?_
  · obtain ⟨d, hd, hv⟩ := h3.getV hj
    rw [List.getElem?_map] at hd
    obtain ⟨x0, hx0, hd0⟩ := Option.map_eq_some_iff.mp hd
    subst hd0
    refine ⟨wipe1 _ _ _, lc_step (turn x0 (List.mem_of_getElem? hx0)) z1 hn1 L (Nat.lt_of_le_of_lt (take_len pp g xs j) (by omega)) hv fun H2 L2 => ?_⟩
    rw [take_filter_map pp g xs hx0]
    exact L2
  · rw [h3.length, List.length_map, List.take_length] at L
    exact lc_end (Q := Q) (σ := σ) hn1 L (kk.up e) q
theorem ed_lcT {α : Type} (i : Nat) {ifs : List Expr} {elt it : Expr} {scope : Scope} {pn : Pos} (inj : α → D) (pp : α → Bool) (g : α → D) (ok : Γ.Ok k)
    (ha : ED Γ it ρ μ fun l μ1 => ∃ xs : List α, l = .tup (xs.map inj) ∧ xs.length ≤ 900 ∧ (∀ x ∈ xs, LcTurn Γ i ifs elt scope ρ μ1 (inj x) (pp x) (g x)) ∧ Q (.lst ((xs.filter pp).map g)) μ1)
    (bo : blkC Γ.X.N Γ.X.env.scope scope [(x, i)] = true) (hgn : ∀ s H C cl fp, PG (Γ.X.blk s H scope (compEnvC scope cl C Γ.X.env) fp) (.Name x pn) (gName i))
    (hs : ∀ y, foldedSetIterable it Γ.X.env y = pure y := by intro _; rfl) : ED Γ (.ListComp elt [⟨.Name x pn, it, ifs, 0⟩] scope pos) ρ μ Q := by
  refine ed_of (pe_lc (own := [(x, i)]) (g := gName i) ok.calm ok.nd (pi_tup pe_w) (blkOk_by bo) hgn pts_u pe_u hs) fun σ H Qv z kk => one ha z fun l u μ1 H1 ⟨xs, hl, hlen, turn, q⟩ iv r e => ?_
  subst hl
  obtain ⟨a, vs, h1, h2, h3⟩ := iv
  have z1 : At Γ ρ μ1 σ H1 := z.go r e
  refine ⟨a, h1, ⟨vs, SqT.of (mns_at h2).2⟩, fun n hn => ?_⟩
  have hn1 := r.fresh hn
  have stay : ∀ {acc : List D} {H' : Hp}, LcInv μ1 (mns H1 μ1) n acc H' → H' a = some (.tup vs) := fun L => (mns_at (L.up _ _ h2)).2
  refine lc_tup (K := Γ.X.K) (a := a) (xs := vs) (fun j H' => LcInv μ1 (mns H1 μ1) n (((xs.take j).filter pp).map g) H') ⟨rep_newM r hn ⟨[], rfl, rfl⟩, same_newM hn⟩ (fun j H' _ L => SqT.of (stay L)) (fun j v H' hj L => ?_) fun H' L => ?_
  · obtain ⟨d, hd, hv⟩ := h3.getV hj
    rw [List.getElem?_map] at hd
    obtain ⟨x0, hx0, hd0⟩ := Option.map_eq_some_iff.mp hd
    subst hd0
    refine ⟨wipe1 _ _ _, lc_step (turn x0 (List.mem_of_getElem? hx0)) z1 hn1 L (Nat.lt_of_le_of_lt (take_len pp g xs j) (by omega)) hv fun H2 L2 => ?_⟩
    rw [take_filter_map pp g xs hx0]
    exact L2
  · rw [h3.length, List.length_map, List.take_length] at L
    exact lc_end (Q := Q) (σ := σ) hn1 L (kk.up e) q
/-- over range(n) -/
theorem ed_lcR (i : Nat) {ifs : List Expr} {elt ex : Expr} {scope : Scope} {pn p2 pos2 : Pos} (pp : Nat → Bool) (g : Nat → D) (ok : Γ.Ok k) (hm : Γ.X.mg "range" = none)
    (ha : AD Γ [ex] ρ μ fun ds μ1 => ∃ n : Nat, ds = [.int n] ∧ n ≤ 900 ∧ (∀ x < n, LcTurn Γ i ifs elt scope ρ μ1 (.int (x : Nat)) (pp x) (g x)) ∧ Q (.lst (((List.range n).filter pp).map g)) μ1)
    (bo : blkC Γ.X.N Γ.X.env.scope scope [(x, i)] = true) (hgn : ∀ s H C cl fp, PG (Γ.X.blk s H scope (compEnvC scope cl C Γ.X.env) fp) (.Name x pn) (gName i)) (hg : Gl Γ.X "range" := by rfl)
    (hst : starEach [ex] Γ.X.env = [(false, eval ex Γ.X.env)] := by rfl)
    (hs : ∀ y, foldedSetIterable (.Call (.Name "range" p2) [ex] [] pos2) Γ.X.env y = pure y := by intro _; rfl) : ED Γ (.ListComp elt [⟨.Name x pn, .Call (.Name "range" p2) [ex] [] pos2, ifs, 0⟩] scope pos) ρ μ Q := by
  refine ed_of (pe_lc (own := [(x, i)]) (g := gName i) ok.calm ok.nd (pi_range1 hg hm pa_w hst) (blkOk_by bo) hgn pts_u pe_u hs) fun σ H Qv z kk => ha σ H _ z fun vs ds μ1 H1 ⟨n, hd, hlen, turn, q⟩ iv r e => ?_
  subst hd
  obtain ⟨v, hv1, hv2⟩ := vals1D iv
  have hv3 : v = .int (n : Int) := hv2
  subst hv3
  have z1 : At Γ ρ μ1 σ H1 := z.go r e
  refine ⟨(n : Int), hv1, by omega, by omega, fun m hm => ?_⟩
  have hn1 := r.fresh hm
  refine lc_range (lo := 0) (n := n) (fun j H' => LcInv μ1 (mns H1 μ1) m ((((List.range n).take j).filter pp).map g) H') ⟨rep_newM r hm ⟨[], rfl, rfl⟩, same_newM hm⟩ (fun j H' hj L => ?_) fun H' L => ?_
  · have hx0 : (List.range n)[j]? = some j := by rw [List.getElem?_range hj]
    have hv : Is (mns H1 μ1) (.int (j : Nat)) (.int (0 + (j : Nat))) := by rw [Int.zero_add]; rfl
    refine ⟨wipe1 _ _ _, lc_step (turn j hj) z1 hn1 L (Nat.lt_of_le_of_lt (take_len pp g (List.range n) j) (by rw [List.length_range]; omega)) hv fun H2 L2 => ?_⟩
    rw [take_filter_map pp g _ hx0]
    exact L2
  · rw [List.take_of_length_le (by rw [List.length_range]; exact Nat.le_refl _)] at L
    exact lc_end (Q := Q) (σ := σ) hn1 L (kk.up e) q

/-! ### isinstance -/
def tyD (μ : Mu) : D → Option Value
  | .non => some (.type "NoneType")
  | .bl _ => some (.type "bool")
  | .int _ => some (.type "int")
  | .str _ => some (.type "str")
  | .tup _ => some (.type "tuple")
  | .lst _ => some (.type "list")
  | _ => none
theorem ty_of {K : PySem.W.Frag} {H : Hp} {d : D} {v : V} {t : Value} (i : Is (mns H μ) d v) (h : tyD μ d = some t) : TyX K H v t := by
  cases d with
  | non => cases h; cases (show v = _ from i); exact .base .non
  | bl b => cases h; cases (show v = _ from i); exact .base (.bl b)
  | int b => cases h; cases (show v = _ from i); exact .base (.int b)
  | str b => cases h; cases (show v = _ from i); exact .base (.str b)
  | tup xs => cases h; obtain ⟨a, vs, e, h2, _⟩ := i; subst e; exact .base (.tup (mns_at h2).2)
  | lst xs => cases h; obtain ⟨a, vs, e, h2, _⟩ := i; subst e; exact .base (.lst (mns_at h2).2)
  | _ => cases h
/-- what a class of the text must have for isinstance of its instances -/
structure IsiC (K : PySem.W.Frag) (C : Addr) : Prop where
  cl : Cls K C
  ha : PySem.W.findIn K (.ref C) "__class__" = some (some (.builtin "object.__class__"))
  hn : PySem.W.specialIn K (.builtin "object.__class__") "__get__" = some (some (.builtin "getset_descriptor.__get__"))
  htk : PySem.W.takesIn K (.builtin "object.__class__") = some true
  hm : PySem.W.mroIn K C (.type "object") = some true
/-- the type of a datum, an instance's class too -/
inductive TyD (K : PySem.W.Frag) (μ : Mu) : D → Value → Prop
  | flat {d : D} {t : Value} (h : tyD μ d = some t) : TyD K μ d t
  | ins {d : D} {C : Addr} {ns : List Str} {ds : List D} (h : insOf μ d = some (C, ns, ds)) (ic : IsiC K C) : TyD K μ d (.ref C)
  | lst {q : Addr} {ds : List D} (h : μ q = some (.lst ds)) : TyD K μ (.ptr q) (.type "list")
theorem TyD.tyX {K : PySem.W.Frag} {H : Hp} {d : D} {v : V} {t : Value} (h : TyD K μ d t) (r : Rep μ H) (i : Is (mns H μ) d v) : TyX K H v t := by
  cases h with
  | flat h => exact ty_of i h
  | ins h ic =>
    obtain ⟨a, dx, vs, e1, e2, _, _⟩ := ins_at r i h
    subst e1
    exact .base (.ins e2 ic.cl ic.ha ic.hn ic.htk ic.hm)
  | lst h =>
    obtain ⟨o, h1, vs, h2, _⟩ := r _ _ h
    subst h2
    cases (show v = _ from i)
    exact .base (.lst h1)
/-- isinstance(e, T), T a built-in class -/
theorem ed_isiB {y : Str} {n : String} {p2 : Pos} (hm : Γ.X.mg "isinstance" = none) (hm2 : Γ.X.mg y = none) (ha : ED Γ e ρ μ fun d μ1 => ∃ t b, TyD Γ.X.K μ1 d t ∧ PySem.W.kitOne Γ.X.K t (.type n) = some b ∧ Q (.bl b) μ1) (hv : bootBuiltins y = some (.type n)) (hg : Gl Γ.X "isinstance" := by rfl) (hg2 : Gl Γ.X y := by rfl)
    (he : starEach [e, .Name y p2] Γ.X.env = (false, eval e Γ.X.env) :: starEach [.Name y p2] Γ.X.env := by rfl) (he2 : starEach [.Name y p2] Γ.X.env = (false, eval (.Name y p2) Γ.X.env) :: starEach [] Γ.X.env := by rfl) (hpl : (backTo pos (starEach [.Name y p2] Γ.X.env)).any (·.1) = false := by rfl)
    (hne : y ≠ "__name__" := by decide) (hdb : (y == ("__debug__" : Str)) = false := by decide) : ED Γ (.Call (.Name "isinstance" p) [e, .Name y p2] [] pos) ρ μ Q :=
  ed_of (pe_callB call_isi hg hm (by decide +kernel) (pa_cons pe_w (pa_cons (pe_bltn (v := .ty n) hg2 hm2 hv rfl hne hdb) pa_nil he2) he) (by decide) (by decide) he hpl) fun σ H Qv z kk => one ha z fun d u μ1 H1 ⟨t, b, ht, hb, q⟩ i r e =>
    ⟨u, .ty n, t, .type n, b, rfl, .ty n, ht.tyX r i, hb, kk _ _ _ _ q rfl r e⟩
/-- .. a class of the text -/
theorem ed_isiC {y : Str} {p2 : Pos} (hm : Γ.X.mg "isinstance" = none) (hm2 : Γ.X.mg y = some (.ref C)) (ha : ED Γ e ρ μ fun d μ1 => ∃ t b, TyD Γ.X.K μ1 d t ∧ PySem.W.kitOne Γ.X.K t (.ref C) = some b ∧ Q (.bl b) μ1) (hg : Gl Γ.X "isinstance" := by rfl) (hg2 : Gl Γ.X y := by rfl)
    (he : starEach [e, .Name y p2] Γ.X.env = (false, eval e Γ.X.env) :: starEach [.Name y p2] Γ.X.env := by rfl) (he2 : starEach [.Name y p2] Γ.X.env = (false, eval (.Name y p2) Γ.X.env) :: starEach [] Γ.X.env := by rfl) (hpl : (backTo pos (starEach [.Name y p2] Γ.X.env)).any (·.1) = false := by rfl)
    (hdb : (y == ("__debug__" : Str)) = false := by decide) : ED Γ (.Call (.Name "isinstance" p) [e, .Name y p2] [] pos) ρ μ Q :=
  ed_of (pe_callB call_isi hg hm (by decide +kernel) (pa_cons pe_w (pa_cons (pe_glob (v := .ref C) hg2 hm2 rfl hdb) pa_nil he2) he) (by decide) (by decide) he hpl) fun σ H Qv z kk => one ha z fun d u μ1 H1 ⟨t, b, ht, hb, q⟩ i r e =>
    ⟨u, .ref C, t, .ref C, b, rfl, .own C, ht.tyX r i, hb, kk _ _ _ _ q rfl r e⟩
end
end DD
set_option Elab.async false
set_option linter.all false
set_option maxRecDepth 100000
set_option maxHeartbeats 4000000
/-! D4: operators and subscripts by methods of the text's own classes. -/
namespace DD
open PySem PySem.Spec PyProof.Rows L2
theorem rel_ne {v : V} {u : Value} (r : RelV v u) : u ≠ .notImplemented := fun e => by
  subst e
  cases v with
  | non => cases r
  | bl b => cases r
  | int i => obtain ⟨t, h⟩ := r; cases h
  | str x => obtain ⟨t, h⟩ := r; cases h
  | byt x => obtain ⟨t, h⟩ := r; cases h
  | flt x => obtain ⟨t, h⟩ := r; cases h
  | ref a => cases r
  | ty n => cases r
theorem cmpBack_of {Q : Value → Shared → Prop} {u : Value} {s : Shared} (h : Q u s) (ne : u ≠ .notImplemented) : PySem.W.CmpBack Q u s := by
  cases u <;> first | exact h | exact absurd rfl ne
theorem ep_back {X : Cx} {pins : List (Addr × Obj)} {σ : L2.St} {Q : VK} {u : Value} {s : Shared} (h : EP X pins σ Q u s) : PySem.W.CmpBack (EP X pins σ Q) u s := by
  obtain ⟨v, H, I, r, q⟩ := h
  exact cmpBack_of ⟨v, H, I, r, q⟩ (rel_ne r)
section
open PySem.W
variable {prog : Program} {w : World} {A : Around} {E : Value → Shared → Prop} {s : Shared} {K : Frag} {x C L f : Addr} {h₀ : Heap} {m : Str → Option Value} {ox : Obj} {od : Option Obj}
theorem info_sub : Operator.info .Sub = ("-", "sub") := rfl
theorem int_sub_ref {a : Int} {t : Tok} {A : Around} {E : Value → Shared → Prop} {Q : Fin → Shared → Prop} {M : Model} (hx : s.heap.get? x = some ox) (hp : ox.data = .plain) (h : Q (.done (.ret .notImplemented)) s) :
    wpAny M A (Builtin.«int.__sub__» ⟨[.int a t, .ref x], []⟩) Q E s := by
  obtain ⟨hp', g, d, tk, os⟩ := s
  obtain ⟨oc, odd, dt, sl⟩ := ox
  subst hp
  wp_walk
  all_goals exact h
theorem rop_K {op : Operator} {id : String} {B : Builtin} {i : Int} {t : Tok} {Q : Value → Shared → Prop} (F : Fr h₀ L s.heap m) (X₀ : K.In h₀) (I : InstAt s.heap x ox C od) (hc : selfFirst K C = true)
    (slot : Slot "int" (PySem.dunder op.info.2) id) (fills : fillsNumberSlot (.type "int") op.info.2 = pure true) (entry : entryFor table id = some B) (args : argsOk id ⟨[.int i t, .ref x], []⟩)
    (run : ∀ {Q : Fin → Shared → Prop}, Q (.done (.ret .notImplemented)) s → wpAny (model prog w) A.in1 (B ⟨[.int i t, .ref x], []⟩) Q E s)
    (hs : findIn K (.ref C) (PySem.dunderR op.info.2) = some (some (.ref f))) (hf : isFn K (.ref f) = true) (hs2 : findIn K (.ref C) (PySem.dunder op.info.2) = some (some (.ref g))) (hsub : subIn K (.ref C) (.type "int") = some false)
    (h : wpAny (model prog w) A (call (.ref f) [.ref x, .int i t]) (PySem.W.CmpBack Q) E s) : wpAny (model prog w) A (binaryOp op (.int i t) (.ref x)) Q E s := by
  have X := X₀.keeps F.keep
  obtain ⟨cd, rest, hcd, hm⟩ := ksp_first hc
  have hT : s.TypeIs (.int i t) "int" := typeIs_int s i t
  rcases hi : op.info with ⟨sym, nm⟩
  rw [hi] at hs hs2 slot fills
  dsimp only at hs hs2 slot fills
  have one : wpAny (model prog w) A (tryMethod (.ref x) (PySem.dunderR nm) (.int i t)) (fun r s' => ∃ v, r = some v ∧ Q v s') E s := ksp_try X I hs hf h
  have dec : ∀ {Q : Option Value → Shared → Prop}, Q none s → wpAny (model prog w) A (tryMethod (.int i t) (PySem.dunder nm) (.ref x)) Q E s := fun {Q} q =>
    wpAny_tryMethod_declines hT slot (wpAny_call_entry slot hT entry (run ⟨_, rfl, rfl, q⟩) args)
  have L1 : Looks (model prog w) s.heap (typeOf (.int i t)) (.type "int") := Looks.of_pure rfl
  have L2 : Looks (model prog w) s.heap (typeOf (.ref x)) (.ref C) := I.type
  have L3 : Looks (model prog w) s.heap (fillsNumberSlot (.type "int") nm) true := Looks.of_pure fills
  have L4 : Looks (model prog w) s.heap (fillsNumberSlot (.ref C) nm) true := fills_K X hcd hm hs2
  have L5 : Looks (model prog w) s.heap (isSubtype (.ref C) (.type "int")) false := looks_subIn X hsub
  have L7 : Looks (model prog w) s.heap (numberSlotInPython (.type "int") nm) false := Looks.of_pure rfl
  have hne : (Value.type "int" == Value.ref C) = false := Bool.eq_false_iff.mpr fun q => by cases beq_iff_eq.mp q
  simp only [binaryOp, hi]
  refine wpAny_holding (wpAny_bind ?_)
  unfold binaryOp1
  refine wpAny_bind (L1.here (wpAny_bind (L2.here (wpAny_bind (L3.here ?_)))))
  simp only [hne, Bool.false_eq_true, if_false]
  refine wpAny_bind (L4.here ?_)
  simp only [Bool.and_self, if_true]
  refine wpAny_bind (L5.here ?_)
  simp only [Bool.false_eq_true, if_false, pure_bind, Bool.not_false, Bool.and_self, if_true]
  refine wpAny_bind (L7.here ?_)
  simp only [Bool.false_eq_true, if_false, pure_bind]
  refine wpAny_bind (dec ?_)
  refine wpAny_bind (wpAny_mono one (fun r s' hr => ?_) fun _ _ e => e)
  obtain ⟨v, rfl, hq⟩ := hr
  exact wpAny_bind (wpAny_rule (wpAny_pure (wpAny_pure hq)))
theorem rsub_K {i : Int} {t : Tok} {Q : Value → Shared → Prop} (F : Fr h₀ L s.heap m) (X₀ : K.In h₀) (I : InstAt s.heap x ox C od) (hp : ox.data = .plain) (hc : selfFirst K C = true)
    (hs : findIn K (.ref C) (PySem.dunderR "sub") = some (some (.ref f))) (hf : isFn K (.ref f) = true) (hs2 : findIn K (.ref C) (PySem.dunder "sub") = some (some (.ref g))) (hsub : subIn K (.ref C) (.type "int") = some false)
    (h : wpAny (model prog w) A (call (.ref f) [.ref x, .int i t]) (PySem.W.CmpBack Q) E s) : wpAny (model prog w) A (binaryOp .Sub (.int i t) (.ref x)) Q E s :=
  rop_K (op := .Sub) F X₀ I hc PySem.F.slot_int_sub PySem.F.fills_int_sub PySem.F.entry_int_sub (PySem.F.args_int_sub_2 _ _) (fun q => int_sub_ref I.at_ hp q) hs hf hs2 hsub h
end

/-! ### the rules by values -/
theorem dunder_add : PySem.dunder "add" = ("__add__" : Str) := by decide +kernel
theorem dunder_sub : PySem.dunder "sub" = ("__sub__" : Str) := by decide +kernel
theorem dunderR_sub : PySem.dunderR "sub" = ("__rsub__" : Str) := by decide +kernel
theorem dunderR_add : PySem.dunderR "add" = ("__radd__" : Str) := by decide +kernel
section
variable {X : Cx} {CX : CXT} {k : Nat} {f C g : Addr} {fd : FuncData} {ps : List Str} {sp : Sp} {E : XK}
theorem ins_inst {pins : List (Addr × Obj)} {σ : L2.St} {H : Hp} {s : Shared} {a C dx : Addr} {fs : List (Str × V)} (I : Inv X pins σ H s) (ea : H a = some (.ins C dx fs)) : ∃ od, PySem.W.InstAt s.heap a (PySem.W.instObj C dx) C (some od) := by
  obtain ⟨mA, O, _⟩ := ins_get I.hok ea
  obtain ⟨od, J, _⟩ := O.look
  exact ⟨od, J⟩
/-- a op b, both instances of the class at C -/
theorem op_own {op : Operator} (F : FnOk X.prog X.w X.K X.mg X.base CX k f fd ps sp) (hr : Room k X.A) (hb : Binds X.K fd ps []) (hx : Passes CX X E) (hc : PySem.W.selfFirst X.K C = true)
    (hs : PySem.W.findIn X.K (.ref C) (PySem.dunder op.info.2) = some (some (.ref f))) (hf : PySem.W.isFn X.K (.ref f) = true) :
    OpR X (binaryOp op) (fun x y H Q => ∃ a b dx dy fs gs, x = .ref a ∧ y = .ref b ∧ H a = some (.ins C dx fs) ∧ H b = some (.ins C dy gs) ∧ sp [x, y] H Q E) := by
  intro pins s σ H x y v u Q I rx ry ⟨a, b, dx, dy, fs, gs, ex, ey, ea, eb, h⟩
  subst ex
  subst ey
  cases rx
  cases ry
  obtain ⟨od, J⟩ := ins_inst I ea
  obtain ⟨od', J'⟩ := ins_inst I eb
  obtain ⟨m, Fr⟩ := I.fr
  refine PySem.W.binop_K Fr I.mod.kin J J'.type hc hs hf ?_
  exact wpAny_mono (run_fn (vs := [.ref a, .ref b]) (us := [.ref a, .ref b]) F hr hb .nil hx I (.cons rfl (.cons rfl .nil)) (by exact h)) (fun _ _ z => ep_back z) fun _ _ z => z
/-- instance + int -/
theorem op_ownI {op : Operator} {fo ro rc : Option Value} (F : FnOk X.prog X.w X.K X.mg X.base CX k f fd ps sp) (hr : Room k X.A) (hb : Binds X.K fd ps []) (hx : Passes CX X E) (hc : PySem.W.selfFirst X.K C = true)
    (hs : PySem.W.findIn X.K (.ref C) (PySem.dunder op.info.2) = some (some (.ref f))) (hf : PySem.W.isFn X.K (.ref f) = true) (hr2 : PySem.W.findIn X.K (.ref C) (PySem.dunderR op.info.2) = some rc) (hp : rc = none ∨ ∃ g : Addr, rc = some (.ref g))
    (h1 : PySem.W.findIn X.K (.type "int") (PySem.dunder op.info.2) = some fo) (h2 : PySem.W.findIn X.K (.type "int") (PySem.dunderR op.info.2) = some ro) (hsub : PySem.W.subIn X.K (.type "int") (.ref C) = some false) :
    OpR X (binaryOp op) (fun x y H Q => ∃ a i dx fs, x = .ref a ∧ y = .int i ∧ H a = some (.ins C dx fs) ∧ sp [x, y] H Q E) := by
  intro pins s σ H x y v u Q I rx ry ⟨a, i, dx, fs, ex, ey, ea, h⟩
  subst ex
  subst ey
  cases rx
  obtain ⟨t, rfl⟩ := ry
  obtain ⟨od, J⟩ := ins_inst I ea
  obtain ⟨m, Fr⟩ := I.fr
  refine PySem.W.ksp_binT Fr I.mod.kin J (T := "int") rfl hc hs hf hr2 hp h1 h2 hsub ?_
  exact wpAny_mono (run_fn (vs := [.ref a, .int i]) (us := [.ref a, .int i t]) F hr hb .nil hx I (.cons rfl (.cons ⟨t, rfl⟩ .nil)) (by exact h)) (fun _ _ z => ep_back z) fun _ _ z => z
/-- int - instance -/
theorem op_rsub (F : FnOk X.prog X.w X.K X.mg X.base CX k f fd ps sp) (hr : Room k X.A) (hb : Binds X.K fd ps []) (hx : Passes CX X E) (hc : PySem.W.selfFirst X.K C = true)
    (hs : PySem.W.findIn X.K (.ref C) (PySem.dunderR "sub") = some (some (.ref f))) (hf : PySem.W.isFn X.K (.ref f) = true) (hs2 : PySem.W.findIn X.K (.ref C) (PySem.dunder "sub") = some (some (.ref g))) (hsub : PySem.W.subIn X.K (.ref C) (.type "int") = some false) :
    OpR X (binaryOp .Sub) (fun x y H Q => ∃ a i dx fs, x = .int i ∧ y = .ref a ∧ H a = some (.ins C dx fs) ∧ sp [y, x] H Q E) := by
  intro pins s σ H x y v u Q I rx ry ⟨a, i, dx, fs, ex, ey, ea, h⟩
  subst ex
  subst ey
  cases ry
  obtain ⟨t, rfl⟩ := rx
  obtain ⟨od, J⟩ := ins_inst I ea
  obtain ⟨m, Fr⟩ := I.fr
  refine rsub_K Fr I.mod.kin J rfl hc hs hf hs2 hsub ?_
  exact wpAny_mono (run_fn (vs := [.ref a, .int i]) (us := [.ref a, .int i t]) F hr hb .nil hx I (.cons rfl (.cons ⟨t, rfl⟩ .nil)) (by exact h)) (fun _ _ z => ep_back z) fun _ _ z => z
/-- -instance -/
theorem un_own (F : FnOk X.prog X.w X.K X.mg X.base CX k f fd ps sp) (hr : Room k X.A) (hb : Binds X.K fd ps []) (hx : Passes CX X E)
    (hs : PySem.W.findIn X.K (.ref C) "__neg__" = some (some (.ref f))) (hf : PySem.W.isFn X.K (.ref f) = true) :
    UnR X (unaryOp .USub) (fun x H Q => ∃ a dx fs, x = .ref a ∧ H a = some (.ins C dx fs) ∧ sp [x] H Q E) := by
  intro pins s σ H x v Q I rx ⟨a, dx, fs, ex, ea, h⟩
  subst ex
  cases rx
  obtain ⟨od, J⟩ := ins_inst I ea
  obtain ⟨m, Fr⟩ := I.fr
  exact PySem.W.ksp_neg Fr I.mod.kin J hs hf (run_fn (vs := [.ref a]) (us := [.ref a]) F hr hb .nil hx I (.cons rfl .nil) (by exact h))
/-- a callee that runs one call deeper -/
theorem run_fn1 {pins : List (Addr × Obj)} {σ : L2.St} {H : Hp} {s : Shared} {Q : VK} {us : List Value} {vs : List V} (F : FnOk X.prog X.w X.K X.mg X.base CX k f fd ps sp) (hr : Room (k + 1) X.A) (hb : Binds X.K fd ps []) (hx : Passes CX X E) (I : Inv X pins σ H s) (r : Vals vs us) (h : sp vs H Q E) :
    wpAny (model X.prog X.w) X.A.in1 (call (.ref f) us) (EP X pins σ Q) X.xe s := by
  have hl : (us ++ []).length = ps.length := by rw [List.append_nil, ← r.length]; exact F.len _ _ _ _ h
  have hb' := hb s us I.kIn hl
  rw [List.append_nil] at hb'
  refine wpAny_call (codeAny_mono (F.run X.A.in1 X.stack s H ⟨us, []⟩ us vs Q E hr.in1 I.env0.in1 hb' r h) fun r s' hq => ?_)
  cases r with
  | error e => exact hx pins σ H s e s' I hq
  | ok fl =>
    cases fl with
    | ret u => exact I.after hq
    | next => exact False.elim hq
    | brk => exact False.elim hq
    | cont => exact False.elim hq
/-- o[i], o an instance with an own __getitem__ -/
theorem pe_ixOwn {o i : Expr} {to ti : TE} {pos : Pos} (F : FnOk X.prog X.w X.K X.mg X.base CX k f fd ps sp) (hr : Room (k + 1) X.A) (hb : Binds X.K fd ps []) (hx : Passes CX X E)
    (hs : PySem.W.findIn X.K (.ref C) "__getitem__" = some (some (.ref f))) (hfn : PySem.W.fnIn X.K f = true) (hf : PySem.W.isFn X.K (.ref f) = true) (ho : PE X o to) (hi : PE X i ti)
    (hsl : ∀ a u, subscripted i true (.ref a) u = runValue (.builtin "lifetime.subscript" ⟨[.ref a, u], []⟩) := by intro _ _; with_unfolding_all rfl) :
    PE X (.Subscript o i pos) (tOp (fun x y H Q => ∃ a dx fs, x = .ref a ∧ H a = some (.ins C dx fs) ∧ sp [x, y] H Q E) to ti) := by
  refine ⟨fun pins s σ H Q I h => ?_⟩
  refine PyProof.Rows.Subscript_ (binT ho hi I h fun v u s2 x y H2 I2 rx ry ⟨a, dx, fs, ex, ea, q⟩ => ?_)
  subst ex
  cases rx
  obtain ⟨od, J⟩ := ins_inst I2 ea
  obtain ⟨m, Fr⟩ := I2.fr
  exact PySem.W.sub_K Fr I2.mod.kin J hs hfn hf (run_fn1 (vs := [.ref a, y]) (us := [.ref a, u]) F hr hb hx I2 (.cons rfl (.cons ry .nil)) (by exact q)) (hsl _ _)
end
end DD
set_option Elab.async false
set_option linter.all false
set_option maxRecDepth 100000
set_option maxHeartbeats 4000000
/-! D5: list(o) where o's own __iter__ hands out an iterator over a tuple. -/
namespace DD
open PySem PySem.Spec PyProof.Rows L2
/-- at it: an iterator over the tuple at t, i items handed out -/
def itO (it t : Addr) (i : Nat) : HO := .ext fun h => h.IsTupleIter it t i
def itX (it : Addr) : HO := .ext fun h => ∃ o, h.get? it = some o
section
variable {P : Program} {w : World} {H : Hp} {h : Heap} {it t : Addr} {i : Nat}
theorem itO_ok (x : h.IsTupleIter it t i) : ObjOk P w H h it (itO it t i) :=
  ⟨x, let ⟨o, e, _⟩ := x; ⟨o, e⟩, fun h1 h2 ⟨o, e, r⟩ k => ⟨o, k _ e, r⟩⟩
theorem itX_ok (x : ∃ o, h.get? it = some o) : ObjOk P w H h it (itX it) := ⟨x, x, fun h1 h2 ⟨o, e⟩ k => ⟨o, k _ e⟩⟩
theorem itO_at (hok : HOk P w H h) (e : H it = some (itO it t i)) : h.IsTupleIter it t i := by
  have x : ObjOk P w H h it (.ext fun h => h.IsTupleIter it t i) := hok it _ e
  exact x.1
end
section
variable {prog : Program} {w : World} {A : Around} {E : Value → Shared → Prop} {s : Shared}
theorem next_tuple_end {it t : Addr} {i : Nat} {items : Array Value} {Q : Option Value → Shared → Prop} (hh : A.handled = none)
    (hit : s.heap.IsTupleIter it t i) (ht : s.heap.IsTuple t items) (hx : items[i]? = none)
    (hQ : ∀ h', Heap.ExtBut it s.heap h' → (∃ o, h'.get? it = some o) → Q none { s with heap := h' }) : wpAny (model prog w) A (pyNext (.ref it)) Q E s := by
  obtain ⟨o, ho, hc, hd⟩ := id hit
  obtain ⟨ol, hol, _, nl, hdl⟩ := ht
  unfold pyNext
  refine wpAny_bind (wpAny_attempt (wpAny_callSpecial?_slot (name := Str.ofString "__next__") hit.typeIs F.slot_tuple_iterator_next
    (wpAny_call_entry F.slot_tuple_iterator_next hit.typeIs F.entry_tuple_iterator_next ?_ (F.args_tuple_iterator_next_1 _))))
  show wpAny _ _ (field (.ref it) 0 >>= _) _ _ s
  refine wpAny_bind (wpAny_field ho hd (x := .ref t) rfl ?_)
  show wpAny _ _ (if (Value.ref t == Value.none) = true then _ else _) _ _ s
  rw [if_neg (show ¬ ((Value.ref t == Value.none) = true) from Bool.false_ne_true)]
  show wpAny _ _ (field (.ref it) 1 >>= _) _ _ s
  refine wpAny_bind (wpAny_field ho hd (x := .int i 0) rfl ?_)
  show wpAny _ _ (seqItems? (.ref t) >>= _) _ _ s
  refine wpAny_bind (wpAny_seqItems hol hdl ?_)
  simp only [Int.toNat_natCast, hx]
  refine wpAny_bind (wpAny_rule (wpAny_bind (wpAny_setField ho hd (by simp) ?_)))
  show wpAny _ _ (newExc (.type "StopIteration") [] >>= _) _ _ _
  refine wpAny_bind ?_
  simp only [newExc, newTuple]
  refine wpAny_bind (wpAny_newObj_type ?_ (by size_fits))
  refine wpAny_bind (m := firstArgMember _ _) (wpAny_of_eq (a := Value.none) (by first | rfl | (simp only [firstArgMember]; rfl)) ?_)
  refine wpAny_newObj_type ?_ (by size_fits)
  simp only [raiseNew]
  refine wpAny_bind (wpAny_handled ?_)
  first | rw [show A.in1.handled = none from hh] | rw [hh]
  refine wpAny_bind (wpAny_pure (wpAny_throw ?_))
  refine wpAny_bind (wpAny_isInstance (T := "StopIteration") (b := true) ⟨_, Heap.get?_push_size _ rfl, rfl⟩ isSubtype_stop ?_)
  exact wpAny_pure (hQ _ (((Heap.SameBut.update ..).extBut.push _).push _) ⟨_, Heap.get?_push_of_some _ (Heap.get?_push_of_some _ (Heap.get?_update_self _ ho (Obj.isFreed_of_fields (Obj.data_mapFields hd _))))⟩)
theorem call_iterT {l : Addr} {items : Array Value} {Q : Value → Shared → Prop} (hl : s.heap.IsTuple l items) (h : Q (.ref s.heap.objs.size) { s with heap := s.heap.push { cls := .type "tuple_iterator", data := .fields #[.ref l, .int 0 0] } }) : wpAny (model prog w) A (call (.builtin "iter") [.ref l]) Q E s := by
  refine Calls.call_function_entry (by decide +kernel) (by decide +kernel) PySem.W.kdk_entry_iter (PySem.W.kdk_args_iter _) ?_
  unfold Builtin.«iter»
  refine wpAny_bind (m := someArgs "iter" 1 2 _) (wpAny_of_eq (a := [Value.ref l]) (by first | rfl | kernel_rfl!) ?_)
  show wpAny _ _ (pyIter (.ref l) >>= _) _ _ _
  refine wpAny_bind (wpAny_pyIter_tuple hl ?_)
  exact wpAny_pure ⟨_, rfl, h⟩
end
/-- iter(a tuple) -/
theorem cr_iterT {X : Cx} : CallR X (.builtin "iter") (fun vs H Q => ∃ t xs, vs = [.ref t] ∧ SqT X.K H t xs ∧ ∀ it, H it = none → Q (.ref it) (upd H it (itO it t 0))) := by
  intro pins s σ H vs us Q I rv h
  obtain ⟨t, xs, rfl, ht, q⟩ := h
  obtain ⟨u, rfl, ru⟩ := rv.one
  cases ru
  obtain ⟨its, rv2, hT, hz⟩ := I.tuple ht
  refine call_iterT hT ?_
  refine ⟨.ref s.heap.objs.size, _, I.laid (t' := s.toks) (fun b u e => Heap.get?_push_of_some _ e) (Nat.le_refl _) (itO_ok ?_), rfl, q _ (I.hok.fresh (Nat.le_refl _))⟩
  exact ⟨_, Heap.get?_push_size _ rfl, rfl, rfl⟩
/-- the promise of such an __iter__: f the field -/
def spIt (C : Addr) : Sp := fun vs H Q _ => ∃ a dx t fs ys, vs = [.ref a] ∧ H a = some (.ins C dx fs) ∧ fs.lookup ("_numbers" : Str) = some (.ref t) ∧ H t = some (.tup ys) ∧ ∀ it, H it = none → Q (.ref it) (upd H it (itO it t 0))
section
variable {X : Cx} {pins : List (Addr × Obj)} {σ : L2.St} {H : Hp} {s : Shared} {A1 : Around} {q it t : Addr} {ys : List V} {Rs : Result → Shared → Prop}
theorem turn_next (hh : A1.handled = none) (I : Inv X pins σ H s) (hi : H it = some (itO it t i)) (ht : H t = some (.tup ys)) {Q : Option Value → Shared → Prop} {E : Value → Shared → Prop}
    (h1 : ∀ v u s', ys[i]? = some v → RelV v u → Inv X pins σ (upd H it (itO it t (i + 1))) s' → Q (some u) s') (h2 : ys[i]? = none → ∀ s', Inv X pins σ (upd H it (itX it)) s' → Q none s') :
    wpAny (model X.prog X.w) A1 (pyNext (.ref it)) Q E s := by
  have hit := itO_at I.hok hi
  obtain ⟨its, rv, hT, hz⟩ := I.tuple (SqT.of (K := X.K) ht)
  have mu : Mut (H it) := by rw [hi]; exact True.intro
  cases e : ys[i]? with
  | some v =>
    obtain ⟨u, hu, ru⟩ := rv.get e
    refine wpAny_pyNext_tuple_item hit hT (by rw [List.getElem?_toArray]; exact hu) fun h' x sb => ?_
    exact h1 v u _ e ru (I.write (x := it) (e := it) (t' := s.toks) mu (.inl rfl) (fun b o nb z => (sb.2 b nb).trans z) (let ⟨o, e, _⟩ := x; ⟨o, e⟩) (itO_ok x))
  | none =>
    refine next_tuple_end hh hit hT (by rw [List.getElem?_toArray]; exact rv.none_of e) fun h' k x => ?_
    exact h2 e _ (I.write (x := it) (e := it) (t' := s.toks) mu (.inl rfl) (fun b o nb z => k b o nb z) x (itX_ok x))
theorem itO_ne {v u : HO} {a b : Addr} (ha : H a = some v) (hb : H b = some u) (n : v ≠ u) : a ≠ b := fun z => by
  rw [z, hb] at ha
  exact n (Option.some.inj ha).symm
theorem it_loop (hh : A1.handled = none) (hn : H q = none) (hni : H it = none) (hqi : it ≠ q) (ht : H t = some (.tup ys)) (hz : ys.length ≤ 1000)
    (hdone : ∀ o s, Inv X pins σ (upd (upd H q (.lst ys)) it o) s → Rs (.ok (.ret .none)) s) :
    ∀ (m i : Nat) (s : Shared), i + m = ys.length → Inv X pins σ (upd (upd H q (.lst (ys.take i))) it (itO it t i)) s → codeAny (model X.prog X.w) A1 (.builtin "list.extend.loop" ⟨[.ref q, .ref it, .none], []⟩) Rs s := by
  have htq : t ≠ q := ne_of_none ht hn
  have hti : t ≠ it := ne_of_none ht hni
  intro m
  induction m with
  | zero =>
    intro i s hi I
    have hi' : i = ys.length := by omega
    subst hi'
    refine codeAny_builtin PySem.F.entry_extend_loop ?_
    rw [Around.under_plainId PySem.F.plain_extend_loop _]
    show wpAny _ A1.in1 (pyNext (.ref it) >>= _) _ _ s
    refine wpAny_bind (turn_next (A1 := A1.in1) hh I upd_same (by rw [upd_ne hti, upd_ne htq]; exact ht) (fun v u s' e => ?_) fun _ s' I' => ?_)
    · rw [List.getElem?_eq_none (Nat.le_refl _)] at e; cases e
    · rw [upd_upd, List.take_length] at I'
      exact wpAny_pure (hdone _ _ I')
  | succ m ih =>
    intro i s hi I
    have hlt : i < ys.length := by omega
    refine codeAny_builtin PySem.F.entry_extend_loop ?_
    rw [Around.under_plainId PySem.F.plain_extend_loop _]
    show wpAny _ A1.in1 (pyNext (.ref it) >>= _) _ _ s
    refine wpAny_bind (turn_next (A1 := A1.in1) hh I upd_same (by rw [upd_ne hti, upd_ne htq]; exact ht) (fun v u s' e rv I' => ?_) fun e => ?_)
    · show wpAny _ A1.in1 (updateSeq q (·.push u) >>= _) _ _ _
      rw [upd_upd] at I'
      have hq' : upd (upd H q (.lst (ys.take i))) it (itO it t (i + 1)) q = some (.lst (ys.take i)) := by rw [upd_ne (Ne.symm hqi), upd_same]
      obtain ⟨z, its, k, r2, hl, e2⟩ := I'.lstM hq'
      have hlen : (ys.take i).length < sizeLine := Nat.lt_of_lt_of_le (show (ys.take i).length < 1001 by rw [List.length_take]; omega) (by decide)
      refine wpAny_bind (wpAny_updateSeq e2 rfl (wpAny_pure ⟨plainId_quiet PySem.F.plain_extend_loop _, ?_⟩) (by rw [List.size_toArray]; omega) (by show (its.toArray.push u).size ≤ sizeLine + 1; rw [Array.size_push, List.size_toArray]; omega))
      have J := I'.lset (f := (·.push u)) (its' := its ++ [u]) (t' := s'.toks) hq' e2 (by simp) (r2.append (.cons rv .nil)) (by rw [List.length_append, List.length_singleton]; omega)
      have hH : upd (upd (upd H q (.lst (ys.take i))) it (itO it t (i + 1))) q (.lst (ys.take i ++ [v])) = upd (upd H q (.lst (ys.take (i + 1)))) it (itO it t (i + 1)) := by
        rw [List.take_succ, e]
        funext b
        by_cases h1 : b = q
        · rw [h1, upd_same, upd_ne (Ne.symm hqi), upd_same]; rfl
        · by_cases h2 : b = it
          · rw [h2, upd_ne hqi, upd_same, upd_same]
          · rw [upd_ne h1, upd_ne h2, upd_ne h1, upd_ne h2, upd_ne h1]
      rw [hH] at J
      exact ih (i + 1) _ (by omega) J
    · rw [List.getElem?_eq_getElem hlt] at e; cases e
/-- list(o) -/
def rItl (C : Addr) : List V → Hp → VK → Prop := fun xs H Q => ∃ a dx t fs ys, xs = [.ref a] ∧ H a = some (.ins C dx fs) ∧ fs.lookup ("_numbers" : Str) = some (.ref t) ∧ H t = some (.tup ys) ∧ ys.length ≤ 1000 ∧
  ∀ q it o, H q = none → H it = none → it ≠ q → Q (.ref q) (upd (upd H q (.lst ys)) it o)
structure ItT (K : PySem.W.Frag) (C fi : Addr) : Prop where
  it : PySem.W.findIn K (.ref C) "__iter__" = some (some (.ref fi))
  itF : PySem.W.isFn K (.ref fi) = true
  nolen : PySem.W.findIn K (.ref C) "__len__" = some none
  nohint : PySem.W.findIn K (.ref C) "__length_hint__" = some none
theorem hint_own {M : Model} {A : Around} {E : Value → Shared → Prop} {s : Shared} {Q : Bool → Shared → Prop} {K : PySem.W.Frag} {C fi a : Addr} {ox : Obj} {od : Option Obj} (hc : ItT K C fi) (hK : K.In s.heap) (J : PySem.W.InstAt s.heap a ox C od) (h : Q true s) :
    wpAny M A (Builtin.List.listLengthHint (.ref a)) Q E s := by
  unfold Builtin.List.listLengthHint
  refine wpAny_bind (wpAny_bind (J.type.here ((PySem.W.looks_findIn hK hc.nolen).here ?_)))
  refine PySem.W.KFB.if_not rfl ?_
  refine PySem.W.KFB.if_not rfl ?_
  refine wpAny_bind (wpAny_bind (J.type.here ((PySem.W.looks_findIn hK hc.nohint).here ?_)))
  exact wpAny_pure h
theorem call_listIt {C fi : Addr} {fdI : FuncData} {psI : List Str} {n : Nat} {EI : XK} {CI : CXT} (hc : X.calm = true) (T : ItT X.K C fi) (FI : FnOk X.prog X.w X.K X.mg X.base CI n fi fdI psI (spIt C)) (bI : Binds X.K fdI psI []) (xI : Passes CI X EI) (hr : Room (n + 2) X.A) : CallR X (.type "list") (rItl C) := by
  intro pins s σ H xs us Q I rv h
  obtain ⟨a, dx, t, fs, ys, rfl, ha, hf, ht, hys, hq⟩ := h
  obtain ⟨u, rfl, ru⟩ := rv.one
  cases ru
  have sb : Sub X n X.A.in1.in1 := (Sub.in1 (Sub.in1 (⟨hr, rfl⟩ : Sub X (n + 2) X.A)))
  refine callType_codes (Q₁ := fun obj s₁ => obj = .ref s.heap.objs.size ∧ s₁ = { s with heap := s.heap.push { cls := .type "list", data := .seq #[] } }) PySem.F.called_list (PySem.F.typeCall_list_1 _) PySem.F.entry_list_init
    (code_list_new _ ⟨rfl, rfl⟩) fun obj s₁ h₁ => ?_
  obtain ⟨rfl, rfl⟩ := h₁
  have hS : (s.heap.push { cls := .type "list", data := .seq #[] }).get? s.heap.objs.size = some { cls := .type "list", data := .seq #[] } := Heap.get?_push_size _ rfl
  refine ⟨⟨_, hS, rfl⟩, PySem.F.args_list_init_2 _ _, ?_⟩
  have fr : H s.heap.objs.size = none := I.hok.fresh (Nat.le_refl _)
  generalize hqe : s.heap.objs.size = q at *
  have I1 : Inv X pins σ (upd H q (.lst [])) { s with heap := s.heap.push { cls := .type "list", data := .seq #[] } } := hqe ▸ I.lnew (its := []) (t' := s.toks) .nil (Nat.zero_le _)
  show wpAny _ _ (do let old ← Builtin.List.listItems (.ref q); Builtin.List.listUpdate (.ref q) (fun _ => #[]); letGo old.toList.reverse; Builtin.List.listExtendWith (.ref q) (.ref a) .none) _ _ _
  refine wpAny_bind ?_
  unfold Builtin.List.listItems
  refine wpAny_bind (wpAny_seqItems hS rfl (wpAny_pure ?_))
  show wpAny _ _ (updateSeq q (fun _ => #[]) >>= fun _ => letGo (#[] : Array Value).toList.reverse >>= fun _ => Builtin.List.listExtendWith (.ref q) (.ref a) .none) _ _ _
  refine wpAny_bind (wpAny_updateSeq hS rfl ?_)
  have I2 := I1.lset (f := fun _ => #[]) (its := []) (its' := []) (ys := []) (t' := s.toks) upd_same hS rfl .nil (Nat.zero_le _)
  rw [upd_upd] at I2
  refine wpAny_bind (wpAny_letGo ?_)
  have ha2 : upd H q (.lst []) a = some (.ins C dx fs) := by rw [upd_ne (ne_of_none ha fr)]; exact ha
  have ht2 : upd H q (.lst []) t = some (.tup ys) := by rw [upd_ne (ne_of_none ht fr)]; exact ht
  have hq2 : upd H q (.lst []) q = some (.lst []) := upd_same
  have haq : a ≠ q := ne_of_none ha fr
  have htq : t ≠ q := ne_of_none ht fr
  generalize ({ s with heap := (s.heap.push { cls := .type "list", data := .seq #[] }).update q (Obj.mapSeq fun _ => #[]), toks := s.toks } : Shared) = s2 at *
  obtain ⟨mA, J, _⟩ := ins_get I2.hok ha2
  obtain ⟨od, J, _⟩ := J.look
  obtain ⟨m0, hF⟩ := I2.fr
  show wpAny (model X.prog X.w) X.A.in1.in1 _ (fun (fin : PySem.Fin) s' => match fin with | .done f => wants (fun r s₂ => r = .none ∧ EP X pins σ Q (.ref q) s₂) X.xe (.ok f) s' | .again c' => c'.quiet = true ∧ codeAny (model X.prog X.w) X.A.in1 c' (wants (fun r s₂ => r = .none ∧ EP X pins σ Q (.ref q) s₂) X.xe) s') _ s2
  unfold Builtin.List.listExtendWith
  refine wpAny_bind (J.type.here ?_)
  have h1 : Builtin.List.listSameRef (.ref q) (.ref a) = false := by simp [Builtin.List.listSameRef, Ne.symm haq]
  have h2 : (Value.ref C == Value.type "list") = false := rfl
  have h3 : (Value.ref C == Value.type "tuple") = false := rfl
  simp only [h1, h2, h3, Bool.or_false, Bool.false_eq_true, if_false]
  refine wpAny_bind (PySem.W.owit_iter hF I2.ok.mod.kin J T.it T.itF ?_)
  have e0 : Env0 X.prog X.w X.K X.mg X.base X.A.in1.in1 X.stack s2 (upd H q (.lst [])) := by
    have e := I2.env0
    exact ⟨by rw [sb.fr]; exact e.frames, e.mod, e.bs, e.bsz, e.funs, e.frf, e.hok, e.bare⟩
  have hspI : spIt C [.ref a] (upd H q (.lst [])) (fun v H' => ∃ it, v = .ref it ∧ upd H q (.lst []) it = none ∧ H' = upd (upd H q (.lst [])) it (itO it t 0)) EI := ⟨a, dx, t, fs, ys, rfl, ha2, hf, ht2, fun it hi => ⟨it, rfl, hi, rfl⟩⟩
  have hl := FI.len _ _ _ _ hspI
  have r2 : Vals [V.ref a] [Value.ref a] := .cons rfl .nil
  refine wpAny_call (codeAny_mono (FI.run X.A.in1.in1 X.stack s2 _ ⟨[.ref a], []⟩ [.ref a] [.ref a] _ EI sb.room e0 (by
    have := bI s2 [.ref a] I2.kIn (by simpa using hl)
    simpa using this) r2 hspI) fun r s' hq' => ?_)
  cases r with
  | error e => exact xI pins σ _ s2 e s' I2 hq'
  | ok fl =>
    cases fl with
    | next => exact False.elim hq'
    | brk => exact False.elim hq'
    | cont => exact False.elim hq'
    | ret u =>
      obtain ⟨v, H', I', rv, it, ev, hin, eH⟩ := I2.after hq'
      subst ev
      subst eH
      cases rv
      have hiq : it ≠ q := fun z => by rw [z, upd_same] at hin; cases hin
      have hit0 : H it = none := by rw [upd_ne hiq] at hin; exact hin
      have hai : a ≠ it := ne_of_none ha2 hin
      have ha3 : upd (upd H q (.lst [])) it (itO it t 0) a = some (.ins C dx fs) := by rw [upd_ne hai]; exact ha2
      obtain ⟨mA', J', _⟩ := ins_get I'.hok ha3
      obtain ⟨od', J', _⟩ := J'.look
      unfold PySem.W.OwitIt
      refine wpAny_specialOf (itO_at I'.hok upd_same).typeIs PySem.F.slot_tuple_iterator_next.lookup ?_
      refine wpAny_bind (wpAny_holding (hint_own T I'.kIn J' ?_))
      have hq3 : upd (upd H q (.lst [])) it (itO it t 0) q = some (.lst []) := by rw [upd_ne (Ne.symm hiq), upd_same]
      obtain ⟨z, its, k, r3, hl3, e3⟩ := I'.lstM hq3
      cases r3
      have loop : ∀ {s4 : Shared}, Inv X pins σ (upd (upd H q (.lst [])) it (itO it t 0)) s4 → codeAny (model X.prog X.w) X.A.in1 (.builtin "list.extend.loop" ⟨[.ref q, .ref it, .none], []⟩) (wants (fun r s₂ => r = .none ∧ EP X pins σ Q (.ref q) s₂) X.xe) s4 := fun {s4} I4 =>
        it_loop (A1 := X.A.in1) (I4.ok.hd hc) fr hit0 hiq ht hys (fun o s5 I5 => ⟨rfl, .ref q, _, I5, rfl, hq q it o fr hit0 hiq⟩) ys.length 0 s4 (by omega) (by exact I4)
      refine wpAny_ite_split (fun _ => ?_) (fun _ => wpAny_pure ⟨plainId_quiet PySem.F.plain_extend_loop _, loop I'⟩)
      refine wpAny_bind (wpAny_rule ?_)
      refine wpAny_bind ?_
      show wpAny _ _ (updateSeq q (·.push .none) >>= fun _ => updateSeq q (·.pop)) _ _ _
      refine wpAny_bind (wpAny_updateSeq e3 rfl ?_)
      have I5 := I'.lset (f := (·.push Value.none)) (its' := [Value.none]) (ys := [.non]) (t' := s'.toks) hq3 e3 (by simp) (.cons rfl .nil) (by rw [List.length_singleton, sizeLine_eq]; decide)
      obtain ⟨z4, its4, k4, r4, hl4, e4⟩ := I5.lstM upd_same
      obtain ⟨u4, rfl, ru4⟩ := r4.one
      refine wpAny_updateSeq e4 rfl ?_ (by show 1 ≤ sizeLine; rw [sizeLine_eq]; decide) (by show 0 ≤ sizeLine + 1; exact Nat.zero_le _)
      refine wpAny_pure ⟨plainId_quiet PySem.F.plain_extend_loop _, loop ?_⟩
      have I6 := I5.lset (f := (·.pop)) (its := [u4]) (its' := []) (ys := []) (t' := s'.toks) upd_same e4 (by rfl) .nil (Nat.zero_le _)
      rw [upd_upd] at I6
      have hH : upd (upd (upd H q (.lst [])) it (itO it t 0)) q (.lst []) = upd (upd H q (.lst [])) it (itO it t 0) := by
        funext b
        by_cases hb : b = q
        · rw [hb, upd_same, hq3]
        · rw [upd_ne hb]
      rw [hH] at I6
      exact I6
end
end DD
set_option Elab.async false
set_option linter.all false
set_option maxRecDepth 100000
set_option maxHeartbeats 4000000
/-! D6: defs that close over __class__: super().__init__(..). -/
namespace DD
open PySem PySem.Spec PyProof.Rows L2
structure FnScopeS (N P : List Str) (sc : Scope) : Prop where
  kind : sc.kind = .function
  co : sc.isCoroutine = false
  gen : sc.isGenerator = false
  nd : N.Nodup
  pre : N.take P.length = P
  par : ∀ x ∈ P, sc.names.lookup x = some .local
  nocell : ∀ x ∈ sc.names, x.2 ≠ .cell
  free : ∀ y ∈ sc.names, y.2 = .free → y.1 = "__class__"
structure FunS (P : Program) (K : PySem.W.Frag) (x qual : Str) (params : Arguments) (body : List Stmt) (scope : Scope) (cc D f cda : Addr) (fd : FuncData) : Prop where
  ex : ∃ (oc : Value) (od : Option Addr) (kV doc pm : Value) (an : Option Addr) (ct : Value) (osl : Array (Option Value)), fd = PySem.W.ksFn x qual params body scope .none kV doc pm an (.ref cda) ct cc ∧ K.lookup f = some ⟨oc, od, .func fd, osl⟩
  cd : PySem.W.codeIn K (.ref cda) qual = true
  code : ∃ (ccl : Value) (cdd : Option Addr) (vs : Array Value) (ccs : Array (Option Value)) (file : Str) (tf : Tok), K.lookup cda = some ⟨ccl, cdd, .fields vs, ccs⟩ ∧ vs[2]? = some (.str file tf) ∧ ((P.main.file : Str) == file) = true
  cell : ∃ (cl : Value) (cld : Option Addr) (csl : Array (Option Value)), K.lookup cc = some ⟨cl, cld, .cell (some (.ref D)), csl⟩
def cxS (CX : CXT) (P : Program) (w : World) (K : PySem.W.Frag) (mg : Str → Option Value) (base : Heap) (N : List Str) (qual : Str) (scope : Scope) (f cda cc : Addr) (A : Around) (outer : List Env) (s : Shared) (H : Hp) (E : XK) : Cx where
  prog := P
  w := w
  K := K
  mg := mg
  base := base
  A := A.deeper (PySem.W.ksEnv qual scope s.heap.objs.size f (.ref cda) cc)
  N := N
  s_0 := s
  H_0 := H
  env := PySem.W.ksEnv qual scope s.heap.objs.size f (.ref cda) cc
  outer := outer
  stack := PySem.W.ksEnv qual scope s.heap.objs.size f (.ref cda) cc :: outer
  ex := []
  calm := true
  fn := fun x => x != "__class__"
  pn := []
  xe := fun e s' => wpAny (model P w) (A.deeper (PySem.W.ksEnv qual scope s.heap.objs.size f (.ref cda) cc)) (leaving (PySem.W.ksEnv qual scope s.heap.objs.size f (.ref cda) cc) e) (fun _ s'' => CX outer H s E e s'') (fun e' s'' => CX outer H s E e' s'') s'
theorem lookup_rev_zip : ∀ {ps : List Str} {us : List Value} {i : Nat} {y : Str} {u : Value}, ps.Nodup → ps[i]? = some y → us[i]? = some u → (ps.zip us).reverse.lookup y = some u
  | [], _, _, _, _, _, h, _ => by simp at h
  | _ :: _, [], _, _, _, _, _, h => by simp at h
  | p :: ps, v :: us, 0, y, u, nd, h1, h2 => by
    simp at h1 h2
    subst h1 h2
    rw [List.zip_cons_cons, List.reverse_cons, List.lookup_append]
    have hn : (ps.zip us).reverse.lookup p = none := by
      rw [List.lookup_eq_none_iff]
      intro q hq
      have hq' := List.mem_reverse.mp hq
      obtain ⟨a, b⟩ := q
      have := (List.of_mem_zip hq').1
      have ne : a ≠ p := fun z => (List.nodup_cons.mp nd).1 (z ▸ this)
      simpa using fun z : p = a => ne z.symm
    rw [hn]
    simp [List.lookup]
  | p :: ps, v :: us, i + 1, y, u, nd, h1, h2 => by
    rw [List.zip_cons_cons, List.reverse_cons, List.lookup_append, lookup_rev_zip (i := i) (List.nodup_cons.mp nd).2 (by simpa using h1) (by simpa using h2)]
    rfl
section
variable {CX : CXT} {P : Program} {w : World} {K : PySem.W.Frag} {mg : Str → Option Value} {base : Heap} {N ps : List Str} {qual x : Str} {scope : Scope} {f cda cc D : Addr} {A : Around} {outer : List Env} {s : Shared} {H : Hp} {E : XK} {us : List Value} {vs : List V} {params : Arguments} {body : List Stmt} {fd : FuncData}
theorem cells1 {cc : Addr} {y : Str} {c : Addr} (h : List.lookup y [(("__class__" : Str), cc)] = some c) : y = "__class__" ∧ c = cc := by
  by_cases e : y = "__class__"
  · subst e
    simp [List.lookup] at h
    exact ⟨rfl, h.symm⟩
  · have q : (y == ("__class__" : Str)) = false := by simpa using e
    simp [List.lookup, q] at h
theorem inv_startS (S : FnScopeS N ps scope) (hd : A.handled = none) (e0 : Env0 P w K mg base A outer s H) (hl : vs.length = ps.length) (r : Vals vs us) {cl : Value} {cld : Option Addr} {csl : Array (Option Value)} {v0 : Option Value} (lc : K.lookup cc = some ⟨cl, cld, .cell v0, csl⟩)
    {h1 : Heap} {tk : Tok} (hns : h1.Ns s.heap.objs.size fun y => (ps.zip us).reverse.lookup y) (hk : ∀ b o, s.heap.get? b = some o → h1.get? b = some o) :
    Inv (cxS CX P w K mg base N qual scope f cda cc A outer s H E) [] (L2.start N vs) H { s with heap := h1, toks := tk } := by
  have hpl : ps.length ≤ N.length := by have := congrArg List.length S.pre; rw [List.length_take] at this; omega
  have noA : ∀ b : Addr, b ∉ (cxS CX P w K mg base N qual scope f cda cc A outer s H E).ex := fun b z => absurd (show b ∈ ([] : List Addr) from z) (by simp)
  have lb := e0.mod.kin _ _ lc
  have ls := (e0.bs _ _ lb).1
  have hc0 := (e0.bs _ _ lb).2
  refine ⟨⟨e0.mod, S.kind, rfl, rfl, Nat.le_refl _, fun y z c h1 h2 => ?_, fun y hy => ?_, fun y c hf h => ?_, fun _ => hd, Around.frames_deeper e0.frames, .inr ⟨rfl, rfl⟩, fun b z => absurd z (noA b), e0.bs, e0.bsz, fun b _ _ => noA b, fun b z => absurd z (noA b), e0.funs, e0.frf⟩,
    rfl, e0.bare, Un.kept hk, ⟨_, hns, fun i y v h1 h2 h3 => ?_⟩, fun y c h => ?_, e0.hok.fresh (Nat.le_refl _), fun y c h => ?_, fun p hp => absurd (show p ∈ ([] : List (Addr × Obj)) from hp) (by simp), e0.hok.kept hk, ?_⟩
  · exact (cells1 h1).1.trans (cells1 h2).1.symm
  · have hy : scope.names.lookup y = some .cell ∨ scope.names.lookup y = some .free := hy
    rcases hy with hy | hy
    · exact absurd rfl (S.nocell _ (PySem.mem_of_lookup hy))
    · have e := S.free _ (PySem.mem_of_lookup hy) rfl
      exact ⟨cc, by rw [show y = ("__class__" : Str) from e]; show List.lookup _ [(_, cc)] = _; simp [List.lookup]⟩
  · have e := (cells1 h).1
    have hf' : (y != ("__class__" : Str)) = true := hf
    rw [e] at hf'
    simp at hf'
  · have hi : i < vs.length := by
      unfold L2.start at h2
      by_cases hi : i < vs.length
      · exact hi
      · rw [List.getElem?_append_right (by simpa using hi)] at h2
        rw [List.getElem?_replicate] at h2
        split at h2 <;> cases h2
    have ha : vs[i]? = some v := by
      unfold L2.start at h2
      rw [List.getElem?_append_left (by simpa using hi), List.getElem?_map] at h2
      cases e : vs[i]? with
      | none => rw [e] at h2; cases h2
      | some a => rw [e] at h2; cases h2; rfl
    obtain ⟨u, hu, rv⟩ := r.get ha
    have hp : ps[i]? = some y := by
      rw [← S.pre, List.getElem?_take_of_lt (by omega)]; exact h1
    have ndP : ps.Nodup := by rw [← S.pre]; exact S.nd.sublist (List.take_sublist _ _)
    exact ⟨u, rv, .inl ⟨S.par y (List.mem_of_getElem? hp), lookup_rev_zip ndP hp hu⟩⟩
  · rw [(cells1 h).2]
    exact ⟨_, _, hk _ _ ls, rfl⟩
  · rw [(cells1 h).2]
    exact hc0
  · unfold L2.start
    show _ = N.length
    rw [List.length_append, List.length_map, List.length_replicate]
    omega
/-- THE RULE for such a def -/
theorem fn_ofS {k : Nat} {sp : Sp} (F : FunS P K x qual params body scope cc D f cda fd) (S : FnScopeS N ps scope) (len : ∀ vs H Q E, sp vs H Q E → vs.length = ps.length)
    (hbody : ∀ A outer s H vs Q E, Room k (A.deeper (PySem.W.ksEnv qual scope s.heap.objs.size f (.ref cda) cc)) → sp vs H Q E → ∀ s1, Inv (cxS CX P w K mg base N qual scope f cda cc A outer s H E) [] (L2.start N vs) H s1 →
      _root_.PySem.wpAt (model P w) (cxS CX P w K mg base N qual scope f cda cc A outer s H E).A (.func body (cxS CX P w K mg base N qual scope f cda cc A outer s H E).env) (execs body (cxS CX P w K mg base N qual scope f cda cc A outer s H E).env)
        (SP (cxS CX P w K mg base N qual scope f cda cc A outer s H E) [] { nx := fun _ H' => Q .non H', rt := Q }) (cxS CX P w K mg base N qual scope f cda cc A outer s H E).xe s1) :
    FnOk P w K mg base CX (k + 1) f fd ps sp := by
  refine ⟨len, fun A outer s H args us vs Q E hr e0 hb r hsp => ?_⟩
  obtain ⟨oc, od, kV, doc, pm, an, ct, osl, rfl, lk⟩ := F.ex
  obtain ⟨cl, cld, csl, lc⟩ := F.cell
  have hl := len _ _ _ _ hsp
  have KX : K.In s.heap := e0.mod.kin.keeps fun b o e => (e0.bs b o e).1
  have lim : s.heap.NoLimit := e0.mod.nolimit.keeps fun b o e => (e0.bs b o e).1
  refine ks_codeAny_call_defAt (fd := PySem.W.ksFn x qual params body scope .none kV doc pm an (.ref cda) ct cc) (body := body) (binds := ps.zip us) hr.depth (KX _ _ lk) rfl lim (PySem.W.codeRec_of KX F.cd) rfl hb S.nocell (fun ⟨y, v⟩ hy => S.par y (List.of_mem_zip hy).1) (fun h1 hns hk => ?_) S.co S.gen S.kind
  have I : Inv (cxS CX P w K mg base N qual scope f cda cc A outer s H E) [] (L2.start N vs) H { s with heap := h1, toks := s.toks + (ps.zip us).length } := inv_startS S hr.hd e0 hl r lc hns hk
  refine ks_wpAt_mono (hbody A outer s H vs Q E (hr.deeper _) hsp _ I) (fun fl s' hs => ?_) fun e s' hs => hs
  have fin : ∀ {σ' : L2.St} {H' : Hp} {v : V} {u : Value}, Inv (cxS CX P w K mg base N qual scope f cda cc A outer s H E) [] σ' H' s' → RelV v u → Q v H' → CE outer P w H s Q u s' :=
    fun {σ' H' v u} J rv q => ⟨v, H', J.os, J.bare, J.base, J.hok, rv, q⟩
  cases fl with
  | ret u =>
    obtain ⟨v, σ', H', J, rv, q⟩ := hs
    exact fin J rv q
  | next =>
    obtain ⟨σ', H', J, q⟩ := hs
    exact fin (v := V.non) (u := Value.none) J rfl q
  | brk =>
    obtain ⟨_, _, _, q⟩ := hs
    exact False.elim q
  | cont =>
    obtain ⟨_, _, _, q⟩ := hs
    exact False.elim q
end
/-! super(), its object pinned -/
section
variable {X : Cx} {pins : List (Addr × Obj)} {σ : L2.St} {H : Hp} {s : Shared} {f cda cc C D a : Addr} {qual x attr : Str} {params : Arguments} {body : List Stmt} {scope : Scope} {fd : FuncData} {ar : Arg} {p0 p1 : Pos} {whole : Sem Value} {Q : Value → Shared → Prop} {E : Value → Shared → Prop} {ox : Obj} {od : Option Obj}
theorem sup_base (F : FunS X.prog X.K x qual params body scope cc D f cda fd) (henv : X.env = PySem.W.ksEnv qual scope X.env.locals f (.ref cda) cc) (hp : (params.posonlyargs ++ params.args).head? = some ar) (hN : X.N[0]? = some ar.arg) (hσ : σ[0]? = some (some (.ref a)))
    (I : Inv X pins σ H s) (J : PySem.W.InstAt s.heap a ox C od) (hsub : PySem.W.mroIn X.K C (.ref D) = some true) (hD : ∃ cd, PySem.W.clsIn X.K D = some cd) (hsu : X.mg "super" = none) (htop : (X.prog.main.scope.names.lookup ("super" : Str)).isSome = false)
    (hks : scope.names.lookup ("super" : Str) = some .globalImplicit) (hkc : scope.names.lookup ("__class__" : Str) = some .free) (hka : scope.names.lookup ar.arg = some .local) (hat : (attr == ("__class__" : Str)) = false)
    (h : ∀ s', Inv X ((s.heap.objs.size, PySem.W.ks_superObj D a C) :: pins) σ H s' → Q (.ref s.heap.objs.size) s') :
    _root_.PySem.wpAt (model X.prog X.w) X.A (.func body X.env) (attributeBase (.Call (.Name "super" p0) [] [] p1) attr X.env whole) Q E s := by
  obtain ⟨oc, odd, kV, doc, pm, an, ct, osl, rfl, lk⟩ := F.ex
  obtain ⟨ccl, cdd, vs, ccs, file, tf, lcd, hvs, hfile⟩ := F.code
  obtain ⟨cl, cld, csl, lc⟩ := F.cell
  obtain ⟨cdD, hD⟩ := hD
  have X0 := I.kIn
  obtain ⟨oD, hD1, hD2⟩ : ∃ oD, s.heap.get? D = some oD ∧ oD.data = .cls cdD := by
    unfold PySem.W.clsIn at hD
    split at hD
    · rename_i c d cd' sl ho
      cases hD
      exact ⟨_, X0 _ _ ho, rfl⟩
    · cases hD
  have key : ∀ y, X.env.kindOf y = scope.names.lookup y := fun y => by rw [henv]; rfl
  have hkc' : X.env.kindOf "__class__" = some .free := (key _).trans hkc
  have hcl : X.env.cells.lookup ("__class__" : Str) = some cc := by rw [henv]; show List.lookup _ [(_, cc)] = _; simp [List.lookup]
  refine ks_wpAt_super_base (env := X.env) ((key _).trans hks) hkc' hat (by rw [henv]) (X0 _ _ lk) rfl hp (by rw [henv]) (X0 _ _ lcd) rfl hvs hfile htop ?_
  obtain ⟨mb, h1, h2⟩ := I.mod.blt
  refine PySem.W.ks_loadName_global I.ok.kind ((key _).trans hks) (Calls.loadGlobal_builtin (by rw [I.ok.glob]; exact I.mod.glob.keeps I.bk) hsu (by rw [I.ok.blt]; exact h1.keeps I.bk) ((h2 _ (by decide)).trans (by first | rfl | decide +kernel | kernel_rfl)) ⟨rfl, ?_⟩)
  refine wpAny_loadName_free I.ok.kind hkc' hcl ⟨_, X0 _ _ lc, rfl⟩ ?_
  obtain ⟨m, hn, hl⟩ := I.loc
  obtain ⟨u, r, l⟩ := hl 0 ar.arg (.ref a) hN hσ (.inl (by rw [henv]; exact hka))
  have hu : u = .ref a := r
  subst hu
  have hm : m ar.arg = some (.ref a) := by
    rcases l with ⟨_, hm⟩ | ⟨hk, _⟩
    · exact hm
    · rw [key, hka] at hk
      rcases hk with hk | hk <;> cases hk
  refine wpAny_loadName_local I.ok.kind ((key _).trans hka) hn hm ?_
  obtain ⟨hh, g, d, t, os⟩ := s
  refine ks_wpAny_isType_cls hD1 hD2 ⟨rfl, ?_⟩
  refine ks_wpAny_call_super hD1 hD2 J.at_ J.cls (fun c e => ?_) (PySem.W.looks_mroIn X0 hsub) (fun h' e k => ?_)
  · have := J.no
    unfold PySem.W.notCls at this
    rw [e] at this
    exact Bool.noConfusion this
  · exact h _ (ClX.pin_new (t' := t) I k (Nat.le_refl _) e fun v z => nomatch z)
end
end DD
set_option Elab.async false
set_option linter.all false
set_option maxRecDepth 100000
set_option maxHeartbeats 4000000
/-! D7: super().__init__(..) in a class, in an own exception; raise. -/
namespace DD
open PySem PySem.Spec PyProof.Rows L2
def SDat (Γ : Ctx) (c : Code) (sts : List Stmt) (ρ : Rho) (μ : Mu) (E : DE) : Prop := ∀ σ H F, At Γ ρ μ σ H → KS (mns H μ) E F → ∀ pins s, Inv Γ.X pins σ H s →
  _root_.PySem.wpAt (model Γ.X.prog Γ.X.w) Γ.X.A c (execs sts Γ.X.env) (SP Γ.X pins F) Γ.X.xe s
section
variable {Γ : Ctx} {c : Code} {e : Expr} {es : List Expr} {st : Stmt} {sts : List Stmt} {ρ : Rho} {μ : Mu} {E : DE} {pos pos2 apos p0 p1 : Pos} {S : SpD} {j k : Nat}
theorem sdat_of (h : SD Γ sts ρ μ E) : SDat Γ c sts ρ μ E := fun σ H F z k pins s I => wpAt_of_wpAny ((h σ H F z k).run pins s I)
theorem sdat_cons (h : S1 Γ st ρ μ { E with nx := fun ρ' μ' => SDat Γ c sts ρ' μ' E }) : SDat Γ c (st :: sts) ρ μ E := fun σ H F z k pins s I => by
  refine ks_wpAt_execs_cons (ks_wpAt_mono (wpAt_of_wpAny ((h σ H { F with nx := fun σ' H' => ∀ s', Inv Γ.X pins σ' H' s' → _root_.PySem.wpAt (model Γ.X.prog Γ.X.w) Γ.X.A c (execs sts Γ.X.env) (SP Γ.X pins F) Γ.X.xe s' } z
    ⟨fun ρ' μ' σ' H' q en r e s' I' => q σ' H' F ⟨en, r, z.up.trans e⟩ (k.up e) pins s' I', k.rt, k.bk, k.ct⟩).run pins s I)) (fun f s' hs => ?_) fun _ _ x => x)
  cases f with
  | next =>
    obtain ⟨σ', H', I', q⟩ := hs
    exact q s' I'
  | brk => exact hs
  | cont => exact hs
  | ret u => exact hs
/-- THE RULE for such a def, over data -/
abbrev gamS (P : Program) (w : World) (K : PySem.W.Frag) (mg : Str → Option Value) (base : Heap) (N : List Str) (qual : Str) (scope : Scope) (f cda cc : Addr) (A : Around) (outer : List Env) (s : Shared) (H : Hp) (E : XK) (G0 : Hp) (ξ : XD) : Ctx :=
  ⟨cxS (L2.CX P w) P w K mg base N qual scope f cda cc A outer s H E, G0, ξ, E⟩
theorem fn_dS {P : Program} {w : World} {K : PySem.W.Frag} {mg : Str → Option Value} {base : Heap} {x qual : Str} {params : Arguments} {body : List Stmt} {scope : Scope} {cc D f cda : Addr} {fd : FuncData} {N ps : List Str} (F : FunS P K x qual params body scope cc D f cda fd) (Sc : FnScopeS N ps scope)
    (len : ∀ ds μ Q ξ, S ds μ Q ξ → ds.length = ps.length)
    (hbody : ∀ A outer s H E G0 ξ, (gamS P w K mg base N qual scope f cda cc A outer s H E G0 ξ).Ok k → ∀ ds μ Q, S ds μ Q ξ →
      SDat (gamS P w K mg base N qual scope f cda cc A outer s H E G0 ξ) (.func body (PySem.W.ksEnv qual scope s.heap.objs.size f (.ref cda) cc)) body (startD N ds) μ { nx := fun _ μ' => Q .non μ', rt := Q }) :
    FnOk P w K mg base (L2.CX P w) (k + 1) f fd ps (spD S) := by
  refine fn_ofS F Sc (fun vs H Q E ⟨ds, μ, Qd, ξ, h1, _, h2, _⟩ => by rw [h1.length]; exact len _ _ _ _ h2) fun A outer s H vs Q E hr ⟨ds, μ, Qd, ξ, h1, h2, h3, h4, h5⟩ s1 I => ?_
  have ok : (gamS P w K mg base N qual scope f cda cc A outer s H E (mns H μ) ξ).Ok k :=
    ⟨rfl, hr, passes_call (takes_of rfl rfl rfl rfl) (fun _ _ _ _ h => h), passes_of rfl, h5, Sc.nd⟩
  refine hbody A outer s H E (mns H μ) ξ ok ds μ Qd h3 (L2.start N vs) H _ ⟨env_start h1, h2, Same.refl _⟩ ⟨fun ρ' μ' σ' H' q en r e => ?_, fun v d μ' H' q i r e => ?_, fun _ _ _ _ q => q.elim, fun _ _ _ _ q => q.elim⟩ [] s1 I
  · exact h4 .non .non μ' H' q rfl r e
  · exact h4 v d μ' H' q i r e
/-- super().m(e, ..) in a class with a dict, m a def of the text -/
structure SupM (K : PySem.W.Frag) (C B f2 : Addr) (m : Str) : Prop where
  sub : PySem.W.mroIn K C (.ref B) = some true
  cd : ∃ cd, PySem.W.clsIn K B = some cd
  ccd : ∃ cd, PySem.W.clsIn K C = some cd
  thp : PySem.W.nsIn K PySem.cStatics "thirdparty.any" = some none
  sup : PySem.W.ks_superIn K C B m = some (some (.ref f2))
  ty : PySem.W.typeIn K (.ref f2) = some (.type "function")
  fi : PySem.W.fnIn K f2 = true
theorem sdat_super {x qual : Str} {params : Arguments} {body : List Stmt} {scope : Scope} {cc C B f cda f2 a dx : Addr} {fd fd2 : FuncData} {ps2 : List Str} {ar : Arg} {m : Str} {ns : List Str} {fs : List D}
    (F : FunS Γ.X.prog Γ.X.K x qual params body scope cc B f cda fd) (ok : Γ.Ok j) (henv : Γ.X.env = PySem.W.ksEnv qual scope Γ.X.env.locals f (.ref cda) cc) (hp : (params.posonlyargs ++ params.args).head? = some ar) (hN : Γ.X.N[0]? = some ar.arg)
    (hρ : ρ[0]? = some (some (.ptr a))) (ha : μ a = some (.ins C dx ns fs)) (T : SupM Γ.X.K C B f2 m) (F2 : FnOk Γ.X.prog Γ.X.w Γ.X.K Γ.X.mg Γ.X.base (L2.CX Γ.X.prog Γ.X.w) k f2 fd2 ps2 (spD S)) (b2 : Binds Γ.X.K fd2 ps2 []) (hk : k ≤ j)
    (hsu : Γ.X.mg "super" = none) (htop : (Γ.X.prog.main.scope.names.lookup ("super" : Str)).isSome = false) (hks : scope.names.lookup ("super" : Str) = some .globalImplicit) (hkc : scope.names.lookup ("__class__" : Str) = some .free) (hka : scope.names.lookup ar.arg = some .local)
    (hat : (m == ("__class__" : Str)) = false)
    (hargs : AD Γ (e :: es) ρ μ fun ds μ1 => S (.ptr a :: ds) μ1 (fun _ μ2 => SDat Γ (.func body Γ.X.env) sts ρ μ2 E) Γ.ξ)
    {pl : Sem Bool} (he : eval (.Call (.Attribute (.Call (.Name "super" p0) [] [] p1) m apos) (e :: es) [] pos) Γ.X.env = (do
      let ov ← attributeBase (.Call (.Name "super" p0) [] [] p1) m Γ.X.env (eval (.Call (.Name "super" p0) [] [] p1) Γ.X.env)
      standAt apos.atName
      let (f, first) ← holding [ov] (getMethod ov m pl)
      callWith pos f first (backTo pos (starEach (e :: es) Γ.X.env)) []) := by rfl)
    (hi : interactive Γ.X.env = false := by rfl) (hs : swapsWith (.Call (.Attribute (.Call (.Name "super" p0) [] [] p1) m apos) (e :: es) [] pos) none pos2.line Γ.X.env = pure false := by rfl)
    (hst : starEach (e :: es) Γ.X.env = (false, eval e Γ.X.env) :: starEach es Γ.X.env := by rfl) (hpl : (backTo pos (starEach es Γ.X.env)).any (·.1) = false := by rfl) :
    SDat Γ (.func body Γ.X.env) (.Expr (.Call (.Attribute (.Call (.Name "super" p0) [] [] p1) m apos) (e :: es) [] pos) pos2 :: sts) ρ μ E := fun σ H F' z kk pins s I => by
  obtain ⟨v, hv, iv⟩ := z.env.2 0 _ hρ
  have hv' : v = .ref a := iv
  subst hv'
  obtain ⟨ho, h1, vs, h2, h3, h4⟩ := z.rep a _ ha
  subst h2
  obtain ⟨od, J⟩ := ins_inst I h1
  obtain ⟨cd, hcd⟩ := T.ccd
  refine ks_wpAt_execs_cons (ks_wpAt_Expr_any (ks_wpAt_MethodCall ?_ he) hi hs)
  refine sup_base F henv hp hN hv I J T.sub T.cd hsu htop hks hkc hka hat fun s' I' => ?_
  have hsup := T.sup
  unfold PySem.W.ks_superIn at hsup
  rw [hcd] at hsup
  have X' := I'.kIn
  obtain ⟨of, hof, hofc⟩ : ∃ of, s'.heap.get? f2 = some of ∧ of.cls = .type "function" := by
    have ht' : (Γ.X.K.lookup f2).map (·.cls) = some (.type "function") := T.ty
    cases z : Γ.X.K.lookup f2 with
    | none => rw [z] at ht'; cases ht'
    | some of => rw [z] at ht'; exact ⟨of, X' _ _ z, Option.some.inj ht'⟩
  have hget := ClX.pin_at I'
  obtain ⟨od2, J2⟩ := ins_inst I' h1
  have hne : a ≠ C := PySem.W.ks_ne X' J2 hcd
  obtain ⟨hh, g, d, t, os⟩ := s'
  refine ks_wpAny_getMethod_super hget (PySem.W.looks_opaque X' T.thp) (l₀ := cd.mro) (fun A Q E s k q => wpAny_bind ((PySem.W.looks_clsIn X' hcd) A _ E s k (wpAny_pure q))) rfl X' hsup hof hofc hne hat ?_
  have I2 : Inv Γ.X ((hh.objs.size, PySem.W.methodObj (.ref f2) (.ref a)) :: _) σ H ⟨hh.push (PySem.W.methodObj (.ref f2) (.ref a)), g, d, t + 1, os⟩ :=
    ClX.pin_new (s := ⟨hh, g, d, t, os⟩) (t' := t + 1) I' (fun _ _ z => Heap.get?_push_of_some _ z) (Nat.le_refl _) (Heap.get?_push_size hh rfl) (fun v z => nomatch z)
  refine ClX.callwith_cm I2 (ClX.base_none I' (Nat.le_refl _)) T.fi (wpAny_mono ((hargs σ H _ z (fun vs2 ds μ' H' q i r e => (⟨ds, μ', q, i, r, e⟩ : ∃ ds μ', S (.ptr a :: ds) μ' (fun _ μ2 => SDat Γ (.func body Γ.X.env) sts ρ μ2 E) Γ.ξ ∧ IsL (mns H' μ') ds vs2 ∧ Rep μ' H' ∧ Same (mns H μ) (mns H' μ')))).run pos _ _ I2) (fun us s3 hh3 => ?_) fun _ _ x => x) hst hpl
  obtain ⟨vs3, H3, I3, rv, ds, μ3, q3, i3, r3, e3⟩ := hh3
  refine ⟨⟨ClX.pin_at I3, I3.kIn⟩, ?_⟩
  have hS : spD S (.ref a :: vs3) H3 (fun v H4 => ∃ μ4, SDat Γ (.func body Γ.X.env) sts ρ μ4 E ∧ Rep μ4 H4 ∧ Same (mns H3 μ3) (mns H4 μ4)) Γ.ek :=
    spD_at (G := mns H3 μ3) ok q3 (.cons (show Is _ (.ptr a) (.ref a) from rfl) i3) r3 (z.up.trans e3) fun v d μ' H' q i r e => ⟨μ', q, r, e⟩
  have hl : (Value.ref a :: us).length = ps2.length := by
    have := F2.len _ _ _ _ hS
    rw [← this, List.length_cons, List.length_cons, rv.length]
  have run : wpAny (model Γ.X.prog Γ.X.w) Γ.X.A (call (.ref hh.objs.size) us) (EP Γ.X ((hh.objs.size, PySem.W.methodObj (.ref f2) (.ref a)) :: (s.heap.objs.size, PySem.W.ks_superObj B a C) :: pins) σ fun v H4 => ∃ μ4, SDat Γ (.func body Γ.X.env) sts ρ μ4 E ∧ Rep μ4 H4 ∧ Same (mns H3 μ3) (mns H4 μ4)) Γ.X.xe s3 := by
    refine wpAny_call (PySem.W.method_call (ClX.pin_at I3) (codeAny_mono (F2.run Γ.X.A Γ.X.stack s3 H3 ⟨.ref a :: us, []⟩ (.ref a :: us) (.ref a :: vs3) _ Γ.ek (ok.room.mono hk) I3.env0 (by
      have := b2 s3 (.ref a :: us) I3.kIn (by rw [List.append_nil]; exact hl)
      rw [List.append_nil] at this
      exact this) (.cons rfl rv) hS) fun r s' hq => ?_))
    cases r with
    | error e => exact ok.pass _ _ _ _ e s' I3 hq
    | ok fl =>
      cases fl with
      | ret u => exact I3.after hq
      | next => exact False.elim hq
      | brk => exact False.elim hq
      | cont => exact False.elim hq
  refine wpAny_mono run (fun u s4 hu => ?_) fun _ _ x => x
  obtain ⟨v4, H4, I4, rv4, μ4, q4, r4, e4⟩ := hu
  have up : Same (mns H μ) (mns H4 μ4) := e3.trans e4
  exact q4 σ H4 F' ⟨z.env.mono up, r4, z.up.trans up⟩ (kk.up up) pins s4 (ClX.unpin (ClX.unpin I4))
end
end DD
set_option Elab.async false
set_option linter.all false
set_option maxRecDepth 100000
set_option maxHeartbeats 4000000
/-! D8: own exceptions whose __init__ says super().__init__(text) and keeps one field; raise. -/
namespace DD
open PySem PySem.Spec PyProof.Rows L2
structure XiC (K : PySem.W.Frag) (C B : Addr) (fld : Str) : Prop where
  ox : OexC K C
  sub : PySem.W.mroIn K C (.ref B) = some true
  cd : ∃ cd, PySem.W.clsIn K B = some cd
  ccd : ∃ cd, PySem.W.clsIn K C = some cd
  ve : PySem.W.subIn K (.ref C) (.type "ValueError") = some true
  sup : PySem.W.ks_superIn K C B "__init__" = some (some (.builtin "ValueError.__init__"))
  thp : PySem.W.nsIn K PySem.cStatics "thirdparty.any" = some none
  no : PySem.W.findIn K (.ref C) fld = some none
def spXI (C : Addr) (fld : Str) : Sp := fun vs H Q _ => ∃ a v, vs = [.ref a, v] ∧ H a = some (exo a C none) ∧ ∀ d, H d = none → d ≠ a → Q .non (upd (upd H d (exd d [(fld, v)])) a (exo a C (some d)))
section
variable {X : Cx} {pins : List (Addr × Obj)} {σ : L2.St} {H : Hp} {s : Shared} {a C u : Addr} {Q : Value → Shared → Prop} {E : Value → Shared → Prop} {A : Around}
/-- the bound ValueError.__init__ called -/
theorem xinit_bound {us : List Value} (T : OexC X.K C) (I : Inv X pins σ H s) (hu : s.heap.get? u = some (PySem.W.kxs_mw "ValueError.__init__" a)) (e : H a = some (exo a C none)) (hl : us.length ≤ sizeLine) (h : ∀ s', Inv X pins σ H s' → Q .none s') :
    wpAny (model X.prog X.w) A (call (.ref u) us) Q E s := by
  obtain ⟨nm, q, N, bs, bm, sn, sub, ab, col, dd, k0, k1, k2, k3, k5, hC, hbm⟩ := T.cls
  obtain ⟨t1, ho⟩ := exo_at I.hok e
  have hC' := I.kIn _ _ hC
  obtain ⟨hh, g, d, tk, os⟩ := s
  refine wpAny_call (codeAny_of_tree ?_)
  show wpAny _ A.in1 (callAny (.ref u) ⟨us, []⟩) _ _ _
  simp only [callAny]
  refine wpAny_bind (wpAny_load hu ?_)
  simp only [PySem.W.kxs_mw, show (Value.type "method-wrapper" == Value.type "method" || Value.type "method-wrapper" == Value.type "builtin_function_or_method" || Value.type "method-wrapper" == Value.type "method-wrapper") = true by decide, if_true]
  refine PySem.W.KFB.if_so (by decide) ?_
  refine wpAny_bind (PySem.W.check_bound_init F.excBase_ValueError.toExcCallFacts hC' ho rfl ?_)
  refine wpAny_bind (wpAny_pure (wpAny_pure ?_))
  refine ⟨plainId_quiet F.excBase_ValueError.init.plain _, codeAny_builtin F.excBase_ValueError.initEntry ?_⟩
  refine PySem.W.exc_init_tree (cls := .ref C) (t0 := t1) (dv := none) (c2 := .none) (c3 := .none) (b4 := .bool false) ho hl fun h' k hx _ => ?_
  have J := I.write (t' := tk) (x := a) (e := a) (o := exo a C none) (by rw [e]; exact True.intro) (.inl rfl) k ⟨_, hx⟩ (exo_ok hx)
  have eu : upd H a (exo a C none) = H := by
    funext b
    by_cases hb : b = a
    · rw [hb, upd_same, e]
    · rw [upd_ne hb]
  rw [eu] at J
  exact h _ J
end
section
variable {P : Program} {w : World} {K : PySem.W.Frag} {mg : Str → Option Value} {base : Heap} {CX : CXT}
theorem fn_xi {qual par m fld : Str} {params : Arguments} {body : List Stmt} {scope : Scope} {cc C B f cda : Addr} {fd : FuncData} {ar : Arg} {p0 p1 p3 p4 p5 p6 pos pos2 apos pc : Pos} {jc : Nat}
    (F : FunS P K "__init__" qual params body scope cc B f cda fd) (Sc : FnScopeS ["self", par] ["self", par] scope) (T : XiC K C B fld) (hb : body = [.Expr (.Call (.Attribute (.Call (.Name "super" p0) [] [] p1) "__init__" apos) [.Constant (.str m) jc pc] [] pos) pos2, .Assign [.Attribute (.Name "self" p3) fld p4] (.Name par p5) p6])
    (hp : (params.posonlyargs ++ params.args).head? = some ar) (har : ar.arg = "self") (hsu : mg "super" = none) (htop : (P.main.scope.names.lookup ("super" : Str)).isSome = false) (hks : scope.names.lookup ("super" : Str) = some .globalImplicit) (hkc : scope.names.lookup ("__class__" : Str) = some .free)
    (hev : ∀ L : Addr, ∃ pl : Sem Bool, eval (.Call (.Attribute (.Call (.Name "super" p0) [] [] p1) "__init__" apos) [.Constant (.str m) jc pc] [] pos) (PySem.W.ksEnv qual scope L f (.ref cda) cc) = (do
      let ov ← attributeBase (.Call (.Name "super" p0) [] [] p1) "__init__" (PySem.W.ksEnv qual scope L f (.ref cda) cc) (eval (.Call (.Name "super" p0) [] [] p1) (PySem.W.ksEnv qual scope L f (.ref cda) cc))
      standAt apos.atName
      let (g, first) ← holding [ov] (getMethod ov "__init__" pl)
      callWith pos g first (backTo pos (starEach [.Constant (.str m) jc pc] (PySem.W.ksEnv qual scope L f (.ref cda) cc))) []))
    (hin : ∀ L : Addr, interactive (PySem.W.ksEnv qual scope L f (.ref cda) cc) = false) (hsw : ∀ L : Addr, swapsWith (.Call (.Attribute (.Call (.Name "super" p0) [] [] p1) "__init__" apos) [.Constant (.str m) jc pc] [] pos) none pos2.line (PySem.W.ksEnv qual scope L f (.ref cda) cc) = pure false)
    (hsw2 : ∀ L : Addr, swapsWith (.Name par p5) (some (.Attribute (.Name "self" p3) fld p4)) p6.line (PySem.W.ksEnv qual scope L f (.ref cda) cc) = pure false)
    (hpd : (par == ("__debug__" : Str)) = false) (hpc : (par == ("__classdict__" : Str)) = false) : FnOk P w K mg base CX 1 f fd ["self", par] (spXI C fld) := by
  have hka : scope.names.lookup ("self" : Str) = some .local := Sc.par _ (by simp)
  have hkp : scope.names.lookup par = some .local := Sc.par _ (by simp)
  refine fn_ofS F Sc (fun vs H Q E ⟨a, v, h, _⟩ => by rw [h]; rfl) fun A outer s H vs Q E hr ⟨a, v, hvs, ha, hq⟩ s1 I => ?_
  subst hvs
  subst hb
  obtain ⟨t1, ho⟩ := exo_at I.hok ha
  have J : PySem.W.InstAt s1.heap a { cls := .ref C, dict := none, data := .fields #[.ref t1, .none, .none, .none, .bool false, .none] } C none := ⟨ho, rfl, rfl, trivial⟩
  obtain ⟨cd, hcd⟩ := T.ccd
  obtain ⟨pl, hpl⟩ := hev s.heap.objs.size
  refine ks_wpAt_execs_cons (ks_wpAt_Expr_any (ks_wpAt_MethodCall (pl := pl) ?_ hpl) (hin _) (hsw _))
  refine sup_base F rfl hp (by rw [har]; rfl) (a := a) rfl I J T.sub T.cd hsu htop hks hkc (by rw [har]; exact hka) (by decide) fun s' I' => ?_
  have hsup := T.sup
  unfold PySem.W.ks_superIn at hsup
  rw [hcd] at hsup
  have X' := I'.kIn
  have hget := ClX.pin_at I'
  obtain ⟨t2, ho2⟩ := exo_at I'.hok ha
  have J2 : PySem.W.InstAt s'.heap a { cls := .ref C, dict := none, data := .fields #[.ref t2, .none, .none, .none, .bool false, .none] } C none := ⟨ho2, rfl, rfl, trivial⟩
  have hI : PySem.W.Looks (model P w) s'.heap (isInstance (.ref a) (.type "ValueError")) true := J2.type.andThen (PySem.W.looks_subIn X' T.ve)
  have hne : a ≠ C := PySem.W.ks_ne X' J2 hcd
  obtain ⟨hh, g, d, t, os⟩ := s'
  refine PySem.W.kxs_getMethod PySem.W.kxs_ValueError hget (PySem.W.looks_opaque X' T.thp) (l₀ := cd.mro) (fun A Q E s k q => wpAny_bind ((PySem.W.looks_clsIn X' hcd) A _ E s k (wpAny_pure q))) rfl X' hsup hI hne (by decide) ?_
  have I2 : Inv (cxS CX P w K mg base ["self", par] qual scope f cda cc A outer s H E) ((hh.objs.size, PySem.W.kxs_mw "ValueError.__init__" a) :: (s1.heap.objs.size, PySem.W.ks_superObj B a C) :: []) (L2.start ["self", par] [.ref a, v]) H ⟨hh.push (PySem.W.kxs_mw "ValueError.__init__" a), g, d, t + 1, os⟩ :=
    ClX.pin_new (s := ⟨hh, g, d, t, os⟩) (t' := t + 1) I' (fun _ _ z => Heap.get?_push_of_some _ z) (Nat.le_refl _) (Heap.get?_push_size hh rfl) (fun v z => nomatch z)
  refine PySem.W.kxs_callWith (i := "ValueError.__init__") (x := a) (by rfl) (Calls.evalArgs_plain ?_)
  have ha0 : PA (cxS CX P w K mg base ["self", par] qual scope f cda cc A outer s H E) [.Constant (.str m) jc pc] (tCons (tC (.str m)) tNil) := pa_cons pe_str pa_nil
  refine thn (ha0.run pos _ _ _ H (fun vs H1 => vs = [V.str m] ∧ H1 = H) I2 ⟨rfl, rfl⟩) fun us s3 ⟨vs3, H3, I3, rv, hv3, hH3⟩ => ?_
  subst hH3
  refine ⟨ClX.pin_at I3, ?_⟩
  subst hv3
  refine xinit_bound T.ox I3 (ClX.pin_at I3) ha (by show us.length ≤ sizeLine; rw [← rv.length]; exact sz1000 (by show 1 ≤ 1000; omega)) fun s4 I4 => ?_
  refine wpAt_of_wpAny ?_
  have hrest : PSs (cxS CX P w K mg base ["self", par] qual scope f cda cc A outer s H3 E) [.Assign [.Attribute (.Name "self" p3) fld p4] (.Name par p5) p6] (tOst K fld (tVar 0) (tVar 1)) :=
    pss_one (ps_ost (pe_var (i := 0) rfl (.inl hka)) (pe_var (i := 1) rfl (.inl hkp) hpd hpc) (hsw2 _))
  refine hrest.run [] s4 _ H3 _ (ClX.unpin (ClX.unpin I4)) ⟨v, rfl, .ref a, rfl, a, C, rfl, T.ox, T.no, .inl ⟨ha, fun d hd hne => hq d hd hne⟩⟩
end

/-! ### raise -/
section
variable {Γ : Ctx} {e : Expr} {ρ : Rho} {μ : Mu} {E : DE} {p p2 pos pos2 : Pos} {j k : Nat} {x m fld : Str} {C B fI : Addr} {bmB : List Value}
theorem exc_ek (ok : Γ.Ok j) {σ : L2.St} {H H' : Hp} {μ' : Mu} {ns : List Str} {es : List D} {d : Option Addr} (z : At Γ ρ μ σ H) (hξ : Γ.ξ C ns es μ') (hx : ExcAt C ns es (mns H' μ') H' (.ref C) d) (r : Rep μ' H') (e : Same (mns H μ) (mns H' μ')) : Γ.ek (.ref C) d H' :=
  ok.exc C ns es μ' H' (.ref C) d hξ hx r (z.up.trans e)
/-- raise C('m'), C without own __init__ -/
theorem s1_raiseT (ok : Γ.Ok j) (tk : Takes Γ.X fun cls d _ H => Γ.ek cls d H) (q : PySem.W.excIn Γ.X.K C ([.type "ValueError", .type "Exception", .type "BaseException", .type "object"]) "ValueError.__new__" = true) (gC : Γ.X.mg x = some (.ref C)) (kC : PySem.W.keepIn Γ.X.K (.ref C) = true)
    (h1 : PySem.W.subIn Γ.X.K (.ref C) (.type "BaseException") = some true) (h2 : PySem.W.typeIn Γ.X.K (.ref C) = some (.type "type")) (hξ : Γ.ξ C [] [] μ) (hg : Gl Γ.X x := by rfl) (hdb : (x == ("__debug__" : Str)) = false := by decide) {jj : Nat} :
    S1 Γ (.Raise (some (.Call (.Name x p) [.Constant (.str m) jj p2] [] pos)) none pos2) ρ μ E :=
  s1_of (ps_raise ok.calm tk (pmk_own F.excBase_ValueError q gC kC (raises_own h1 h2) hg hdb)) fun σ H F z k => exc_ek ok z hξ ⟨rfl, rfl, rfl⟩ z.rep (Same.refl _)
/-- raise C(e), C's __init__ keeping e in its field -/
theorem s1_raiseX {fd : FuncData} {ps : List Str} (ok : Γ.Ok j) (tk : Takes Γ.X fun cls d _ H => Γ.ek cls d H) (T : OexC Γ.X.K C) (iC : PySem.W.findIn Γ.X.K (.ref C) "__init__" = some (some (.ref fI))) (tI : PySem.W.typeIn Γ.X.K (.ref fI) = some (.type "function"))
    (F1 : FnOk Γ.X.prog Γ.X.w Γ.X.K Γ.X.mg Γ.X.base (L2.CX Γ.X.prog Γ.X.w) k fI fd ps (spXI C fld)) (hk : k + 1 ≤ j) (hb : Binds Γ.X.K fd ps []) (hx : Passes (L2.CX Γ.X.prog Γ.X.w) Γ.X (fun _ _ _ => False)) (gC : Γ.X.mg x = some (.ref C))
    (ha : ED Γ e ρ μ fun d μ1 => Γ.ξ C [fld] [d] μ1) (hg : Gl Γ.X x := by rfl) (hdb : (x == ("__debug__" : Str)) = false := by decide) (he : starEach [e] Γ.X.env = (false, eval e Γ.X.env) :: starEach [] Γ.X.env := by rfl) :
    S1 Γ (.Raise (some (.Call (.Name x p) [e] [] pos)) none pos2) ρ μ E :=
  s1_of (ps_raise ok.calm tk (pmk_oex T iC tI F1 (ok.room.mono hk) hb .nil hx hg gC (pa_cons pe_w pa_nil he) hdb he rfl)) fun σ H F z kk => one ha z fun d v μ1 H1 q i r e => by
    refine ⟨by show 1 ≤ 1000; omega, fun a ha0 => ⟨a, v, rfl, upd_same, fun d1 hd1 hne => ⟨rfl, d1, [(fld, v)], upd_same, by rw [upd_ne hne, upd_same], ?_, ?_⟩⟩⟩
    · rw [upd_ne hne] at hd1; exact hd1
    · have hd0 : H1 d1 = none := by rw [upd_ne hne] at hd1; exact hd1
      have hH : upd (del (upd (upd (upd H1 a (exo a C none)) d1 (exd d1 [(fld, v)])) a (exo a C (some d1))) a) d1 (.xd [(fld, v)]) = upd H1 d1 (.xd [(fld, v)]) := by
        funext b
        by_cases h1 : b = d1
        · rw [h1, upd_same, upd_same]
        · rw [upd_ne h1, upd_ne h1]
          by_cases h2 : b = a
          · rw [h2, del_same, ha0]
          · rw [del_ne h2, upd_ne h2, upd_ne h1, upd_ne h2]
      rw [hH]
      exact exc_ek ok z q ⟨rfl, rfl, d1, [v], rfl, upd_same, .cons (i.mono (same_new hd0)) .nil⟩ (rep_new r hd0) (e.trans (same_new hd0))
end
end DD
set_option Elab.async false
set_option linter.all false
set_option maxRecDepth 100000
set_option maxHeartbeats 4000000
/-! D9: the caught exception: isinstance, its field, a def that is called while it is handled; try. -/
namespace DD
open PySem PySem.Spec PyProof.Rows L2
section
open PySem.W PySem.Calls
variable {prog : Program} {w : World} {A : Around} {E : Value → Shared → Prop} {s : Shared} {K : Frag} {x C : Addr} {ox : Obj} {od : Option Obj}
theorem findObj_get {name : Str} {a g : Value} (hc : (clsIn K C).isSome = true) (ha : findIn K (.ref C) name = some (some a)) (hg : specialIn K a "__get__" = some (some g)) (ht : takesIn K a = some true) : findObj K C od name = some (.bind g a) := by
  obtain ⟨cd, hc⟩ := Option.isSome_iff_exists.mp hc
  unfold findObj
  rw [hc, Option.bind_some, ha, Option.bind_some]
  simp [hg, ht]
theorem caught_class {Q : Option Value → Shared → Prop} (T : ExcC K C) (X : K.In s.heap) (I : InstAt s.heap x ox C od) (h : Q (some (.ref C)) { s with toks := s.toks + 1 }) : wpAny (model prog w) A (getAttr? (.ref x) "__class__") Q E s := by
  have hf : findObj K C od "__class__" = some (.bind (.builtin "getset_descriptor.__get__") (.builtin "object.__class__")) := findObj_get (by obtain ⟨cd, hc, _⟩ := any_some T.hd; rw [hc]; rfl) T.ha T.hn T.ht
  obtain ⟨hp, g, d, t, os⟩ := s
  have L0 := I.type (M := model prog w)
  have L1 := looks_findIn (M := model prog w) X T.hg
  have L2 := looks_findIn (M := model prog w) X T.hk
  have L3 := looks_find (M := model prog w) X I hf
  have sub : Looks (model prog w) hp (isInstance (.ref x) (.type "BaseException")) true := L0.andThen (looks_subIn X T.hs)
  have hx0 : (false && onTheHeap (Value.builtin "BaseException.__getattribute__")) = false := rfl
  have hx2 : (Value.builtin "BaseException.__getattribute__" == Value.builtin "object.__getattribute__") = false := by decide +kernel
  have hx1 : (onTheHeap (Value.ref C) && Value.builtin "BaseException.__getattribute__" == Value.builtin "object.__getattribute__") = false := by rw [hx2]; rfl
  unfold getAttr? getAttrBy? getAttrBy
  refine wpAny_bind (wpAny_mkText (wpAny_bind (wpAny_attempt (wpAny_holding (wpAny_bind (L0.at (wpAny_bind (L1.at ?_))))))))
  show wpAny _ _ (if (onTheHeap (Value.ref C) && Value.builtin "BaseException.__getattribute__" == Value.builtin "object.__getattribute__") = true then _ else _) _ _ _
  rw [hx1, if_neg Bool.false_ne_true]
  unfold getAttrByItsOwn hookBefore
  refine wpAny_bind ?_
  rw [if_pos (show onTheHeap (Value.ref C) = true from rfl)]
  refine L2.at ?_
  refine wpAny_bind (wpAny_attempt (wpAny_holding ?_))
  unfold callGetattribute
  rw [hx0, if_neg Bool.false_ne_true]
  unfold boundAndCalled
  rw [PySem.F.excAttr_ValueError.ga.bind (.ref x)]
  refine wpAny_bind (wpAny_pure ?_)
  show wpAny _ _ (call (.builtin "BaseException.__getattribute__") [.ref x, .str "__class__" t]) _ _ _
  refine wpAny_call (codeAny_call_builtin PySem.F.excAttr_ValueError.ga.plain PySem.F.entry_bexc_ga ?_)
  refine @check_slot (model prog w) _ _ ⟨hp, g, d, t + 1, os⟩ "BaseException.__getattribute__" "BaseException" "__getattribute__" (.ref x) [.str "__class__" t] [] _ (by decide +kernel) (by decide +kernel) sub (PySem.F.args_bexc_ga (.ref x) (.str "__class__" t)) ?_
  unfold Builtin.«object.__getattribute__»
  refine wpAny_bind (wpAny_of_eq (a := ((Value.ref x : Value), [Value.str "__class__" t])) (by first | rfl | (simp only [slotArgs]; rfl)) ?_)
  refine wpAny_bind (wpAny_pure (wpAny_bind (L0.at (wpAny_bind (L3.at ?_)))))
  show wpAny _ _ (holding [Value.builtin "object.__class__"] (call (.builtin "getset_descriptor.__get__") [.builtin "object.__class__", .ref x, .ref C]) >>= ret) _ _ _
  refine wpAny_bind (wpAny_holding (wpAny_call (class_get (s := ⟨hp, g, d, t + 1, os⟩) (ox := ox) (od := od) X I T.hm ?_)))
  refine wpAny_pure ?_
  show wpAny _ _ (handedOut (.ref C)) _ _ _
  rw [handedOut_of (v := .ref C) rfl]
  first
    | exact wpAny_pure (wpAny_pure h)
    | exact wpAny_pure h
    | exact wpAny_pure (wpAny_bind (wpAny_pure (wpAny_pure h)))
theorem caught_kitx (T : ExcC K C) : KitX K (.ref x) (.ref C) (fun h => InstAt h x ox C od) where
  ty := fun _ _ _ I => I.type
  it := fun M h X _ => by
    obtain ⟨cdD, hcD, _⟩ := any_some T.hd
    unfold clsIn at hcD
    split at hcD
    · rename_i c' d' cd' sl' ho
      intro A' Q' E' s' k q
      unfold isType loadHead
      exact wpAny_bind (wpAny_loadPart (k _ _ (X _ _ ho)) (wpAny_pure q))
    · cases hcD
  ne := (handS_kitx_exc (x := x) (ox := ox) T.hg T.hk T.hs T.hd T.ha T.hn T.ht T.hm).ne
  ca := fun X I k => caught_class T X I k
end
/-- the exception that is handled: at a, of the class C, its fields -/
structure Caught (Γ : Ctx) (a : Addr) (oe : Obj) (C : Addr) (ns : List Str) (es : List D) : Prop where
  mem : (a, oe) ∈ Γ.X.pn
  fl : ∃ vs, oe.data = .fields vs
  z : ∃ d, Zc (.ref C) d oe ∧ match ns with
    | [] => d = none
    | _ :: _ => ∃ dd ws, d = some dd ∧ Γ.G0 dd = some (.xd (ns.zip ws)) ∧ IsL Γ.G0 es ws
  ec : ExcC Γ.X.K C
section
variable {Γ : Ctx} {e : Expr} {ρ : Rho} {μ : Mu} {E : DE} {p p2 pos : Pos} {j k : Nat} {x m fld y : Str} {a C B : Addr} {oe : Obj} {ns : List Str} {es : List D} {Q : D → Mu → Prop}
theorem caught_inst {pins : List (Addr × Obj)} {σ : L2.St} {H : Hp} {s : Shared} (c : Caught Γ a oe C ns es) (I : Inv Γ.X pins σ H s) (up : Same Γ.G0 H) : ∃ od, PySem.W.InstAt s.heap a oe C od := by
  obtain ⟨d, hz, hd⟩ := c.z
  obtain ⟨vs, hv⟩ := c.fl
  obtain ⟨hget, _⟩ := I.pin (a, oe) (List.mem_append_left _ c.mem)
  have nocls : PySem.W.notCls oe = true := by unfold PySem.W.notCls; rw [hv] <;> rfl
  cases ns with
  | nil =>
    have hd' : d = none := hd
    subst hd'
    exact ⟨none, hget, hz.1, nocls, by rw [hz.2]; trivial⟩
  | cons n ns =>
    obtain ⟨dd, ws, rfl, hx, _⟩ := hd
    have hx : ObjOk Γ.X.prog Γ.X.w H s.heap dd (.xd ((n :: ns).zip ws)) := I.hok dd _ (up _ _ hx)
    obtain ⟨mA, hns, hr⟩ := hx
    obtain ⟨od, ho, hl⟩ := lookIn_ns hns
    exact ⟨some od, hget, hz.1, nocls, by rw [hz.2]; exact ho⟩
theorem cr_isE (c : Caught Γ a oe C ns es) : CallR Γ.X (.builtin "isinstance") (fun xs H Q => ∃ (cv : V) (cu : Value) (b : Bool), xs = [.ref a, cv] ∧ Same Γ.G0 H ∧ (∀ u, RelV cv u → u = cu) ∧ PySem.W.kitOne Γ.X.K (.ref C) cu = some b ∧ Q (.bl b) H) := by
  intro pins s σ H xs us Q I r h
  obtain ⟨cv, cu, b, rfl, up, hcv, e, q⟩ := h
  cases r with
  | cons rx rr =>
    cases rr with
    | cons rt rr =>
      cases rr
      cases rx
      have ec := hcv _ rt
      subst ec
      obtain ⟨od, J⟩ := caught_inst c I up
      exact PySem.W.kia_one (caught_kitx c.ec) I.kIn J e (fun z => nomatch z) fun tk => ⟨.bl b, H, I.kept (t' := tk) fun _ _ z => z, rfl, q⟩
theorem same_ns {H : Hp} (up : Same Γ.G0 (mns H μ)) : Same Γ.G0 H := fun a o e => (mns_at (up a o e)).2
theorem ed_isEB {n : String} (c : Caught Γ a oe C ns es) (hm : Γ.X.mg "isinstance" = none) (hm2 : Γ.X.mg y = none) (ha : ED Γ e ρ μ fun d μ1 => d = .ptr a ∧ ∃ b, PySem.W.kitOne Γ.X.K (.ref C) (.type n) = some b ∧ Q (.bl b) μ1) (hv : bootBuiltins y = some (.type n)) (hg : Gl Γ.X "isinstance" := by rfl) (hg2 : Gl Γ.X y := by rfl)
    (he : starEach [e, .Name y p2] Γ.X.env = (false, eval e Γ.X.env) :: starEach [.Name y p2] Γ.X.env := by rfl) (he2 : starEach [.Name y p2] Γ.X.env = (false, eval (.Name y p2) Γ.X.env) :: starEach [] Γ.X.env := by rfl) (hpl : (backTo pos (starEach [.Name y p2] Γ.X.env)).any (·.1) = false := by rfl)
    (hne : y ≠ "__name__" := by decide) (hdb : (y == ("__debug__" : Str)) = false := by decide) : ED Γ (.Call (.Name "isinstance" p) [e, .Name y p2] [] pos) ρ μ Q :=
  ed_of (pe_callB (cr_isE c) hg hm (by decide +kernel) (pa_cons pe_w (pa_cons (pe_bltn (v := .ty n) hg2 hm2 hv rfl hne hdb) pa_nil he2) he) (by decide) (by decide) he hpl) fun σ H Qv z kk => one ha z fun d u μ1 H1 ⟨hd, b, hb, q⟩ i r e => by
    subst hd
    exact ⟨.ty n, .type n, b, by rw [show u = V.ref a from i], same_ns (z.up.trans e), fun _ z => z, hb, kk _ _ _ _ q rfl r e⟩
theorem ed_isEC (c : Caught Γ a oe C ns es) (hm : Γ.X.mg "isinstance" = none) (hm2 : Γ.X.mg y = some (.ref B)) (ha : ED Γ e ρ μ fun d μ1 => d = .ptr a ∧ ∃ b, PySem.W.kitOne Γ.X.K (.ref C) (.ref B) = some b ∧ Q (.bl b) μ1) (hg : Gl Γ.X "isinstance" := by rfl) (hg2 : Gl Γ.X y := by rfl)
    (he : starEach [e, .Name y p2] Γ.X.env = (false, eval e Γ.X.env) :: starEach [.Name y p2] Γ.X.env := by rfl) (he2 : starEach [.Name y p2] Γ.X.env = (false, eval (.Name y p2) Γ.X.env) :: starEach [] Γ.X.env := by rfl) (hpl : (backTo pos (starEach [.Name y p2] Γ.X.env)).any (·.1) = false := by rfl)
    (hdb : (y == ("__debug__" : Str)) = false := by decide) : ED Γ (.Call (.Name "isinstance" p) [e, .Name y p2] [] pos) ρ μ Q :=
  ed_of (pe_callB (cr_isE c) hg hm (by decide +kernel) (pa_cons pe_w (pa_cons (pe_glob (v := .ref B) hg2 hm2 rfl hdb) pa_nil he2) he) (by decide) (by decide) he hpl) fun σ H Qv z kk => one ha z fun d u μ1 H1 ⟨hd, b, hb, q⟩ i r e => by
    subst hd
    exact ⟨.ref B, .ref B, b, by rw [show u = V.ref a from i], same_ns (z.up.trans e), fun _ z => z, hb, kk _ _ _ _ q rfl r e⟩
/-- e.f -/
theorem ed_xf {d0 : D} {n : Str} (c : Caught Γ a oe C [n] [d0]) (hno : PySem.W.findIn Γ.X.K (.ref C) n = some none) (ha : ED Γ e ρ μ fun d μ1 => d = .ptr a ∧ Q d0 μ1) (hb : attributeBase e n Γ.X.env (eval e Γ.X.env) = eval e Γ.X.env := by rfl) : ED Γ (.Attribute e n pos) ρ μ Q := fun σ H Qv z k => ⟨fun pins s I => by
  refine attr_of hb (thn (pe_w.run pins s σ H (fun v H1 => v = .ref a ∧ ∃ μ1, Q d0 μ1 ∧ Rep μ1 H1 ∧ Same (mns H μ) (mns H1 μ1)) I (one ha z fun d u μ1 H1 ⟨hd, q⟩ i r e => ?_)) fun u s1 hh => ?_)
  · subst hd
    exact ⟨i, μ1, q, r, e⟩
  · obtain ⟨x, H1, I1, rx, ex, μ1, q, r, e⟩ := hh
    subst ex
    obtain rfl : u = Value.ref a := rx
    have up := z.up.trans e
    obtain ⟨d, hz, dd, ws, rfl, hx, hl⟩ := c.z
    obtain ⟨vs, hv⟩ := c.fl
    obtain ⟨hget, _⟩ := I1.pin (a, oe) (List.mem_append_left _ c.mem)
    have nocls : PySem.W.notCls oe = true := by unfold PySem.W.notCls; rw [hv] <;> rfl
    have hx : ObjOk Γ.X.prog Γ.X.w H1 s1.heap dd (.xd ([n].zip ws)) := I1.hok dd _ (same_ns up _ _ hx)
    obtain ⟨mA, hns, hr⟩ := hx
    obtain ⟨od, ho, hlk⟩ := lookIn_ns hns
    obtain ⟨w0, hw0, iw⟩ := hl.mono up |> fun h => (⟨_, (show ([n].zip ws).lookup n = some (ws.head (by obtain ⟨v, r, e, _⟩ := h; rw [e]; simp)) from by obtain ⟨v, r, e, _⟩ := h; subst e; simp [List.lookup]), by obtain ⟨v, r, e, i, _⟩ := h; subst e; exact i⟩ : ∃ w0, ([n].zip ws).lookup n = some w0 ∧ Is (mns H1 μ1) d0 w0)
    obtain ⟨u, hu, ru⟩ := RelO.some_of (v := w0) (o := mA n) (by rw [← hw0]; exact hr n)
    have J : PySem.W.InstAt s1.heap a oe C (some od) := ⟨hget, hz.1, nocls, by rw [hz.2]; exact ho⟩
    exact HandSPX.exc_get I1.kIn J c.ec.hg c.ec.hk c.ec.hs (PySem.W.findObj_own c.ec.hd hno rfl (by rw [hlk, hu])) (handed_of ru) ⟨w0, H1, I1.tok _, ru, k _ _ _ _ q iw r e⟩⟩
end

/-! ### a def called while an exception is handled -/
structure FnHp (P : Program) (w : World) (K : PySem.W.Frag) (mg : Str → Option Value) (base : Heap) (CX : CXT) (k : Nat) (f : Addr) (fd : FuncData) (ps : List Str) (p : Addr × Obj) (sp : Sp) : Prop where
  len : ∀ vs H Q E, sp vs H Q E → vs.length = ps.length
  run : ∀ (A : Around) (outer : List Env) (s : Shared) (H : Hp) (args : Args) (us : List Value) (vs : List V) (Q : VK) (E : XK), L2H.RoomH k A → L2H.PinOk outer H s p → Env0 P w K mg base A outer s H → BindsTo s fd args (ps.zip us) → Vals vs us → sp vs H Q E →
    codeAny (model P w) A (.call (.ref f) args) (CR CX outer P w H s Q E) s
theorem fn_ofHp {CX : CXT} {P : Program} {w : World} {K : PySem.W.Frag} {mg : Str → Option Value} {base : Heap} {k : Nat} {f : Addr} {x qual : Str} {params : Arguments} {body : List Stmt} {scope : Scope} {dvs : List V} {kws : List (Str × V)} {fd : FuncData}
    {N ps : List Str} {sp : Sp} {p : Addr × Obj} (F : FunD K x qual params body scope dvs kws f fd) (S : FnScope N ps scope)
    (len : ∀ vs H Q E, sp vs H Q E → vs.length = ps.length)
    (hbody : ∀ (cdv : Value) (A : Around) (outer : List Env) (s : Shared) (H : Hp) (vs : List V) (Q : VK) (E : XK), L2H.RoomH k (A.deeper (envOfC qual scope s.heap.objs.size f cdv)) → sp vs H Q E →
      ∃ t, PSs (L2H.cxH CX P w K mg base N qual scope f cdv A outer s H E p) body t ∧ t { nx := fun _ H' => Q .non H', rt := Q } (L2.start N vs) H) :
    FnHp P w K mg base CX (k + 1) f fd ps p sp := by
  obtain ⟨oc, od, dV, kV, doc, pm, an, cdv, ct, osl, rfl, lk, hcd, _, _⟩ := F.ex
  refine ⟨len, fun A outer s H args us vs Q E hr hpin e0 hb r hsp => ?_⟩
  have hl := len _ _ _ _ hsp
  have KX : K.In s.heap := e0.mod.kin.keeps fun b o e => (e0.bs b o e).1
  have lim : s.heap.NoLimit := e0.mod.nolimit.keeps fun b o e => (e0.bs b o e).1
  have hkind : ∀ y ∈ ps.zip us, scope.names.lookup y.1 = some .local ∨ (scope.names.lookup y.1 = some .cell ∧ ((cellsFrom (s.heap.objs.size + 1) scope.names []).lookup y.1).isSome = true) := fun ⟨n, v⟩ hy => by
    rcases S.par n (List.of_mem_zip hy).1 with q | q
    · exact .inl q
    · exact .inr ⟨q, PySem.W.cellsFrom_some _ _ _ (.inl q)⟩
  refine codeAny_call_function hr.depth (KX _ _ lk) rfl S.co S.gen rfl (PySem.W.codeRec_of KX hcd) (hb _ _ _ _ ?_)
  refine wpAny_newFunctionEnv_cells S.kind hkind fun env he s1 x => ?_
  subst he
  refine ⟨lim.keeps x.toInCall.keep, codeAny_func ?_⟩
  obtain ⟨t, ht, hq⟩ := hbody cdv A outer s H vs Q E (hr.deeper _) hsp
  have I : Inv (L2H.cxH CX P w K mg base N qual scope f cdv A outer s H E p) [] (L2.start N vs) H s1 := L2H.inv_startH S hpin e0 hl r x
  refine wpAny_mono (ht.run [] s1 (L2.start N vs) H _ I hq) (fun fl s' hs => ?_) fun e s' hs => hs
  have fin : ∀ {σ' : L2.St} {H' : Hp} {v : V} {u : Value}, Inv (L2H.cxH CX P w K mg base N qual scope f cdv A outer s H E p) [] σ' H' s' → RelV v u → Q v H' → CE outer P w H s Q u s' :=
    fun {σ' H' v u} J rv q => ⟨v, H', J.os, J.bare, J.base, J.hok, rv, q⟩
  cases fl with
  | ret u =>
    obtain ⟨v, σ', H', J, rv, q⟩ := hs
    exact fin J rv q
  | next =>
    obtain ⟨σ', H', J, q⟩ := hs
    exact fin (v := V.non) (u := Value.none) J rfl q
  | brk =>
    obtain ⟨_, _, _, q⟩ := hs
    exact False.elim q
  | cont =>
    obtain ⟨_, _, _, q⟩ := hs
    exact False.elim q
/-- the fields of an exception in the heap -/
def XDat (d : Option Addr) (ns : List Str) (es : List D) (G : Hp) : Prop := match ns with
  | [] => d = none
  | _ :: _ => ∃ dd ws, d = some dd ∧ G dd = some (.xd (ns.zip ws)) ∧ IsL G es ws
def spF (a : Addr) (d : Option Addr) (ns : List Str) (es : List D) (r : D) : Sp := fun vs H Q _ => ∃ μ, vs = [.ref a] ∧ Rep μ H ∧ XDat d ns es (mns H μ) ∧ ∀ v H', Is (mns H' μ) r v → Rep μ H' → Same (mns H μ) (mns H' μ) → Q v H'
/-- f called with the caught exception gives r -/
def FaultAt (P : Program) (w : World) (K : PySem.W.Frag) (mg : Str → Option Value) (base : Heap) (k : Nat) (f : Addr) (fd : FuncData) (ps : List Str) (C : Addr) (ns : List Str) (es : List D) (r : D) : Prop :=
  ∀ (p : Addr × Obj) (d : Option Addr), Zc (.ref C) d p.2 → (∃ vs, p.2.data = .fields vs) → FnHp P w K mg base CX0 k f fd ps p (spF p.1 d ns es r)
theorem xdat_of {μ : Mu} {H : Hp} {C : Addr} {ns : List Str} {es : List D} {cls : Value} {d : Option Addr} (r : Rep μ H) (h : ExcAt C ns es (mns H μ) H cls d) : XDat d ns es (mns H μ) := by
  obtain ⟨_, hl, h⟩ := h
  cases ns with
  | nil => exact h
  | cons n ns =>
    obtain ⟨dd, ws, h1, h2, h3⟩ := h
    refine ⟨dd, ws, h1, ?_, h3⟩
    cases e : μ dd with
    | none => rw [mns_none e]; exact h2
    | some m =>
      obtain ⟨u, hu, hm⟩ := r dd m e
      rw [h2] at hu
      cases hu
      cases m with
      | lst xs => obtain ⟨_, e, _⟩ := hm; cases e
      | ins C dx ns ds => obtain ⟨_, e, _⟩ := hm; cases e
/-- x(e) in the suite -/
theorem pe_callHp {X : Cx} {k : Nat} {f : Addr} {fd : FuncData} {ps : List Str} {sp : Sp} {x : Str} {p0 : Addr × Obj} {e : Expr} {q pos : Pos} {t : TA} (F : FnHp X.prog X.w X.K X.mg X.base CX0 k f fd ps p0 sp) (hr : L2H.RoomH k X.A) (hp : p0 ∈ X.pn) (hg : Gl X x) (hm : X.mg x = some (.ref f)) (hk : PySem.W.keepIn X.K (.ref f) = true) (hb : Binds X.K fd ps [])
    (ha : PA X [e] t) (hdb : (x == ("__debug__" : Str)) = false := by decide) (he : starEach [e] X.env = (false, eval e X.env) :: starEach [] X.env := by rfl) :
    PE X (.Call (.Name x q) [e] [] pos) (fun σ H Q => t σ H fun vs H1 => sp vs H1 Q E0) := by
  refine ⟨fun pins s σ H Q I h => ?_⟩
  refine wpAny_Call_Name_kw (ld_glob I hg hm ?_ hdb)
  refine PySem.W.callWith_K (h₀ := X.base) I.ok.mod.kin hk (thn (ha.run pos pins s σ H _ I h) fun us s1 ⟨vs, H1, I1, r, q⟩ => ⟨I1.kIn, ?_⟩) he rfl
  have hl : us.length = ps.length := by rw [← r.length]; exact F.len _ _ _ _ q
  have b := hb s1 us I1.kIn (by rw [List.append_nil]; exact hl)
  rw [List.append_nil] at b
  have P1 := I1.pin p0 (List.mem_append_left _ hp)
  have hpin : L2H.PinOk X.stack H1 s1 p0 := ⟨P1.1, P1.2.1, fun hm => (List.mem_cons.mp (I1.stkSub p0.1 hm)).elim P1.2.2.1 P1.2.2.2.1, P1.2.2.2.2⟩
  refine wpAny_call (codeAny_mono (F.run X.A X.stack s1 H1 ⟨us, []⟩ us vs Q E0 hr hpin I1.env0 b r q) fun r s' hq => ?_)
  cases r with
  | error e => exact False.elim hq
  | ok fl =>
    cases fl with
    | ret u => exact I1.after hq
    | next => exact False.elim hq
    | brk => exact False.elim hq
    | cont => exact False.elim hq
theorem takes_len {X : Cx} {W : WX} (t : Takes X W) : Takes X (fun c d σ H => σ.length = X.N.length → W c d σ H) := fun u s' ⟨a, B, sI, pins, σ, H, cls, d, e, I, nb, up, sky, na, os, ag, w⟩ =>
  t u s' ⟨a, B, sI, pins, σ, H, cls, d, e, I, nb, up, sky, na, os, ag, w I.len⟩
/-- try: body; except x as n: return f(n), where all that the body raises is caught -/
theorem s1_tryF {Γ : Ctx} {ρ : Rho} {μ : Mu} {E : DE} {j k : Nat} (i : Nat) {x n fx : Str} {W f : Addr} {fd : FuncData} {ps : List Str} {body : List Stmt} {np pos pos' pr pc pn pnn : Pos} (ok : Γ.Ok j) (hs : Γ.X.stack = Γ.X.env :: Γ.X.outer) (hf : Γ.X.env.frame = some Γ.X.env.locals)
    (hi : Γ.X.N[i]? = some n) (hln : Γ.X.env.kindOf n = some .local) (hnd : (n == ("__debug__" : Str)) = false) (hnc : (n == ("__classdict__" : Str)) = false) (hc : Names Γ.X x (.ref W)) (ξ' : XD)
    (hbody : ∀ pn xe G0 ek, (Ctx.mk (Γ.X.tr pn xe) G0 ξ' ek).Ok j → Takes (Γ.X.tr pn xe) (fun cls d _ H => ek cls d H) → SD (Ctx.mk (Γ.X.tr pn xe) G0 ξ' ek) body ρ μ E)
    (hx : ∀ C ns es μ', ξ' C ns es μ' → PySem.W.exmOne Γ.X.K (.ref C) (.ref W) = some true ∧ ∃ r, FaultAt Γ.X.prog Γ.X.w Γ.X.K Γ.X.mg Γ.X.base k f fd ps C ns es r ∧ E.rt r μ')
    (hk : k ≤ j) (hg : Gl Γ.X fx) (hm : Γ.X.mg fx = some (.ref f)) (hkp : PySem.W.keepIn Γ.X.K (.ref f) = true) (hb : Binds Γ.X.K fd ps []) (hdb : (fx == ("__debug__" : Str)) = false) (hst : starEach [.Name n pnn] Γ.X.env = (false, eval (.Name n pnn) Γ.X.env) :: starEach [] Γ.X.env := by rfl) :
    S1 Γ (.Try body [.ExceptHandler (some (.Name x np)) (some n) [.Return (some (.Call (.Name fx pc) [.Name n pnn] [] pn)) pr] pos'] [] [] pos) ρ μ E := fun σ H F z kk => by
  have hlen : i < Γ.X.N.length := (List.getElem?_eq_some_iff.mp hi).1
  have hvis : Vis Γ.X.env.scope n := .inl hln
  have T := ps_try_as (X := Γ.X) (x := x) (n := n) (c := .ref W) (i := i) (body := body) (suite := []) (b₀ := .Return (some (.Call (.Name fx pc) [.Name n pnn] [] pn)) pr) (np := np) (pos := pos) (pos' := pos') (Wout := fun _ _ _ _ => False)
    (tb := fun Wx F σ H => ∀ pn xe, Takes (Γ.X.tr pn xe) Wx → PassesOwn (model Γ.X.prog Γ.X.w) Γ.X.A Γ.X.env xe → wSs (Γ.X.tr pn xe) body F σ H)
    (ts := fun a cls d F σ H => ∀ (oe : Obj) (pl : List (Addr × Obj)), Zc cls d oe → (∃ vs, oe.data = .fields vs) → wSs (Γ.X.suite a ((a, oe) :: pl)) [.Return (some (.Call (.Name fx pc) [.Name n pnn] [] pn)) pr] F σ H)
    hs hf ok.nd hi hln hc (fun u s' ⟨_, _, _, _, _, _, _, _, _, _, _, _, _, _, _, _, h⟩ => h.elim)
    (fun Wx pl xe tk po => ⟨fun pins s σ H F I h => (h pl xe tk po).run pins s I⟩) (fun a oe cls d pl hz hv => ⟨fun pins s σ H F I h => (h oe pl hz hv).run pins s I⟩)
  refine (⟨fun pins s I => T.run pins s σ H F I ?_⟩ : wS Γ.X _ F σ H)
  intro pl xe tk po
  have tl := takes_len tk
  refine hbody pl xe (mns H μ) (fun cls d H' => ∀ σ', σ'.length = (Γ.X.tr pl xe).N.length → wAs Γ.X.K (.ref W) i (fun a cls d F σ H => ∀ (oe : Obj) (pl : List (Addr × Obj)), Zc cls d oe → (∃ vs, oe.data = .fields vs) → wSs (Γ.X.suite a ((a, oe) :: pl)) [.Return (some (.Call (.Name fx pc) [.Name n pnn] [] pn)) pr] F σ H) (fun _ _ _ _ => False) F cls d σ' H')
    ⟨ok.calm, ok.room, passes_call tl fun cls d σ H h => h σ, po, fun C ns es μ' H' cls d hξ hx' r up => ?_, ok.nd⟩ (tl.imp fun c d σ H h => h σ) σ H F ⟨z.env, z.rep, Same.refl _⟩ kk
  intro σ' hl'
  obtain ⟨hex, rr, hfa, hrt⟩ := hx C ns es μ' hξ
  have hcls : cls = .ref C := hx'.1
  subst hcls
  refine ⟨true, hex, fun _ a ha oe pl2 hz hv => ?_, fun h => nomatch h⟩
  have P : PSs (Γ.X.suite a ((a, oe) :: pl2)) [.Return (some (.Call (.Name fx pc) [.Name n pnn] [] pn)) pr] _ :=
    pss_one (ps_ret (pe_callHp (hfa (a, oe) d hz hv) ((L2H.roomH_of (ok.room.mono hk) : L2H.RoomH k Γ.X.A) |> fun h => ⟨h.dp, h.un⟩) (List.mem_cons_self ..) hg hm hkp hb (pa_cons (pe_var hi hvis hnd hnc) pa_nil hst) hdb hst))
  refine ⟨fun pins s I => P.run pins s _ H' _ I ?_⟩
  refine ⟨.ref a, List.getElem?_set_self (by rw [hl']; exact hlen), ?_⟩
  exact ⟨μ', rfl, r, xdat_of r hx', fun v H'' iv r2 s2 => kk.rt v rr μ' H'' hrt iv r2 (up.trans s2)⟩
end DD
set_option Elab.async false
set_option linter.all false
set_option maxRecDepth 100000
set_option maxHeartbeats 4000000
/-! D10: class constants, classmethods, classes as values, keywords, own operators, own subscripts, list(own), slices, == of lists. -/
namespace DD
open PySem PySem.Spec PyProof.Rows L2
section
variable {P : Program} {w : World} {K : PySem.W.Frag} {mg : Str → Option Value} {base : Heap}
/-- fn_d with what a raise wants -/
theorem fn_dx {x qual : Str} {params : Arguments} {body : List Stmt} {scope : Scope} {dvs : List V} {kws : List (Str × V)} {f : Addr} {fd : FuncData} {N ps : List Str} {k : Nat} {S : SpD} (F : FunD K x qual params body scope dvs kws f fd) (Sc : FnScope N ps scope)
    (len : ∀ ds μ Q ξ, S ds μ Q ξ → ds.length = ps.length)
    (hbody : ∀ cdv A outer s H E G0 ξ, (gam P w K mg base N qual scope f cdv A outer s H E G0 ξ).Ok k → Takes (gam P w K mg base N qual scope f cdv A outer s H E G0 ξ).X (fun cls d _ H => E cls d H) → (gam P w K mg base N qual scope f cdv A outer s H E G0 ξ).X.stack = (gam P w K mg base N qual scope f cdv A outer s H E G0 ξ).X.env :: (gam P w K mg base N qual scope f cdv A outer s H E G0 ξ).X.outer →
      ∀ ds μ Q, S ds μ Q ξ → SD (gam P w K mg base N qual scope f cdv A outer s H E G0 ξ) body (startD N ds) μ { nx := fun _ μ' => Q .non μ', rt := Q }) :
    FnOk P w K mg base (L2.CX P w) (k + 1) f fd ps (spD S) :=
  fn_d F Sc len fun cdv A outer s H E G0 ξ ok ds μ Q h => hbody cdv A outer s H E G0 ξ ok (takes_of rfl rfl rfl rfl) rfl ds μ Q h
end
theorem FnOk.spDk {P : Program} {w : World} {K : PySem.W.Frag} {mg : Str → Option Value} {base : Heap} {f : Addr} {fd : FuncData} {ps : List Str} {j k : Nat} {S : SpD} (F : FnOk P w K mg base (L2.CX P w) j f fd ps (spD S)) (h : j ≤ k) : FnOk P w K mg base (L2.CX P w) k f fd ps (spD S) := F.mono h
theorem fnR_of {P : Program} {w : World} {K : PySem.W.Frag} {mg : Str → Option Value} {base : Heap} {CX : CXT} {k : Nat} {f : Addr} {fd : FuncData} {ps : List Str} {sp : Sp} (F : FnOk P w K mg base CX k f fd ps sp) (hb : Binds K fd ps []) : FnR P w K mg base CX k f sp := fun A outer s H us vs Q E hr e0 r h =>
  F.run A outer s H ⟨us, []⟩ us vs Q E hr e0 (by
    have hl : us.length = ps.length := by rw [← r.length]; exact F.len _ _ _ _ h
    have b := hb s us (e0.mod.kin.keeps fun b o e => (e0.bs b o e).1) (by rw [List.append_nil]; exact hl)
    rw [List.append_nil] at b
    exact b) r h
/-- a classmethod -/
structure CMd (P : Program) (w : World) (K : PySem.W.Frag) (mg : Str → Option Value) (base : Heap) (k : Nat) (C : Addr) (m : Str) (S : SpD) : Prop where
  ex : ∃ mc p g, ClX.CRead K C mc ∧ ClX.CMet K C mc m p g ∧ FnR P w K mg base (L2.CX P w) k g (spD S)
/-- C(e, .., k = v): one keyword -/
structure Kd (P : Program) (w : World) (K : PySem.W.Frag) (mg : Str → Option Value) (base : Heap) (k : Nat) (x : Str) (C : Addr) (n : Nat) (nm : Str) (S : SpD) : Prop where
  ex : ∃ f fd ps g gV, mg x = some (.ref C) ∧ Mk K C f ∧ KBn K fd ps (n + 1) [nm] g gV ∧ (∀ (vs : List V) (z : V), vs.length = n + 1 → gV vs [z] = vs ++ [z]) ∧ FnOk P w K mg base (L2.CX P w) k f fd ps (spD S)
/-- a class that a name holds -/
structure Vd (P : Program) (w : World) (K : PySem.W.Frag) (mg : Str → Option Value) (base : Heap) (k : Nat) (C : Addr) (S : SpD) : Prop where
  ex : ∃ f fd ps, Mk K C f ∧ Binds K fd ps [] ∧ FnOk P w K mg base (L2.CX P w) k f fd ps (spD S)
section
variable {Γ : Ctx} {e a b c o value : Expr} {es : List Expr} {st : Stmt} {sts u1 u2 body : List Stmt} {ρ : Rho} {μ : Mu} {Q : D → Mu → Prop} {R : Bool → Mu → Prop} {E : DE} {pos apos : Pos} {k j : Nat} {x f m nm : Str} {p : Pos} {S : SpD} {C : Addr}
/-- C.f, a constant -/
theorem ed_cval {d : D} {mc u : Value} {v : V} (hm : Γ.X.mg x = some (.ref C)) (r : ClX.CRead Γ.X.K C mc) (kv : ClX.CVal Γ.X.K C mc f v u) (hd : ∀ G, Is G d v) (q : Q d μ) (hg : Gl Γ.X x := by rfl) (hdb : (x == ("__debug__" : Str)) = false := by decide)
    (hb : attributeBase (.Name x p) f Γ.X.env (eval (.Name x p) Γ.X.env) = eval (.Name x p) Γ.X.env := by rfl) : ED Γ (.Attribute (.Name x p) f pos) ρ μ Q :=
  ed_of (ClX.pe_cval (pe_glob (v := .ref C) hg hm rfl hdb) hb) fun σ H Qv z kk => ⟨C, mc, v, u, rfl, r, kv, kk.here z.rep q (hd _)⟩
/-- C.m(e, ..), a classmethod -/
theorem ed_cmeth {pl : Sem Bool} (hm : Γ.X.mg x = some (.ref C)) (F : CMd Γ.X.prog Γ.X.w Γ.X.K Γ.X.mg Γ.X.base k C m S) (ok : Γ.Ok j) (ha : AD Γ (e :: es) ρ μ fun ds μ1 => S (.ptr C :: ds) μ1 Q Γ.ξ) (hk : k ≤ j := by decide) (hg : Gl Γ.X x := by rfl) (hdb : (x == ("__debug__" : Str)) = false := by decide)
    (hst : starEach (e :: es) Γ.X.env = (false, eval e Γ.X.env) :: starEach es Γ.X.env := by rfl) (hpl : (backTo pos (starEach es Γ.X.env)).any (·.1) = false := by rfl)
    (ht : eval (.Call (.Attribute (.Name x p) m apos) (e :: es) [] pos) Γ.X.env = (do
      let ov ← eval (.Name x p) Γ.X.env
      standAt apos.atName
      let (f, first) ← holding [ov] (getMethod ov m pl)
      callWith pos f first (backTo pos (starEach (e :: es) Γ.X.env)) (backToKw pos (keywordEach [] Γ.X.env))) := by rfl) : ED Γ (.Call (.Attribute (.Name x p) m apos) (e :: es) [] pos) ρ μ Q := by
  obtain ⟨mc, pp, g, h1, h2, h3⟩ := F.ex
  exact ed_of (ClX.pe_cmeth (pe_glob (v := .ref C) hg hm rfl hdb) h1 h2 h3 (ok.room.mono hk) ok.pass pa_w hst hpl ht) fun σ H Qv z kk => ⟨rfl, ha σ H _ z fun vs ds μ1 H1 q i r e => spD_at (G := mns H1 μ1) ok q (.cons (show Is _ (.ptr C) (.ref C) from rfl) i) r (z.up.trans e) (kk.up e)⟩
/-- what a new instance wants -/
abbrev MakeQ (Γ : Ctx) (C : Addr) (S : SpD) (ds : List D) (μ1 : Mu) (Q : D → Mu → Prop) : Prop := ∀ q dx, μ1 q = none →
      S (.ptr q :: ds) (mset μ1 q (.ins C dx [] [])) (fun v μ' => v = .non ∧ Q (.ptr q) μ') fun C' ns es' μ' => Γ.ξ C' ns es' (mdel μ' q)
theorem make_sp (ok : Γ.Ok j) {σ : L2.St} {H H1 : Hp} {μ1 : Mu} {Qv : VK} {vs : List V} {ds : List D} (z : At Γ ρ μ σ H) (kk : KE (mns H μ) Q Qv) (q : MakeQ Γ C S ds μ1 Q) (i : IsL (mns H1 μ1) ds vs) (r : Rep μ1 H1) (e : Same (mns H μ) (mns H1 μ1)) :
    ∀ x dx, H1 x = none → H1 dx = none → dx ≠ x → spD S (.ref x :: vs) (upd (upd H1 dx (.own x)) x (.ins C dx [])) (fun v H3 => v = .non ∧ Qv (.ref x) H3) Γ.ek := fun y dx hy hdx hne => by
  have u1 : upd H1 dx (.own y) y = none := by rw [upd_ne (Ne.symm hne)]; exact hy
  have s1 : Same (mns H1 μ1) (mns (upd H1 dx (.own y)) μ1) := same_new hdx
  have r1 := rep_new (o := .own y) r hdx
  have hm : IsM (mns (upd H1 dx (.own y)) μ1) (.ins C dx [] []) (.ins C dx []) := ⟨[], rfl, rfl, rfl⟩
  have r2 := rep_newM r1 u1 hm
  have s2 : Same (mns H1 μ1) (mns (upd (upd H1 dx (.own y)) y (.ins C dx [])) (mset μ1 y (.ins C dx [] []))) := s1.trans (same_newM u1)
  refine ⟨_, _, _, _, IsL.cons (show Is _ (.ptr y) (.ref y) from rfl) (i.mono s2), r2, q y dx (r.fresh hy), ?_, ?_⟩
  · intro v d μ' H' ⟨hv, qq⟩ iv r' e'
    subst hv
    exact ⟨iv, kk _ _ _ _ qq rfl r' (e.trans (s2.trans e'))⟩
  · intro C' ns es' μ2 H2 cls d hξ hx r3 e3
    exact ok.exc C' ns es' (mdel μ2 y) H2 cls d hξ (by
      obtain ⟨x1, x2, x3⟩ := hx
      refine ⟨x1, x2, ?_⟩
      cases ns with
      | nil => exact x3
      | cons n ns =>
        obtain ⟨dd, vs, y1, y2, y3⟩ := x3
        exact ⟨dd, vs, y1, y2, y3.mono same_del⟩) (rep_del r3) ((z.up.trans e).trans ((s2.trans e3).trans same_del))
/-- C(e, .., k = v) -/
theorem ed_makeK {ev : Expr} {kp : Pos} {n : Nat} (F : Kd Γ.X.prog Γ.X.w Γ.X.K Γ.X.mg Γ.X.base k x C n nm S) (ok : Γ.Ok j) (ha : AD Γ (e :: es) ρ μ fun ds μ1 => ED Γ ev ρ μ1 fun d μ2 => ds.length = n ∧ MakeQ Γ C S (ds ++ [d]) μ2 Q)
    (hk : k + 1 ≤ j := by decide) (hg : Gl Γ.X x := by rfl) (hdb : (x == ("__debug__" : Str)) = false := by decide)
    (hall : (backToKw pos (keywordEach [⟨some nm, ev, kp⟩] Γ.X.env)).all (·.1.isSome) = true := by rfl) (hks : (backToKw pos (keywordEach [⟨some nm, ev, kp⟩] Γ.X.env)).filterMap (·.1) = [nm] := by rfl)
    (he : starEach (e :: es) Γ.X.env = (false, eval e Γ.X.env) :: starEach es Γ.X.env := by rfl) (hpl : ((backTo pos (starEach (e :: es) Γ.X.env)).any (·.1) || (backToKw pos (keywordEach [⟨some nm, ev, kp⟩] Γ.X.env)).any (·.1.isNone)) = false := by rfl) : ED Γ (.Call (.Name x p) (e :: es) [⟨some nm, ev, kp⟩] pos) ρ μ Q := by
  obtain ⟨f, fd, ps, g, gV, h1, h2, h3, h5, h4⟩ := F.ex
  refine ed_of (pe_makeN h2 h4 (ok.room.mono hk) hg h1 h3 ok.pass pa_w (pk_cons pe_w pk_nil) hall hks hdb he hpl) fun σ H Qv z kk => ha σ H _ z fun vs ds μ1 H1 q i r e => ?_
  refine one q (z.go r e) fun d v μ2 H2 ⟨hl, q2⟩ iv r2 e2 => ?_
  have hl2 : vs.length = n := by rw [i.length, hl]
  refine ⟨hl2, rfl, fun x dx h1 h2 h3 => ?_⟩
  rw [h5 (.ref x :: vs) v (by rw [List.length_cons, hl2])]
  have := make_sp (vs := vs ++ [v]) ok z kk q2 (IsL.append (i.mono e2) (.cons iv .nil)) r2 (e.trans e2) x dx h1 h2 h3
  exact this
/-- C(..), C held by a name -/
theorem ed_makeV (i : Nat) (F : Vd Γ.X.prog Γ.X.w Γ.X.K Γ.X.mg Γ.X.base k C S) (ok : Γ.Ok j) (hρ : ρ[i]? = some (some (.ptr C))) (ha : AD Γ (e :: es) ρ μ fun ds μ1 => MakeQ Γ C S ds μ1 Q) (hk : k + 1 ≤ j := by decide) (hN : Γ.X.N[i]? = some x := by rfl) (hv : Vis Γ.X.env.scope x := by exact Or.inl rfl)
    (hdb : (x == ("__debug__" : Str)) = false := by decide) (hcd : (x == ("__classdict__" : Str)) = false := by decide)
    (he : starEach (e :: es) Γ.X.env = (false, eval e Γ.X.env) :: starEach es Γ.X.env := by rfl) (hpl : (backTo pos (starEach es Γ.X.env)).any (·.1) = false := by rfl) : ED Γ (.Call (.Name x p) (e :: es) [] pos) ρ μ Q := fun σ H Qv z kk => ⟨fun pins s I => by
  obtain ⟨f, fd, ps, h2, h3, h4⟩ := F.ex
  obtain ⟨v, hv1, hv2⟩ := z.env.2 i _ hρ
  have hv3 : v = .ref C := hv2
  subst hv3
  refine wpAny_Call_Name_kw (thn ((pe_var (pos := p) (i := i) hN hv hdb hcd).run pins s σ H (fun v H1 => v = .ref C ∧ H1 = H) I ⟨.ref C, hv1, rfl, rfl⟩) fun u s1 ⟨v, H1, I1, r1, ev, eH⟩ => ?_)
  subst ev
  subst eH
  cases r1
  refine PySem.W.callWith_K (h₀ := Γ.X.base) I.ok.mod.kin h2.kp (thn (pa_w.run pos pins s1 σ H1 (fun vs H2 => ∀ x dx, H2 x = none → H2 dx = none → dx ≠ x → spD S (.ref x :: vs) (upd (upd H2 dx (.own x)) x (.ins C dx [])) (fun v H3 => v = .non ∧ Qv (.ref x) H3) Γ.ek) I1 (ha σ H1 _ z fun vs ds μ1 H2 q i r e => make_sp ok z kk q i r e)) fun us s2 ⟨vs, H2, I2, r, q⟩ => ⟨I2.kIn, ?_⟩) he hpl
  exact run_make h2 h4 (ok.room.mono hk) h3 (dvs := []) .nil ok.pass I2 r (by rw [List.append_nil]; exact q)⟩
/-- a op b, instances of one class -/
theorem ed_opO {op : Operator} (F : Md Γ.X.prog Γ.X.w Γ.X.K Γ.X.mg Γ.X.base k C (PySem.dunder op.info.2) S) (hc : PySem.W.selfFirst Γ.X.K C = true) (ok : Γ.Ok j)
    (ha : ED Γ a ρ μ fun x μ1 => ED Γ b ρ μ1 fun y μ2 => ∃ ns fs ns' fs', insOf μ2 x = some (C, ns, fs) ∧ insOf μ2 y = some (C, ns', fs') ∧ S [x, y] μ2 Q Γ.ξ) (hk : k ≤ j := by decide) : ED Γ (.BinOp a op b pos) ρ μ Q := by
  obtain ⟨f, fd, ps, h1, h2, h3, h4⟩ := F.ex
  exact ed_of (pe_op (op_own h4 (ok.room.mono hk) h3 ok.pass hc h1.at_ h1.fn) pe_w pe_w) fun σ H Qv z kk => two ha z fun x y u v μ' H' ⟨ns, fs, ns', fs', hx, hy, q⟩ ix iy r e => by
    obtain ⟨p1, dx1, vs1, e1, e2, _, _⟩ := ins_at r ix hx
    obtain ⟨p3, dx3, vs3, e3, e4, _, _⟩ := ins_at r iy hy
    exact ⟨p1, p3, dx1, dx3, _, _, e1, e3, e2, e4, spD_at (G := mns H' μ') ok q (.cons ix (.cons iy .nil)) r (z.up.trans e) (kk.up e)⟩
/-- instance op int -/
theorem ed_opOI {op : Operator} {fo ro rc : Option Value} (F : Md Γ.X.prog Γ.X.w Γ.X.K Γ.X.mg Γ.X.base k C (PySem.dunder op.info.2) S) (hc : PySem.W.selfFirst Γ.X.K C = true) (ok : Γ.Ok j) (hr2 : PySem.W.findIn Γ.X.K (.ref C) (PySem.dunderR op.info.2) = some rc) (hp : rc = none ∨ ∃ g : Addr, rc = some (.ref g))
    (h1 : PySem.W.findIn Γ.X.K (.type "int") (PySem.dunder op.info.2) = some fo) (h2 : PySem.W.findIn Γ.X.K (.type "int") (PySem.dunderR op.info.2) = some ro) (hsub : PySem.W.subIn Γ.X.K (.type "int") (.ref C) = some false)
    (ha : ED Γ a ρ μ fun x μ1 => ED Γ b ρ μ1 fun y μ2 => ∃ ns fs i, insOf μ2 x = some (C, ns, fs) ∧ y = .int i ∧ S [x, y] μ2 Q Γ.ξ) (hk : k ≤ j := by decide) : ED Γ (.BinOp a op b pos) ρ μ Q := by
  obtain ⟨f, fd, ps, m1, m2, m3, m4⟩ := F.ex
  exact ed_of (pe_op (op_ownI m4 (ok.room.mono hk) m3 ok.pass hc m1.at_ m1.fn hr2 hp h1 h2 hsub) pe_w pe_w) fun σ H Qv z kk => two ha z fun x y u v μ' H' ⟨ns, fs, i, hx, hy, q⟩ ix iy r e => by
    subst hy
    obtain ⟨p1, dx1, vs1, e1, e2, _, _⟩ := ins_at r ix hx
    exact ⟨p1, i, dx1, _, e1, iy, e2, spD_at (G := mns H' μ') ok q (.cons ix (.cons iy .nil)) r (z.up.trans e) (kk.up e)⟩
/-- int - instance -/
theorem ed_rsub {g : Addr} (F : Md Γ.X.prog Γ.X.w Γ.X.K Γ.X.mg Γ.X.base k C (PySem.dunderR "sub") S) (hc : PySem.W.selfFirst Γ.X.K C = true) (ok : Γ.Ok j) (hs2 : PySem.W.findIn Γ.X.K (.ref C) (PySem.dunder "sub") = some (some (.ref g))) (hsub : PySem.W.subIn Γ.X.K (.ref C) (.type "int") = some false)
    (ha : ED Γ a ρ μ fun x μ1 => ED Γ b ρ μ1 fun y μ2 => ∃ ns fs i, x = .int i ∧ insOf μ2 y = some (C, ns, fs) ∧ S [y, x] μ2 Q Γ.ξ) (hk : k ≤ j := by decide) : ED Γ (.BinOp a .Sub b pos) ρ μ Q := by
  obtain ⟨f, fd, ps, m1, m2, m3, m4⟩ := F.ex
  exact ed_of (pe_op (op_rsub m4 (ok.room.mono hk) m3 ok.pass hc m1.at_ m1.fn hs2 hsub) pe_w pe_w) fun σ H Qv z kk => two ha z fun x y u v μ' H' ⟨ns, fs, i, hx, hy, q⟩ ix iy r e => by
    subst hx
    obtain ⟨p1, dx1, vs1, e1, e2, _, _⟩ := ins_at r iy hy
    exact ⟨p1, i, dx1, _, ix, e1, e2, spD_at (G := mns H' μ') ok q (.cons iy (.cons ix .nil)) r (z.up.trans e) (kk.up e)⟩
/-- -instance -/
theorem ed_negO (F : Md Γ.X.prog Γ.X.w Γ.X.K Γ.X.mg Γ.X.base k C "__neg__" S) (ok : Γ.Ok j) (ha : ED Γ a ρ μ fun x μ1 => ∃ ns fs, insOf μ1 x = some (C, ns, fs) ∧ S [x] μ1 Q Γ.ξ) (hk : k ≤ j := by decide) : ED Γ (.UnaryOp .USub a pos) ρ μ Q := by
  obtain ⟨f, fd, ps, m1, m2, m3, m4⟩ := F.ex
  exact ed_of (pe_un (un_own m4 (ok.room.mono hk) m3 ok.pass m1.at_ m1.fn) pe_w) fun σ H Qv z kk => one ha z fun x u μ' H' ⟨ns, fs, hx, q⟩ ix r e => by
    obtain ⟨p1, dx1, vs1, e1, e2, _, _⟩ := ins_at r ix hx
    exact ⟨p1, dx1, _, e1, e2, spD_at (G := mns H' μ') ok q (.cons ix .nil) r (z.up.trans e) (kk.up e)⟩
/-- o[i], an own __getitem__ -/
theorem ed_getO (F : Md Γ.X.prog Γ.X.w Γ.X.K Γ.X.mg Γ.X.base k C "__getitem__" S) (ok : Γ.Ok j) (hfi : ∀ f, PySem.W.isFn Γ.X.K (.ref f) = true → PySem.W.keepIn Γ.X.K (.ref f) = true → PySem.W.findIn Γ.X.K (.ref C) "__getitem__" = some (some (.ref f)) → PySem.W.fnIn Γ.X.K f = true)
    (ha : ED Γ a ρ μ fun x μ1 => ED Γ b ρ μ1 fun y μ2 => ∃ ns fs, insOf μ2 x = some (C, ns, fs) ∧ S [x, y] μ2 Q Γ.ξ) (hk : k + 1 ≤ j := by decide)
    (hsl : ∀ a u, subscripted b true (.ref a) u = runValue (.builtin "lifetime.subscript" ⟨[.ref a, u], []⟩) := by intro _ _; with_unfolding_all rfl) : ED Γ (.Subscript a b pos) ρ μ Q := by
  obtain ⟨f, fd, ps, m1, m2, m3, m4⟩ := F.ex
  exact ed_of (pe_ixOwn m4 (ok.room.mono hk) m3 ok.pass m1.at_ (hfi f m1.fn m1.kp m1.at_) m1.fn pe_w pe_w hsl) fun σ H Qv z kk => two ha z fun x y u v μ' H' ⟨ns, fs, hx, q⟩ ix iy r e => by
    obtain ⟨p1, dx1, vs1, e1, e2, _, _⟩ := ins_at r ix hx
    exact ⟨p1, dx1, _, e1, e2, spD_at (G := mns H' μ') ok q (.cons ix (.cons iy .nil)) r (z.up.trans e) (kk.up e)⟩
/-- list(o), an own __iter__ over a tuple -/
structure It1 (P : Program) (w : World) (K : PySem.W.Frag) (mg : Str → Option Value) (base : Heap) (k : Nat) (C : Addr) : Prop where
  ex : ∃ f fd ps, ItT K C f ∧ Binds K fd ps [] ∧ FnOk P w K mg base (L2.CX P w) k f fd ps (spIt C)
theorem ed_listO (F : It1 Γ.X.prog Γ.X.w Γ.X.K Γ.X.mg Γ.X.base k C) (ok : Γ.Ok j) (hm : Γ.X.mg "list" = none) (ha : ED Γ e ρ μ fun d μ1 => ∃ ns fs ys, insOf μ1 d = some (C, ns, fs) ∧ fldD ns fs ("_numbers" : Str) = some (.tup ys) ∧ ys.length ≤ 1000 ∧ Q (.lst ys) μ1) (hk : k + 2 ≤ j := by decide) (hg : Gl Γ.X "list" := by rfl)
    (he : starEach [e] Γ.X.env = (false, eval e Γ.X.env) :: starEach [] Γ.X.env := by rfl) : ED Γ (.Call (.Name "list" p) [e] [] pos) ρ μ Q := by
  obtain ⟨f, fd, ps, h1, h2, h3⟩ := F.ex
  refine ed_of (pe_callTy (call_listIt (EI := Γ.ek) ok.calm h1 h3 h2 ok.pass (ok.room.mono hk)) hg hm (by decide +kernel) (pa_cons pe_w pa_nil he) (by decide) (by decide) he rfl) fun σ H Qv z kk => one ha z fun d u μ1 H1 ⟨ns, fs, ys, hx, hf, hl, q⟩ i r e => ?_
  obtain ⟨p1, dx1, vs1, e1, e2, e3, _⟩ := ins_at r i hx
  obtain ⟨v, hv, iv⟩ := fld_is e3 hf
  obtain ⟨t, ws, ht, hG, hw⟩ := iv
  subst ht
  refine ⟨p1, dx1, t, _, ws, by rw [e1], e2, hv, (mns_at hG).2, by rw [hw.length]; exact hl, fun qq it ob hq hi hne => ?_⟩
  have s1 : Same (mns H1 μ1) (mns (upd H1 qq (.lst ws)) μ1) := same_new hq
  have r1 := rep_new (o := .lst ws) r hq
  have hi2 : upd H1 qq (.lst ws) it = none := by rw [upd_ne hne]; exact hi
  have s2 : Same (mns (upd H1 qq (.lst ws)) μ1) (mns (upd (upd H1 qq (.lst ws)) it ob) μ1) := same_new hi2
  exact kk _ _ _ _ q ⟨qq, ws, rfl, s2 _ _ (mns_new r hq), hw.mono (s1.trans s2)⟩ (rep_new r1 hi2) (e.trans (s1.trans s2))
/-- a slice of a list read at the entry -/
theorem ed_cut {p2 pe : Pos} {jj : Nat} {ap : Addr} {ns : List Int} {n : Int} (hS : SqL Γ.X.K Γ.G0 ap (ns.map V.int)) (ha : ED Γ e ρ μ fun d μ1 => d = .ptr ap ∧ ∀ zs : List Int, zs.length ≤ ns.length → Q (.lst (zs.map D.int)) μ1) : ED Γ (.Subscript e (.Slice none (some (.Constant (.int n) jj pe)) none p2) pos) ρ μ Q :=
  ed_of (pe_slice sl_list pe_w po_none (po_some pe_int)) fun σ H Qv z kk => one ha z fun d u μ1 H1 ⟨hd, q⟩ i r e => by
    subst hd
    refine ⟨n, rfl, ap, _, i, Same.seq (fun a o h => (mns_at ((z.up.trans e) a o h)).2) hS, fun m hm => ?_⟩
    have hc : ∀ (xs : List Int) (lo hi : Option Int), ∃ zs : List Int, cutV (xs.map V.int) lo hi = zs.map V.int ∧ zs.length ≤ xs.length := fun xs lo hi => by
      refine ⟨(xs.drop (HT.sIx xs.length 0 lo)).take (HT.sIx xs.length xs.length hi - HT.sIx xs.length 0 lo), ?_, ?_⟩
      · unfold cutV
        rw [List.length_map, List.map_take, List.map_drop]
      · rw [List.length_take, List.length_drop]; omega
    obtain ⟨zs, hz, hl⟩ := hc ns none (some n)
    rw [hz]
    exact kk _ _ _ _ (q zs hl) ⟨m, _, rfl, mns_new r hm, isL_ints.mpr rfl⟩ (rep_new r hm) (e.trans (same_new hm))
/-- xs == [] -/
theorem td_eqNil {p2 : Pos} (hu : Γ.X.A.units + 64 < cLine) (ha : ED Γ a ρ μ fun x μ1 => ∃ ns : List Int, lstOf μ1 x = some (ns.map D.int) ∧ R (decide (ns = [])) μ1) : TD Γ (.Compare a [.Eq] [.List [] p2] pos) ρ μ R := by
  refine td_of (pt_cmpR (op_eqD hu) pe_w (pe_lst pa_nil) (nomark _)) fun σ H Qv z k => one ha z fun x u μ1 H1 ⟨ns, hx, q⟩ i r e => ?_
  refine ⟨Nat.zero_le _, fun m hm => ?_⟩
  obtain ⟨a1, h1, h2⟩ := ints_at r i hx
  have dp : ∀ (ns : List Int) (H : Hp), DpAll Γ.X.K H (ns.map V.int) (ns.map PyData.int) := by
    intro ns H
    induction ns with
    | nil => exact .nil
    | cons n ns ih => exact .cons (.int n) ih
  refine ⟨.list (ns.map PyData.int), .list [], by rw [h1]; exact .lst (SqL.of (by rw [upd_ne (ne_of_none h2 hm)]; exact h2)) (dp _ _), .lst (SqL.of upd_same) .nil, ?_, rfl, _, rfl, ?_⟩
  · simp [SeqAt.shaped, PyData.canLay0, PyData.canLayAll0, PyData.depth, PyData.depthAll, PySem.W.ke_canLayAll0, PySem.W.ke_depthAll]
  · have : PyData.eqv (.list (ns.map PyData.int)) (.list []) = decide (ns = []) := by
      have := PySem.W.ked_eqvAll ns []
      rw [PyData.eqv]
      exact this
    rw [this]
    exact k _ _ _ q (rep_new r hm) (e.trans (same_new hm))
end
end DD
set_option Elab.async false
set_option linter.all false
set_option maxRecDepth 100000
set_option maxHeartbeats 4000000
/-! E0: the text by places. -/
namespace DD
open PySem PySem.Spec PyProof.Rows L2
def top (i : Nat) : Stmt := PySem.Challenge.pw_whosefork_k83_whole_purses_far.main.body.getD i (.Pass ⟨0, 0, 0, 0⟩)
abbrev s_HandError_init : Stmt := inClass (top 4) 0
abbrev n_HandError_init : List Str := ["self", "hand"]
abbrev p_HandError_init : List Str := ["self", "hand"]
theorem sc_HandError_init : FnScopeS n_HandError_init p_HandError_init (defScope s_HandError_init) := ⟨rfl, rfl, rfl, by decide +kernel, rfl, by decide +kernel, by decide +kernel, by decide +kernel⟩
theorem bd_HandError_init (kV doc pm : Value) (an : Option Addr) (cdv ct : Value) (cc : Addr) (us : List Value) (hl : us.length = 2) : bindArgs (PySem.W.ksFn "__init__" "HandError.__init__" (defArgs s_HandError_init) (defBody s_HandError_init) (defScope s_HandError_init) .none kV doc pm an cdv ct cc) ⟨us, []⟩ = pure (List.zip p_HandError_init us) := match us, hl with | [_, _], _ => rfl
abbrev s_BadHands_init : Stmt := inClass (top 12) 0
abbrev n_BadHands_init : List Str := ["self", "hands"]
abbrev p_BadHands_init : List Str := ["self", "hands"]
theorem sc_BadHands_init : FnScopeS n_BadHands_init p_BadHands_init (defScope s_BadHands_init) := ⟨rfl, rfl, rfl, by decide +kernel, rfl, by decide +kernel, by decide +kernel, by decide +kernel⟩
theorem bd_BadHands_init (kV doc pm : Value) (an : Option Addr) (cdv ct : Value) (cc : Addr) (us : List Value) (hl : us.length = 2) : bindArgs (PySem.W.ksFn "__init__" "BadHands.__init__" (defArgs s_BadHands_init) (defBody s_BadHands_init) (defScope s_BadHands_init) .none kV doc pm an cdv ct cc) ⟨us, []⟩ = pure (List.zip p_BadHands_init us) := match us, hl with | [_, _], _ => rfl
abbrev s_check_hands : Stmt := top 25
abbrev n_check_hands : List Str := ["hands", "most"]
abbrev p_check_hands : List Str := ["hands", "most"]
theorem sc_check_hands : FnScope n_check_hands p_check_hands (defScope s_check_hands) := ⟨rfl, rfl, rfl, by decide +kernel, rfl, by decide +kernel, by decide +kernel⟩
theorem bd_check_hands (kV doc pm : Value) (an : Option Addr) (cdv ct : Value) (us : List Value) (hl : us.length = 2) : bindArgs (PySem.W.fnOf "check_hands" "check_hands" (defArgs s_check_hands) (defBody s_check_hands) (defScope s_check_hands) .none kV doc pm an cdv ct) ⟨us, []⟩ = pure (List.zip p_check_hands us) := match us, hl with | [_, _], _ => rfl
abbrev s_check_number : Stmt := top 26
abbrev n_check_number : List Str := ["number", "low", "high"]
abbrev p_check_number : List Str := ["number", "low", "high"]
theorem sc_check_number : FnScope n_check_number p_check_number (defScope s_check_number) := ⟨rfl, rfl, rfl, by decide +kernel, rfl, by decide +kernel, by decide +kernel⟩
theorem bd_check_number (kV doc pm : Value) (an : Option Addr) (cdv ct : Value) (us : List Value) (hl : us.length = 3) : bindArgs (PySem.W.fnOf "check_number" "check_number" (defArgs s_check_number) (defBody s_check_number) (defScope s_check_number) .none kV doc pm an cdv ct) ⟨us, []⟩ = pure (List.zip p_check_number us) := match us, hl with | [_, _, _], _ => rfl
abbrev s_check_length : Stmt := top 27
abbrev n_check_length : List Str := ["length", "low", "high"]
abbrev p_check_length : List Str := ["length", "low", "high"]
theorem sc_check_length : FnScope n_check_length p_check_length (defScope s_check_length) := ⟨rfl, rfl, rfl, by decide +kernel, rfl, by decide +kernel, by decide +kernel⟩
theorem bd_check_length (kV doc pm : Value) (an : Option Addr) (cdv ct : Value) (us : List Value) (hl : us.length = 3) : bindArgs (PySem.W.fnOf "check_length" "check_length" (defArgs s_check_length) (defBody s_check_length) (defScope s_check_length) .none kV doc pm an cdv ct) ⟨us, []⟩ = pure (List.zip p_check_length us) := match us, hl with | [_, _, _], _ => rfl
abbrev s_check_hand : Stmt := top 28
abbrev n_check_hand : List Str := ["hands", "hand"]
abbrev p_check_hand : List Str := ["hands", "hand"]
theorem sc_check_hand : FnScope n_check_hand p_check_hand (defScope s_check_hand) := ⟨rfl, rfl, rfl, by decide +kernel, rfl, by decide +kernel, by decide +kernel⟩
theorem bd_check_hand (kV doc pm : Value) (an : Option Addr) (cdv ct : Value) (us : List Value) (hl : us.length = 2) : bindArgs (PySem.W.fnOf "check_hand" "check_hand" (defArgs s_check_hand) (defBody s_check_hand) (defScope s_check_hand) .none kV doc pm an cdv ct) ⟨us, []⟩ = pure (List.zip p_check_hand us) := match us, hl with | [_, _], _ => rfl
abbrev s_mask_of : Stmt := top 30
abbrev n_mask_of : List Str := ["hands", "lot", "mask", "hand"]
abbrev p_mask_of : List Str := ["hands", "lot"]
theorem sc_mask_of : FnScope n_mask_of p_mask_of (defScope s_mask_of) := ⟨rfl, rfl, rfl, by decide +kernel, rfl, by decide +kernel, by decide +kernel⟩
theorem bd_mask_of (kV doc pm : Value) (an : Option Addr) (cdv ct : Value) (us : List Value) (hl : us.length = 2) : bindArgs (PySem.W.fnOf "mask_of" "mask_of" (defArgs s_mask_of) (defBody s_mask_of) (defScope s_mask_of) .none kV doc pm an cdv ct) ⟨us, []⟩ = pure (List.zip p_mask_of us) := match us, hl with | [_, _], _ => rfl
abbrev s_tuple_of : Stmt := top 31
abbrev n_tuple_of : List Str := ["mask", "hand"]
abbrev p_tuple_of : List Str := ["mask"]
theorem sc_tuple_of : FnScope n_tuple_of p_tuple_of (defScope s_tuple_of) := ⟨rfl, rfl, rfl, by decide +kernel, rfl, by decide +kernel, by decide +kernel⟩
theorem bd_tuple_of (kV doc pm : Value) (an : Option Addr) (cdv ct : Value) (us : List Value) (hl : us.length = 1) : bindArgs (PySem.W.fnOf "tuple_of" "tuple_of" (defArgs s_tuple_of) (defBody s_tuple_of) (defScope s_tuple_of) .none kV doc pm an cdv ct) ⟨us, []⟩ = pure (List.zip p_tuple_of us) := match us, hl with | [_], _ => rfl
abbrev s_has_hand : Stmt := top 32
abbrev n_has_hand : List Str := ["mask", "hand"]
abbrev p_has_hand : List Str := ["mask", "hand"]
theorem sc_has_hand : FnScope n_has_hand p_has_hand (defScope s_has_hand) := ⟨rfl, rfl, rfl, by decide +kernel, rfl, by decide +kernel, by decide +kernel⟩
theorem bd_has_hand (kV doc pm : Value) (an : Option Addr) (cdv ct : Value) (us : List Value) (hl : us.length = 2) : bindArgs (PySem.W.fnOf "has_hand" "has_hand" (defArgs s_has_hand) (defBody s_has_hand) (defScope s_has_hand) .none kV doc pm an cdv ct) ⟨us, []⟩ = pure (List.zip p_has_hand us) := match us, hl with | [_, _], _ => rfl
abbrev s_with_hand : Stmt := top 33
abbrev n_with_hand : List Str := ["mask", "hand"]
abbrev p_with_hand : List Str := ["mask", "hand"]
theorem sc_with_hand : FnScope n_with_hand p_with_hand (defScope s_with_hand) := ⟨rfl, rfl, rfl, by decide +kernel, rfl, by decide +kernel, by decide +kernel⟩
theorem bd_with_hand (kV doc pm : Value) (an : Option Addr) (cdv ct : Value) (us : List Value) (hl : us.length = 2) : bindArgs (PySem.W.fnOf "with_hand" "with_hand" (defArgs s_with_hand) (defBody s_with_hand) (defScope s_with_hand) .none kV doc pm an cdv ct) ⟨us, []⟩ = pure (List.zip p_with_hand us) := match us, hl with | [_, _], _ => rfl
abbrev s_rest_mask : Stmt := top 34
abbrev n_rest_mask : List Str := ["hands", "mask"]
abbrev p_rest_mask : List Str := ["hands", "mask"]
theorem sc_rest_mask : FnScope n_rest_mask p_rest_mask (defScope s_rest_mask) := ⟨rfl, rfl, rfl, by decide +kernel, rfl, by decide +kernel, by decide +kernel⟩
theorem bd_rest_mask (kV doc pm : Value) (an : Option Addr) (cdv ct : Value) (us : List Value) (hl : us.length = 2) : bindArgs (PySem.W.fnOf "rest_mask" "rest_mask" (defArgs s_rest_mask) (defBody s_rest_mask) (defScope s_rest_mask) .none kV doc pm an cdv ct) ⟨us, []⟩ = pure (List.zip p_rest_mask us) := match us, hl with | [_, _], _ => rfl
abbrev s_Ratio_init : Stmt := inClass (top 37) 1
abbrev n_Ratio_init : List Str := ["self", "top", "bottom", "_bounded", "divisor"]
abbrev p_Ratio_init : List Str := ["self", "top", "bottom", "_bounded"]
theorem sc_Ratio_init : FnScope n_Ratio_init p_Ratio_init (defScope s_Ratio_init) := ⟨rfl, rfl, rfl, by decide +kernel, rfl, by decide +kernel, by decide +kernel⟩
abbrev s_Ratio_add : Stmt := inClass (top 37) 2
abbrev n_Ratio_add : List Str := ["self", "other", "top", "bottom"]
abbrev p_Ratio_add : List Str := ["self", "other"]
theorem sc_Ratio_add : FnScope n_Ratio_add p_Ratio_add (defScope s_Ratio_add) := ⟨rfl, rfl, rfl, by decide +kernel, rfl, by decide +kernel, by decide +kernel⟩
theorem bd_Ratio_add (kV doc pm : Value) (an : Option Addr) (cdv ct : Value) (us : List Value) (hl : us.length = 2) : bindArgs (PySem.W.fnOf "__add__" "Ratio.__add__" (defArgs s_Ratio_add) (defBody s_Ratio_add) (defScope s_Ratio_add) .none kV doc pm an cdv ct) ⟨us, []⟩ = pure (List.zip p_Ratio_add us) := match us, hl with | [_, _], _ => rfl
abbrev s_Ratio_sub : Stmt := inClass (top 37) 4
abbrev n_Ratio_sub : List Str := ["self", "other", "top", "bottom"]
abbrev p_Ratio_sub : List Str := ["self", "other"]
theorem sc_Ratio_sub : FnScope n_Ratio_sub p_Ratio_sub (defScope s_Ratio_sub) := ⟨rfl, rfl, rfl, by decide +kernel, rfl, by decide +kernel, by decide +kernel⟩
theorem bd_Ratio_sub (kV doc pm : Value) (an : Option Addr) (cdv ct : Value) (us : List Value) (hl : us.length = 2) : bindArgs (PySem.W.fnOf "__sub__" "Ratio.__sub__" (defArgs s_Ratio_sub) (defBody s_Ratio_sub) (defScope s_Ratio_sub) .none kV doc pm an cdv ct) ⟨us, []⟩ = pure (List.zip p_Ratio_sub us) := match us, hl with | [_, _], _ => rfl
abbrev s_Ratio_rsub : Stmt := inClass (top 37) 5
abbrev n_Ratio_rsub : List Str := ["self", "other"]
abbrev p_Ratio_rsub : List Str := ["self", "other"]
theorem sc_Ratio_rsub : FnScope n_Ratio_rsub p_Ratio_rsub (defScope s_Ratio_rsub) := ⟨rfl, rfl, rfl, by decide +kernel, rfl, by decide +kernel, by decide +kernel⟩
theorem bd_Ratio_rsub (kV doc pm : Value) (an : Option Addr) (cdv ct : Value) (us : List Value) (hl : us.length = 2) : bindArgs (PySem.W.fnOf "__rsub__" "Ratio.__rsub__" (defArgs s_Ratio_rsub) (defBody s_Ratio_rsub) (defScope s_Ratio_rsub) .none kV doc pm an cdv ct) ⟨us, []⟩ = pure (List.zip p_Ratio_rsub us) := match us, hl with | [_, _], _ => rfl
abbrev s_Ratio_neg : Stmt := inClass (top 37) 8
abbrev n_Ratio_neg : List Str := ["self"]
abbrev p_Ratio_neg : List Str := ["self"]
theorem sc_Ratio_neg : FnScope n_Ratio_neg p_Ratio_neg (defScope s_Ratio_neg) := ⟨rfl, rfl, rfl, by decide +kernel, rfl, by decide +kernel, by decide +kernel⟩
theorem bd_Ratio_neg (kV doc pm : Value) (an : Option Addr) (cdv ct : Value) (us : List Value) (hl : us.length = 1) : bindArgs (PySem.W.fnOf "__neg__" "Ratio.__neg__" (defArgs s_Ratio_neg) (defBody s_Ratio_neg) (defScope s_Ratio_neg) .none kV doc pm an cdv ct) ⟨us, []⟩ = pure (List.zip p_Ratio_neg us) := match us, hl with | [_], _ => rfl
abbrev s_Ratio_below : Stmt := inClass (top 37) 13
abbrev n_Ratio_below : List Str := ["self", "other"]
abbrev p_Ratio_below : List Str := ["self", "other"]
theorem sc_Ratio_below : FnScope n_Ratio_below p_Ratio_below (defScope s_Ratio_below) := ⟨rfl, rfl, rfl, by decide +kernel, rfl, by decide +kernel, by decide +kernel⟩
theorem bd_Ratio_below (kV doc pm : Value) (an : Option Addr) (cdv ct : Value) (us : List Value) (hl : us.length = 2) : bindArgs (PySem.W.fnOf "below" "Ratio.below" (defArgs s_Ratio_below) (defBody s_Ratio_below) (defScope s_Ratio_below) .none kV doc pm an cdv ct) ⟨us, []⟩ = pure (List.zip p_Ratio_below us) := match us, hl with | [_, _], _ => rfl
abbrev s_exact : Stmt := top 38
abbrev n_exact : List Str := ["top", "bottom"]
abbrev p_exact : List Str := ["top", "bottom"]
theorem sc_exact : FnScope n_exact p_exact (defScope s_exact) := ⟨rfl, rfl, rfl, by decide +kernel, rfl, by decide +kernel, by decide +kernel⟩
theorem bd_exact (kV doc pm : Value) (an : Option Addr) (cdv ct : Value) (us : List Value) (hl : us.length = 2) : bindArgs (PySem.W.fnOf "exact" "exact" (defArgs s_exact) (defBody s_exact) (defScope s_exact) .none kV doc pm an cdv ct) ⟨us, []⟩ = pure (List.zip p_exact us) := match us, hl with | [_, _], _ => rfl
abbrev s_is_fraction : Stmt := top 39
abbrev n_is_fraction : List Str := ["value"]
abbrev p_is_fraction : List Str := ["value"]
theorem sc_is_fraction : FnScope n_is_fraction p_is_fraction (defScope s_is_fraction) := ⟨rfl, rfl, rfl, by decide +kernel, rfl, by decide +kernel, by decide +kernel⟩
theorem bd_is_fraction (kV doc pm : Value) (an : Option Addr) (cdv ct : Value) (us : List Value) (hl : us.length = 1) : bindArgs (PySem.W.fnOf "is_fraction" "is_fraction" (defArgs s_is_fraction) (defBody s_is_fraction) (defScope s_is_fraction) .none kV doc pm an cdv ct) ⟨us, []⟩ = pure (List.zip p_is_fraction us) := match us, hl with | [_], _ => rfl
abbrev s_top_and_bottom : Stmt := top 40
abbrev n_top_and_bottom : List Str := ["value"]
abbrev p_top_and_bottom : List Str := ["value"]
theorem sc_top_and_bottom : FnScope n_top_and_bottom p_top_and_bottom (defScope s_top_and_bottom) := ⟨rfl, rfl, rfl, by decide +kernel, rfl, by decide +kernel, by decide +kernel⟩
theorem bd_top_and_bottom (kV doc pm : Value) (an : Option Addr) (cdv ct : Value) (us : List Value) (hl : us.length = 1) : bindArgs (PySem.W.fnOf "top_and_bottom" "top_and_bottom" (defArgs s_top_and_bottom) (defBody s_top_and_bottom) (defScope s_top_and_bottom) .none kV doc pm an cdv ct) ⟨us, []⟩ = pure (List.zip p_top_and_bottom us) := match us, hl with | [_], _ => rfl
abbrev s_is_less : Stmt := top 41
abbrev n_is_less : List Str := ["first", "second", "top", "bottom", "other_top", "other_bottom"]
abbrev p_is_less : List Str := ["first", "second"]
theorem sc_is_less : FnScope n_is_less p_is_less (defScope s_is_less) := ⟨rfl, rfl, rfl, by decide +kernel, rfl, by decide +kernel, by decide +kernel⟩
theorem bd_is_less (kV doc pm : Value) (an : Option Addr) (cdv ct : Value) (us : List Value) (hl : us.length = 2) : bindArgs (PySem.W.fnOf "is_less" "is_less" (defArgs s_is_less) (defBody s_is_less) (defScope s_is_less) .none kV doc pm an cdv ct) ⟨us, []⟩ = pure (List.zip p_is_less us) := match us, hl with | [_, _], _ => rfl
abbrev s_taken : Stmt := top 42
abbrev n_taken : List Str := ["value", "low", "high", "top", "bottom"]
abbrev p_taken : List Str := ["value", "low", "high"]
theorem sc_taken : FnScope n_taken p_taken (defScope s_taken) := ⟨rfl, rfl, rfl, by decide +kernel, rfl, by decide +kernel, by decide +kernel⟩
theorem bd_taken (kV doc pm : Value) (an : Option Addr) (cdv ct : Value) (us : List Value) (hl : us.length = 3) : bindArgs (PySem.W.fnOf "taken" "taken" (defArgs s_taken) (defBody s_taken) (defScope s_taken) .none kV doc pm an cdv ct) ⟨us, []⟩ = pure (List.zip p_taken us) := match us, hl with | [_, _, _], _ => rfl
abbrev s_Undoable_init : Stmt := inClass (top 44) 0
abbrev n_Undoable_init : List Str := ["self", "state"]
abbrev p_Undoable_init : List Str := ["self", "state"]
theorem sc_Undoable_init : FnScope n_Undoable_init p_Undoable_init (defScope s_Undoable_init) := ⟨rfl, rfl, rfl, by decide +kernel, rfl, by decide +kernel, by decide +kernel⟩
theorem bd_Undoable_init (kV doc pm : Value) (an : Option Addr) (cdv ct : Value) (us : List Value) (hl : us.length = 2) : bindArgs (PySem.W.fnOf "__init__" "Undoable.__init__" (defArgs s_Undoable_init) (defBody s_Undoable_init) (defScope s_Undoable_init) .none kV doc pm an cdv ct) ⟨us, []⟩ = pure (List.zip p_Undoable_init us) := match us, hl with | [_, _], _ => rfl
abbrev s_Undoable_deeds : Stmt := inClass (top 44) 1
abbrev n_Undoable_deeds : List Str := ["self"]
abbrev p_Undoable_deeds : List Str := ["self"]
theorem sc_Undoable_deeds : FnScope n_Undoable_deeds p_Undoable_deeds (defScope s_Undoable_deeds) := ⟨rfl, rfl, rfl, by decide +kernel, rfl, by decide +kernel, by decide +kernel⟩
theorem bd_Undoable_deeds (kV doc pm : Value) (an : Option Addr) (cdv ct : Value) (us : List Value) (hl : us.length = 1) : bindArgs (PySem.W.fnOf "deeds" "Undoable.deeds" (defArgs s_Undoable_deeds) (defBody s_Undoable_deeds) (defScope s_Undoable_deeds) .none kV doc pm an cdv ct) ⟨us, []⟩ = pure (List.zip p_Undoable_deeds us) := match us, hl with | [_], _ => rfl
abbrev s_Undoable_deed : Stmt := inClass (top 44) 5
abbrev n_Undoable_deed : List Str := ["self", "state"]
abbrev p_Undoable_deed : List Str := ["self", "state"]
theorem sc_Undoable_deed : FnScope n_Undoable_deed p_Undoable_deed (defScope s_Undoable_deed) := ⟨rfl, rfl, rfl, by decide +kernel, rfl, by decide +kernel, by decide +kernel⟩
theorem bd_Undoable_deed (kV doc pm : Value) (an : Option Addr) (cdv ct : Value) (us : List Value) (hl : us.length = 2) : bindArgs (PySem.W.fnOf "_deed" "Undoable._deed" (defArgs s_Undoable_deed) (defBody s_Undoable_deed) (defScope s_Undoable_deed) .none kV doc pm an cdv ct) ⟨us, []⟩ = pure (List.zip p_Undoable_deed us) := match us, hl with | [_, _], _ => rfl
abbrev s_check_stand : Stmt := top 49
abbrev n_check_stand : List Str := ["scale", "near", "far", "near_mask", "far_mask", "hand"]
abbrev p_check_stand : List Str := ["scale", "near", "far"]
theorem sc_check_stand : FnScope n_check_stand p_check_stand (defScope s_check_stand) := ⟨rfl, rfl, rfl, by decide +kernel, rfl, by decide +kernel, by decide +kernel⟩
theorem bd_check_stand (kV doc pm : Value) (an : Option Addr) (cdv ct : Value) (us : List Value) (hl : us.length = 3) : bindArgs (PySem.W.fnOf "check_stand" "check_stand" (defArgs s_check_stand) (defBody s_check_stand) (defScope s_check_stand) .none kV doc pm an cdv ct) ⟨us, []⟩ = pure (List.zip p_check_stand us) := match us, hl with | [_, _, _], _ => rfl
abbrev s_check_side : Stmt := top 50
abbrev n_check_side : List Str := ["side"]
abbrev p_check_side : List Str := ["side"]
theorem sc_check_side : FnScope n_check_side p_check_side (defScope s_check_side) := ⟨rfl, rfl, rfl, by decide +kernel, rfl, by decide +kernel, by decide +kernel⟩
theorem bd_check_side (kV doc pm : Value) (an : Option Addr) (cdv ct : Value) (us : List Value) (hl : us.length = 1) : bindArgs (PySem.W.fnOf "check_side" "check_side" (defArgs s_check_side) (defBody s_check_side) (defScope s_check_side) .none kV doc pm an cdv ct) ⟨us, []⟩ = pure (List.zip p_check_side us) := match us, hl with | [_], _ => rfl
abbrev s_free_hands : Stmt := top 51
abbrev n_free_hands : List Str := ["hands", "near", "far"]
abbrev p_free_hands : List Str := ["hands", "near", "far"]
theorem sc_free_hands : FnScope n_free_hands p_free_hands (defScope s_free_hands) := ⟨rfl, rfl, rfl, by decide +kernel, rfl, by decide +kernel, by decide +kernel⟩
theorem bd_free_hands (kV doc pm : Value) (an : Option Addr) (cdv ct : Value) (us : List Value) (hl : us.length = 3) : bindArgs (PySem.W.fnOf "free_hands" "free_hands" (defArgs s_free_hands) (defBody s_free_hands) (defScope s_free_hands) .none kV doc pm an cdv ct) ⟨us, []⟩ = pure (List.zip p_free_hands us) := match us, hl with | [_, _, _], _ => rfl
abbrev s_check_some_free : Stmt := top 52
abbrev n_check_some_free : List Str := ["hands", "near", "far"]
abbrev p_check_some_free : List Str := ["hands", "near", "far"]
theorem sc_check_some_free : FnScope n_check_some_free p_check_some_free (defScope s_check_some_free) := ⟨rfl, rfl, rfl, by decide +kernel, rfl, by decide +kernel, by decide +kernel⟩
theorem bd_check_some_free (kV doc pm : Value) (an : Option Addr) (cdv ct : Value) (us : List Value) (hl : us.length = 3) : bindArgs (PySem.W.fnOf "check_some_free" "check_some_free" (defArgs s_check_some_free) (defBody s_check_some_free) (defScope s_check_some_free) .none kV doc pm an cdv ct) ⟨us, []⟩ = pure (List.zip p_check_some_free us) := match us, hl with | [_, _, _], _ => rfl
abbrev s_check_free_hand : Stmt := top 53
abbrev n_check_free_hand : List Str := ["hands", "near", "far", "hand"]
abbrev p_check_free_hand : List Str := ["hands", "near", "far", "hand"]
theorem sc_check_free_hand : FnScope n_check_free_hand p_check_free_hand (defScope s_check_free_hand) := ⟨rfl, rfl, rfl, by decide +kernel, rfl, by decide +kernel, by decide +kernel⟩
theorem bd_check_free_hand (kV doc pm : Value) (an : Option Addr) (cdv ct : Value) (us : List Value) (hl : us.length = 4) : bindArgs (PySem.W.fnOf "check_free_hand" "check_free_hand" (defArgs s_check_free_hand) (defBody s_check_free_hand) (defScope s_check_free_hand) .none kV doc pm an cdv ct) ⟨us, []⟩ = pure (List.zip p_check_free_hand us) := match us, hl with | [_, _, _, _], _ => rfl
abbrev s_Auction_init : Stmt := inClass (top 55) 0
abbrev n_Auction_init : List Str := ["self", "scale", "share", "purse"]
abbrev p_Auction_init : List Str := ["self", "scale", "share"]
theorem sc_Auction_init : FnScopeS n_Auction_init p_Auction_init (defScope s_Auction_init) := ⟨rfl, rfl, rfl, by decide +kernel, rfl, by decide +kernel, by decide +kernel, by decide +kernel⟩
theorem bd_Auction_init (kV doc pm : Value) (an : Option Addr) (cdv ct : Value) (cc : Addr) (us : List Value) (hl : us.length = 3) : bindArgs (PySem.W.ksFn "__init__" "Auction.__init__" (defArgs s_Auction_init) (defBody s_Auction_init) (defScope s_Auction_init) .none kV doc pm an cdv ct cc) ⟨us, []⟩ = pure (List.zip p_Auction_init us) := match us, hl with | [_, _, _], _ => rfl
abbrev s_Auction_near : Stmt := inClass (top 55) 1
abbrev n_Auction_near : List Str := ["self"]
abbrev p_Auction_near : List Str := ["self"]
theorem sc_Auction_near : FnScope n_Auction_near p_Auction_near (defScope s_Auction_near) := ⟨rfl, rfl, rfl, by decide +kernel, rfl, by decide +kernel, by decide +kernel⟩
theorem bd_Auction_near (kV doc pm : Value) (an : Option Addr) (cdv ct : Value) (us : List Value) (hl : us.length = 1) : bindArgs (PySem.W.fnOf "near" "Auction.near" (defArgs s_Auction_near) (defBody s_Auction_near) (defScope s_Auction_near) .none kV doc pm an cdv ct) ⟨us, []⟩ = pure (List.zip p_Auction_near us) := match us, hl with | [_], _ => rfl
abbrev s_Auction_far : Stmt := inClass (top 55) 2
abbrev n_Auction_far : List Str := ["self"]
abbrev p_Auction_far : List Str := ["self"]
theorem sc_Auction_far : FnScope n_Auction_far p_Auction_far (defScope s_Auction_far) := ⟨rfl, rfl, rfl, by decide +kernel, rfl, by decide +kernel, by decide +kernel⟩
theorem bd_Auction_far (kV doc pm : Value) (an : Option Addr) (cdv ct : Value) (us : List Value) (hl : us.length = 1) : bindArgs (PySem.W.fnOf "far" "Auction.far" (defArgs s_Auction_far) (defBody s_Auction_far) (defScope s_Auction_far) .none kV doc pm an cdv ct) ⟨us, []⟩ = pure (List.zip p_Auction_far us) := match us, hl with | [_], _ => rfl
abbrev s_Auction_free : Stmt := inClass (top 55) 3
abbrev n_Auction_free : List Str := ["self"]
abbrev p_Auction_free : List Str := ["self"]
theorem sc_Auction_free : FnScope n_Auction_free p_Auction_free (defScope s_Auction_free) := ⟨rfl, rfl, rfl, by decide +kernel, rfl, by decide +kernel, by decide +kernel⟩
theorem bd_Auction_free (kV doc pm : Value) (an : Option Addr) (cdv ct : Value) (us : List Value) (hl : us.length = 1) : bindArgs (PySem.W.fnOf "free" "Auction.free" (defArgs s_Auction_free) (defBody s_Auction_free) (defScope s_Auction_free) .none kV doc pm an cdv ct) ⟨us, []⟩ = pure (List.zip p_Auction_free us) := match us, hl with | [_], _ => rfl
abbrev s_Auction_purse : Stmt := inClass (top 55) 4
abbrev n_Auction_purse : List Str := ["self"]
abbrev p_Auction_purse : List Str := ["self"]
theorem sc_Auction_purse : FnScope n_Auction_purse p_Auction_purse (defScope s_Auction_purse) := ⟨rfl, rfl, rfl, by decide +kernel, rfl, by decide +kernel, by decide +kernel⟩
theorem bd_Auction_purse (kV doc pm : Value) (an : Option Addr) (cdv ct : Value) (us : List Value) (hl : us.length = 1) : bindArgs (PySem.W.fnOf "purse" "Auction.purse" (defArgs s_Auction_purse) (defBody s_Auction_purse) (defScope s_Auction_purse) .none kV doc pm an cdv ct) ⟨us, []⟩ = pure (List.zip p_Auction_purse us) := match us, hl with | [_], _ => rfl
abbrev s_Auction_result : Stmt := inClass (top 55) 5
abbrev n_Auction_result : List Str := ["self", "near", "far", "_"]
abbrev p_Auction_result : List Str := ["self"]
theorem sc_Auction_result : FnScope n_Auction_result p_Auction_result (defScope s_Auction_result) := ⟨rfl, rfl, rfl, by decide +kernel, rfl, by decide +kernel, by decide +kernel⟩
theorem bd_Auction_result (kV doc pm : Value) (an : Option Addr) (cdv ct : Value) (us : List Value) (hl : us.length = 1) : bindArgs (PySem.W.fnOf "result" "Auction.result" (defArgs s_Auction_result) (defBody s_Auction_result) (defScope s_Auction_result) .none kV doc pm an cdv ct) ⟨us, []⟩ = pure (List.zip p_Auction_result us) := match us, hl with | [_], _ => rfl
abbrev s_Auction_bidding : Stmt := inClass (top 55) 6
abbrev n_Auction_bidding : List Str := ["self", "near_hand", "near_bid", "far_hand", "far_bid", "near", "far", "purse", "hands", "near_paid", "far_paid"]
abbrev p_Auction_bidding : List Str := ["self", "near_hand", "near_bid", "far_hand", "far_bid"]
theorem sc_Auction_bidding : FnScope n_Auction_bidding p_Auction_bidding (defScope s_Auction_bidding) := ⟨rfl, rfl, rfl, by decide +kernel, rfl, by decide +kernel, by decide +kernel⟩
theorem bd_Auction_bidding (kV doc pm : Value) (an : Option Addr) (cdv ct : Value) (us : List Value) (hl : us.length = 5) : bindArgs (PySem.W.fnOf "bidding" "Auction.bidding" (defArgs s_Auction_bidding) (defBody s_Auction_bidding) (defScope s_Auction_bidding) .none kV doc pm an cdv ct) ⟨us, []⟩ = pure (List.zip p_Auction_bidding us) := match us, hl with | [_, _, _, _, _], _ => rfl
abbrev s_deals_of : Stmt := top 57
abbrev n_deals_of : List Str := ["hands", "near", "far", "mask"]
abbrev p_deals_of : List Str := ["hands", "near", "far"]
theorem sc_deals_of : FnScope n_deals_of p_deals_of (defScope s_deals_of) := ⟨rfl, rfl, rfl, by decide +kernel, rfl, by decide +kernel, by decide +kernel⟩
theorem bd_deals_of (kV doc pm : Value) (an : Option Addr) (cdv ct : Value) (us : List Value) (hl : us.length = 3) : bindArgs (PySem.W.fnOf "deals_of" "deals_of" (defArgs s_deals_of) (defBody s_deals_of) (defScope s_deals_of) .none kV doc pm an cdv ct) ⟨us, []⟩ = pure (List.zip p_deals_of us) := match us, hl with | [_, _, _], _ => rfl
abbrev s_least_share : Stmt := top 59
abbrev n_least_share : List Str := ["scale", "near", "far", "least", "near_mask", "far_mask", "numbers"]
abbrev p_least_share : List Str := ["scale", "near", "far", "least"]
theorem sc_least_share : FnScope n_least_share p_least_share (defScope s_least_share) := ⟨rfl, rfl, rfl, by decide +kernel, rfl, by decide +kernel, by decide +kernel⟩
theorem bd_least_share (kV doc pm : Value) (an : Option Addr) (cdv ct : Value) (us : List Value) (hl : us.length = 4) : bindArgs (PySem.W.fnOf "least_share" "least_share" (defArgs s_least_share) (defBody s_least_share) (defScope s_least_share) .none kV doc pm an cdv ct) ⟨us, []⟩ = pure (List.zip p_least_share us) := match us, hl with | [_, _, _, _], _ => rfl
abbrev s_purse_lead : Stmt := top 60
abbrev n_purse_lead : List Str := ["scale", "near", "far", "share", "near_mask", "far_mask", "part", "numbers", "sure", "number"]
abbrev p_purse_lead : List Str := ["scale", "near", "far", "share"]
theorem sc_purse_lead : FnScope n_purse_lead p_purse_lead (defScope s_purse_lead) := ⟨rfl, rfl, rfl, by decide +kernel, rfl, by decide +kernel, by decide +kernel⟩
theorem bd_purse_lead (kV doc pm : Value) (an : Option Addr) (cdv ct : Value) (us : List Value) (hl : us.length = 4) : bindArgs (PySem.W.fnOf "purse_lead" "purse_lead" (defArgs s_purse_lead) (defBody s_purse_lead) (defScope s_purse_lead) .none kV doc pm an cdv ct) ⟨us, []⟩ = pure (List.zip p_purse_lead us) := match us, hl with | [_, _, _, _], _ => rfl
abbrev s_told_bid : Stmt := top 61
abbrev n_told_bid : List Str := ["scale", "near", "far", "least", "side", "near_mask", "far_mask", "free", "hired", "lost", "bid", "hand"]
abbrev p_told_bid : List Str := ["scale", "near", "far", "least", "side"]
theorem sc_told_bid : FnScope n_told_bid p_told_bid (defScope s_told_bid) := ⟨rfl, rfl, rfl, by decide +kernel, rfl, by decide +kernel, by decide +kernel⟩
theorem bd_told_bid (kV doc pm : Value) (an : Option Addr) (cdv ct : Value) (us : List Value) (hl : us.length = 5) : bindArgs (PySem.W.fnOf "told_bid" "told_bid" (defArgs s_told_bid) (defBody s_told_bid) (defScope s_told_bid) .none kV doc pm an cdv ct) ⟨us, []⟩ = pure (List.zip p_told_bid us) := match us, hl with | [_, _, _, _, _], _ => rfl
abbrev s_deal_numbers : Stmt := top 62
abbrev n_deal_numbers : List Str := ["scale", "near", "far", "numbers", "deal"]
abbrev p_deal_numbers : List Str := ["scale", "near", "far"]
theorem sc_deal_numbers : FnScope n_deal_numbers p_deal_numbers (defScope s_deal_numbers) := ⟨rfl, rfl, rfl, by decide +kernel, rfl, by decide +kernel, by decide +kernel⟩
theorem bd_deal_numbers (kV doc pm : Value) (an : Option Addr) (cdv ct : Value) (us : List Value) (hl : us.length = 3) : bindArgs (PySem.W.fnOf "deal_numbers" "deal_numbers" (defArgs s_deal_numbers) (defBody s_deal_numbers) (defScope s_deal_numbers) .none kV doc pm an cdv ct) ⟨us, []⟩ = pure (List.zip p_deal_numbers us) := match us, hl with | [_, _, _], _ => rfl
abbrev s_many_below : Stmt := top 63
abbrev n_many_below : List Str := ["numbers", "least", "number"]
abbrev p_many_below : List Str := ["numbers", "least"]
theorem sc_many_below : FnScope n_many_below p_many_below (defScope s_many_below) := ⟨rfl, rfl, rfl, by decide +kernel, rfl, by decide +kernel, by decide +kernel⟩
theorem bd_many_below (kV doc pm : Value) (an : Option Addr) (cdv ct : Value) (us : List Value) (hl : us.length = 2) : bindArgs (PySem.W.fnOf "many_below" "many_below" (defArgs s_many_below) (defBody s_many_below) (defScope s_many_below) .none kV doc pm an cdv ct) ⟨us, []⟩ = pure (List.zip p_many_below us) := match us, hl with | [_, _], _ => rfl
abbrev s_Scale_init : Stmt := inClass (top 65) 1
abbrev n_Scale_init : List Str := ["self", "hands", "numbers", "number"]
abbrev p_Scale_init : List Str := ["self", "hands", "numbers"]
theorem sc_Scale_init : FnScope n_Scale_init p_Scale_init (defScope s_Scale_init) := ⟨rfl, rfl, rfl, by decide +kernel, rfl, by decide +kernel, by decide +kernel⟩
theorem bd_Scale_init (kV doc pm : Value) (an : Option Addr) (cdv ct : Value) (us : List Value) (hl : us.length = 3) : bindArgs (PySem.W.fnOf "__init__" "Scale.__init__" (defArgs s_Scale_init) (defBody s_Scale_init) (defScope s_Scale_init) .none kV doc pm an cdv ct) ⟨us, []⟩ = pure (List.zip p_Scale_init us) := match us, hl with | [_, _, _], _ => rfl
abbrev s_Scale_nothing : Stmt := inClass (top 65) 3
abbrev n_Scale_nothing : List Str := ["cls", "hands", "_"]
abbrev p_Scale_nothing : List Str := ["cls", "hands"]
theorem sc_Scale_nothing : FnScope n_Scale_nothing p_Scale_nothing (defScope s_Scale_nothing) := ⟨rfl, rfl, rfl, by decide +kernel, rfl, by decide +kernel, by decide +kernel⟩
theorem bd_Scale_nothing (kV doc pm : Value) (an : Option Addr) (cdv ct : Value) (us : List Value) (hl : us.length = 2) : bindArgs (PySem.W.fnOf "nothing" "Scale.nothing" (defArgs s_Scale_nothing) (defBody s_Scale_nothing) (defScope s_Scale_nothing) .none kV doc pm an cdv ct) ⟨us, []⟩ = pure (List.zip p_Scale_nothing us) := match us, hl with | [_, _], _ => rfl
abbrev s_Scale_getitem : Stmt := inClass (top 65) 4
abbrev n_Scale_getitem : List Str := ["self", "lot"]
abbrev p_Scale_getitem : List Str := ["self", "lot"]
theorem sc_Scale_getitem : FnScope n_Scale_getitem p_Scale_getitem (defScope s_Scale_getitem) := ⟨rfl, rfl, rfl, by decide +kernel, rfl, by decide +kernel, by decide +kernel⟩
theorem bd_Scale_getitem (kV doc pm : Value) (an : Option Addr) (cdv ct : Value) (us : List Value) (hl : us.length = 2) : bindArgs (PySem.W.fnOf "__getitem__" "Scale.__getitem__" (defArgs s_Scale_getitem) (defBody s_Scale_getitem) (defScope s_Scale_getitem) .none kV doc pm an cdv ct) ⟨us, []⟩ = pure (List.zip p_Scale_getitem us) := match us, hl with | [_, _], _ => rfl
abbrev s_Scale_iter : Stmt := inClass (top 65) 5
abbrev n_Scale_iter : List Str := ["self"]
abbrev p_Scale_iter : List Str := ["self"]
theorem sc_Scale_iter : FnScope n_Scale_iter p_Scale_iter (defScope s_Scale_iter) := ⟨rfl, rfl, rfl, by decide +kernel, rfl, by decide +kernel, by decide +kernel⟩
theorem bd_Scale_iter (kV doc pm : Value) (an : Option Addr) (cdv ct : Value) (us : List Value) (hl : us.length = 1) : bindArgs (PySem.W.fnOf "__iter__" "Scale.__iter__" (defArgs s_Scale_iter) (defBody s_Scale_iter) (defScope s_Scale_iter) .none kV doc pm an cdv ct) ⟨us, []⟩ = pure (List.zip p_Scale_iter us) := match us, hl with | [_], _ => rfl
abbrev s_check_opposite : Stmt := top 66
abbrev n_check_opposite : List Str := ["hands", "numbers", "mask"]
abbrev p_check_opposite : List Str := ["hands", "numbers"]
theorem sc_check_opposite : FnScope n_check_opposite p_check_opposite (defScope s_check_opposite) := ⟨rfl, rfl, rfl, by decide +kernel, rfl, by decide +kernel, by decide +kernel⟩
theorem bd_check_opposite (kV doc pm : Value) (an : Option Addr) (cdv ct : Value) (us : List Value) (hl : us.length = 2) : bindArgs (PySem.W.fnOf "check_opposite" "check_opposite" (defArgs s_check_opposite) (defBody s_check_opposite) (defScope s_check_opposite) .none kV doc pm an cdv ct) ⟨us, []⟩ = pure (List.zip p_check_opposite us) := match us, hl with | [_, _], _ => rfl
abbrev s_check_rising : Stmt := top 67
abbrev n_check_rising : List Str := ["hands", "numbers", "mask", "hand"]
abbrev p_check_rising : List Str := ["hands", "numbers"]
theorem sc_check_rising : FnScope n_check_rising p_check_rising (defScope s_check_rising) := ⟨rfl, rfl, rfl, by decide +kernel, rfl, by decide +kernel, by decide +kernel⟩
theorem bd_check_rising (kV doc pm : Value) (an : Option Addr) (cdv ct : Value) (us : List Value) (hl : us.length = 2) : bindArgs (PySem.W.fnOf "check_rising" "check_rising" (defArgs s_check_rising) (defBody s_check_rising) (defScope s_check_rising) .none kV doc pm an cdv ct) ⟨us, []⟩ = pure (List.zip p_check_rising us) := match us, hl with | [_, _], _ => rfl
abbrev s_law_digit : Stmt := top 73
abbrev n_law_digit : List Str := ["_law_cells", "_law_box", "_law_m", "_law_cell", "_law_digit_here"]
abbrev p_law_digit : List Str := ["_law_cells", "_law_box", "_law_m"]
theorem sc_law_digit : FnScope n_law_digit p_law_digit (defScope s_law_digit) := ⟨rfl, rfl, rfl, by decide +kernel, rfl, by decide +kernel, by decide +kernel⟩
theorem bd_law_digit (kV doc pm : Value) (an : Option Addr) (cdv ct : Value) (us : List Value) (hl : us.length = 3) : bindArgs (PySem.W.fnOf "_law_digit" "_law_digit" (defArgs s_law_digit) (defBody s_law_digit) (defScope s_law_digit) .none kV doc pm an cdv ct) ⟨us, []⟩ = pure (List.zip p_law_digit us) := match us, hl with | [_, _, _], _ => rfl
abbrev s_law_same : Stmt := top 74
abbrev n_law_same : List Str := ["_law_told", "_law_due", "_law_k"]
abbrev p_law_same : List Str := ["_law_told", "_law_due"]
theorem sc_law_same : FnScope n_law_same p_law_same (defScope s_law_same) := ⟨rfl, rfl, rfl, by decide +kernel, rfl, by decide +kernel, by decide +kernel⟩
theorem bd_law_same (kV doc pm : Value) (an : Option Addr) (cdv ct : Value) (us : List Value) (hl : us.length = 2) : bindArgs (PySem.W.fnOf "_law_same" "_law_same" (defArgs s_law_same) (defBody s_law_same) (defScope s_law_same) .none kV doc pm an cdv ct) ⟨us, []⟩ = pure (List.zip p_law_same us) := match us, hl with | [_, _], _ => rfl
abbrev s_law_push : Stmt := top 75
abbrev n_law_push : List Str := ["_law_numbers", "_law_mask", "_law_number", "_law_full", "_law_code"]
abbrev p_law_push : List Str := ["_law_numbers", "_law_mask", "_law_number"]
theorem sc_law_push : FnScope n_law_push p_law_push (defScope s_law_push) := ⟨rfl, rfl, rfl, by decide +kernel, rfl, by decide +kernel, by decide +kernel⟩
theorem bd_law_push (kV doc pm : Value) (an : Option Addr) (cdv ct : Value) (us : List Value) (hl : us.length = 3) : bindArgs (PySem.W.fnOf "_law_push" "_law_push" (defArgs s_law_push) (defBody s_law_push) (defScope s_law_push) .none kV doc pm an cdv ct) ⟨us, []⟩ = pure (List.zip p_law_push us) := match us, hl with | [_, _, _], _ => rfl
abbrev s_law_pushed : Stmt := top 76
abbrev n_law_pushed : List Str := ["_law_cells", "_law_box", "_law_hands", "_law_full", "_law_numbers", "_law_k", "_law_spot", "_law_mask", "_law_amount"]
abbrev p_law_pushed : List Str := ["_law_cells", "_law_box", "_law_hands"]
theorem sc_law_pushed : FnScope n_law_pushed p_law_pushed (defScope s_law_pushed) := ⟨rfl, rfl, rfl, by decide +kernel, rfl, by decide +kernel, by decide +kernel⟩
theorem bd_law_pushed (kV doc pm : Value) (an : Option Addr) (cdv ct : Value) (us : List Value) (hl : us.length = 3) : bindArgs (PySem.W.fnOf "_law_pushed" "_law_pushed" (defArgs s_law_pushed) (defBody s_law_pushed) (defScope s_law_pushed) .none kV doc pm an cdv ct) ⟨us, []⟩ = pure (List.zip p_law_pushed us) := match us, hl with | [_, _, _], _ => rfl
abbrev s_law_reduced : Stmt := top 77
abbrev n_law_reduced : List Str := ["_law_top", "_law_bottom", "_law_low", "_law_high", "_law_k"]
abbrev p_law_reduced : List Str := ["_law_top", "_law_bottom"]
theorem sc_law_reduced : FnScope n_law_reduced p_law_reduced (defScope s_law_reduced) := ⟨rfl, rfl, rfl, by decide +kernel, rfl, by decide +kernel, by decide +kernel⟩
theorem bd_law_reduced (kV doc pm : Value) (an : Option Addr) (cdv ct : Value) (us : List Value) (hl : us.length = 2) : bindArgs (PySem.W.fnOf "_law_reduced" "_law_reduced" (defArgs s_law_reduced) (defBody s_law_reduced) (defScope s_law_reduced) .none kV doc pm an cdv ct) ⟨us, []⟩ = pure (List.zip p_law_reduced us) := match us, hl with | [_, _], _ => rfl
abbrev s_law_deals : Stmt := top 78
abbrev n_law_deals : List Str := ["_law_near", "_law_free", "_law_deals_here", "_law_h", "_law_code"]
abbrev p_law_deals : List Str := ["_law_near", "_law_free"]
theorem sc_law_deals : FnScope n_law_deals p_law_deals (defScope s_law_deals) := ⟨rfl, rfl, rfl, by decide +kernel, rfl, by decide +kernel, by decide +kernel⟩
theorem bd_law_deals (kV doc pm : Value) (an : Option Addr) (cdv ct : Value) (us : List Value) (hl : us.length = 2) : bindArgs (PySem.W.fnOf "_law_deals" "_law_deals" (defArgs s_law_deals) (defBody s_law_deals) (defScope s_law_deals) .none kV doc pm an cdv ct) ⟨us, []⟩ = pure (List.zip p_law_deals us) := match us, hl with | [_, _], _ => rfl
abbrev s_law_below : Stmt := top 79
abbrev n_law_below : List Str := ["_law_numbers", "_law_near", "_law_free", "_law_least", "_law_deals_here", "_law_code"]
abbrev p_law_below : List Str := ["_law_numbers", "_law_near", "_law_free", "_law_least"]
theorem sc_law_below : FnScope n_law_below p_law_below (defScope s_law_below) := ⟨rfl, rfl, rfl, by decide +kernel, rfl, by decide +kernel, by decide +kernel⟩
theorem bd_law_below (kV doc pm : Value) (an : Option Addr) (cdv ct : Value) (us : List Value) (hl : us.length = 4) : bindArgs (PySem.W.fnOf "_law_below" "_law_below" (defArgs s_law_below) (defBody s_law_below) (defScope s_law_below) .none kV doc pm an cdv ct) ⟨us, []⟩ = pure (List.zip p_law_below us) := match us, hl with | [_, _, _, _], _ => rfl
abbrev s_law_bid_due : Stmt := top 80
abbrev n_law_bid_due : List Str := ["_law_numbers", "_law_near", "_law_free", "_law_least", "_law_lows", "_law_highs", "_law_h", "_law_left", "_law_bid", "_law_x"]
abbrev p_law_bid_due : List Str := ["_law_numbers", "_law_near", "_law_free", "_law_least"]
theorem sc_law_bid_due : FnScope n_law_bid_due p_law_bid_due (defScope s_law_bid_due) := ⟨rfl, rfl, rfl, by decide +kernel, rfl, by decide +kernel, by decide +kernel⟩
theorem bd_law_bid_due (kV doc pm : Value) (an : Option Addr) (cdv ct : Value) (us : List Value) (hl : us.length = 4) : bindArgs (PySem.W.fnOf "_law_bid_due" "_law_bid_due" (defArgs s_law_bid_due) (defBody s_law_bid_due) (defScope s_law_bid_due) .none kV doc pm an cdv ct) ⟨us, []⟩ = pure (List.zip p_law_bid_due us) := match us, hl with | [_, _, _, _], _ => rfl
abbrev s_law_pair : Stmt := top 81
abbrev n_law_pair : List Str := ["_law_told"]
abbrev p_law_pair : List Str := ["_law_told"]
theorem sc_law_pair : FnScope n_law_pair p_law_pair (defScope s_law_pair) := ⟨rfl, rfl, rfl, by decide +kernel, rfl, by decide +kernel, by decide +kernel⟩
theorem bd_law_pair (kV doc pm : Value) (an : Option Addr) (cdv ct : Value) (us : List Value) (hl : us.length = 1) : bindArgs (PySem.W.fnOf "_law_pair" "_law_pair" (defArgs s_law_pair) (defBody s_law_pair) (defScope s_law_pair) .none kV doc pm an cdv ct) ⟨us, []⟩ = pure (List.zip p_law_pair us) := match us, hl with | [_], _ => rfl
abbrev s_law_no_more : Stmt := top 82
abbrev n_law_no_more : List Str := ["_law_one", "_law_two"]
abbrev p_law_no_more : List Str := ["_law_one", "_law_two"]
theorem sc_law_no_more : FnScope n_law_no_more p_law_no_more (defScope s_law_no_more) := ⟨rfl, rfl, rfl, by decide +kernel, rfl, by decide +kernel, by decide +kernel⟩
theorem bd_law_no_more (kV doc pm : Value) (an : Option Addr) (cdv ct : Value) (us : List Value) (hl : us.length = 2) : bindArgs (PySem.W.fnOf "_law_no_more" "_law_no_more" (defArgs s_law_no_more) (defBody s_law_no_more) (defScope s_law_no_more) .none kV doc pm an cdv ct) ⟨us, []⟩ = pure (List.zip p_law_no_more us) := match us, hl with | [_, _], _ => rfl
abbrev s_law_sum : Stmt := top 83
abbrev n_law_sum : List Str := ["_law_one", "_law_two", "_law_sign", "_law_top"]
abbrev p_law_sum : List Str := ["_law_one", "_law_two", "_law_sign"]
theorem sc_law_sum : FnScope n_law_sum p_law_sum (defScope s_law_sum) := ⟨rfl, rfl, rfl, by decide +kernel, rfl, by decide +kernel, by decide +kernel⟩
theorem bd_law_sum (kV doc pm : Value) (an : Option Addr) (cdv ct : Value) (us : List Value) (hl : us.length = 3) : bindArgs (PySem.W.fnOf "_law_sum" "_law_sum" (defArgs s_law_sum) (defBody s_law_sum) (defScope s_law_sum) .none kV doc pm an cdv ct) ⟨us, []⟩ = pure (List.zip p_law_sum us) := match us, hl with | [_, _, _], _ => rfl
abbrev s_law_value : Stmt := top 84
abbrev n_law_value : List Str := ["_law_pair_here", "_law_plain"]
abbrev p_law_value : List Str := ["_law_pair_here", "_law_plain"]
theorem sc_law_value : FnScope n_law_value p_law_value (defScope s_law_value) := ⟨rfl, rfl, rfl, by decide +kernel, rfl, by decide +kernel, by decide +kernel⟩
theorem bd_law_value (kV doc pm : Value) (an : Option Addr) (cdv ct : Value) (us : List Value) (hl : us.length = 2) : bindArgs (PySem.W.fnOf "_law_value" "_law_value" (defArgs s_law_value) (defBody s_law_value) (defScope s_law_value) .none kV doc pm an cdv ct) ⟨us, []⟩ = pure (List.zip p_law_value us) := match us, hl with | [_, _], _ => rfl
abbrev s_law_all_of : Stmt := top 85
abbrev n_law_all_of : List Str := ["_law_coins"]
abbrev p_law_all_of : List Str := ["_law_coins"]
theorem sc_law_all_of : FnScope n_law_all_of p_law_all_of (defScope s_law_all_of) := ⟨rfl, rfl, rfl, by decide +kernel, rfl, by decide +kernel, by decide +kernel⟩
theorem bd_law_all_of (kV doc pm : Value) (an : Option Addr) (cdv ct : Value) (us : List Value) (hl : us.length = 1) : bindArgs (PySem.W.fnOf "_law_all_of" "_law_all_of" (defArgs s_law_all_of) (defBody s_law_all_of) (defScope s_law_all_of) .none kV doc pm an cdv ct) ⟨us, []⟩ = pure (List.zip p_law_all_of us) := match us, hl with | [_], _ => rfl
abbrev s_law_any_bid : Stmt := top 86
abbrev n_law_any_bid : List Str := ["_law_cells", "_law_box", "_law_coins", "_law_told", "_law_option", "_law_bottom", "_law_most", "_law_bid"]
abbrev p_law_any_bid : List Str := ["_law_cells", "_law_box", "_law_coins", "_law_told", "_law_option"]
theorem sc_law_any_bid : FnScope n_law_any_bid p_law_any_bid (defScope s_law_any_bid) := ⟨rfl, rfl, rfl, by decide +kernel, rfl, by decide +kernel, by decide +kernel⟩
theorem bd_law_any_bid (kV doc pm : Value) (an : Option Addr) (cdv ct : Value) (us : List Value) (hl : us.length = 5) : bindArgs (PySem.W.fnOf "_law_any_bid" "_law_any_bid" (defArgs s_law_any_bid) (defBody s_law_any_bid) (defScope s_law_any_bid) .none kV doc pm an cdv ct) ⟨us, []⟩ = pure (List.zip p_law_any_bid us) := match us, hl with | [_, _, _, _, _], _ => rfl
abbrev s_law_state_right : Stmt := top 87
abbrev n_law_state_right : List Str := ["_law_auction", "_law_numbers", "_law_sides", "_law_purse", "_law_due", "_law_h"]
abbrev p_law_state_right : List Str := ["_law_auction", "_law_numbers", "_law_sides", "_law_purse"]
theorem sc_law_state_right : FnScope n_law_state_right p_law_state_right (defScope s_law_state_right) := ⟨rfl, rfl, rfl, by decide +kernel, rfl, by decide +kernel, by decide +kernel⟩
theorem bd_law_state_right (kV doc pm : Value) (an : Option Addr) (cdv ct : Value) (us : List Value) (hl : us.length = 4) : bindArgs (PySem.W.fnOf "_law_state_right" "_law_state_right" (defArgs s_law_state_right) (defBody s_law_state_right) (defScope s_law_state_right) .none kV doc pm an cdv ct) ⟨us, []⟩ = pure (List.zip p_law_state_right us) := match us, hl with | [_, _, _, _], _ => rfl
abbrev s_law_wished : Stmt := top 88
abbrev n_law_wished : List Str := ["_law_cells", "_law_box", "_law_numbers", "_law_free", "_law_full", "_law_code", "_law_least"]
abbrev p_law_wished : List Str := ["_law_cells", "_law_box", "_law_numbers", "_law_free"]
theorem sc_law_wished : FnScope n_law_wished p_law_wished (defScope s_law_wished) := ⟨rfl, rfl, rfl, by decide +kernel, rfl, by decide +kernel, by decide +kernel⟩
theorem bd_law_wished (kV doc pm : Value) (an : Option Addr) (cdv ct : Value) (us : List Value) (hl : us.length = 4) : bindArgs (PySem.W.fnOf "_law_wished" "_law_wished" (defArgs s_law_wished) (defBody s_law_wished) (defScope s_law_wished) .none kV doc pm an cdv ct) ⟨us, []⟩ = pure (List.zip p_law_wished us) := match us, hl with | [_, _, _, _], _ => rfl
abbrev s_law_share : Stmt := top 89
abbrev n_law_share : List Str := ["_law_cells", "_law_box", "_law_many", "_law_parts", "_law_kind", "_law_bottom", "_law_top"]
abbrev p_law_share : List Str := ["_law_cells", "_law_box", "_law_many", "_law_parts"]
theorem sc_law_share : FnScope n_law_share p_law_share (defScope s_law_share) := ⟨rfl, rfl, rfl, by decide +kernel, rfl, by decide +kernel, by decide +kernel⟩
theorem bd_law_share (kV doc pm : Value) (an : Option Addr) (cdv ct : Value) (us : List Value) (hl : us.length = 4) : bindArgs (PySem.W.fnOf "_law_share" "_law_share" (defArgs s_law_share) (defBody s_law_share) (defScope s_law_share) .none kV doc pm an cdv ct) ⟨us, []⟩ = pure (List.zip p_law_share us) := match us, hl with | [_, _, _, _], _ => rfl
abbrev s_law_fault : Stmt := top 90
abbrev n_law_fault : List Str := ["_law_e", "_law_found"]
abbrev p_law_fault : List Str := ["_law_e"]
theorem sc_law_fault : FnScope n_law_fault p_law_fault (defScope s_law_fault) := ⟨rfl, rfl, rfl, by decide +kernel, rfl, by decide +kernel, by decide +kernel⟩
theorem bd_law_fault (kV doc pm : Value) (an : Option Addr) (cdv ct : Value) (us : List Value) (hl : us.length = 1) : bindArgs (PySem.W.fnOf "_law_fault" "_law_fault" (defArgs s_law_fault) (defBody s_law_fault) (defScope s_law_fault) .none kV doc pm an cdv ct) ⟨us, []⟩ = pure (List.zip p_law_fault us) := match us, hl with | [_], _ => rfl
abbrev s_law_called : Stmt := top 91
abbrev n_law_called : List Str := ["_law_auction", "_law_call", "_law_near", "_law_far", "_law_e"]
abbrev p_law_called : List Str := ["_law_auction", "_law_call"]
theorem sc_law_called : FnScope n_law_called p_law_called (defScope s_law_called) := ⟨rfl, rfl, rfl, by decide +kernel, rfl, by decide +kernel, by decide +kernel⟩
theorem bd_law_called (kV doc pm : Value) (an : Option Addr) (cdv ct : Value) (us : List Value) (hl : us.length = 2) : bindArgs (PySem.W.fnOf "_law_called" "_law_called" (defArgs s_law_called) (defBody s_law_called) (defScope s_law_called) .none kV doc pm an cdv ct) ⟨us, []⟩ = pure (List.zip p_law_called us) := match us, hl with | [_, _], _ => rfl
abbrev s_law_opened : Stmt := top 92
abbrev n_law_opened : List Str := ["_law_scale", "_law_share_here", "_law_e"]
abbrev p_law_opened : List Str := ["_law_scale", "_law_share_here"]
theorem sc_law_opened : FnScope n_law_opened p_law_opened (defScope s_law_opened) := ⟨rfl, rfl, rfl, by decide +kernel, rfl, by decide +kernel, by decide +kernel⟩
theorem bd_law_opened (kV doc pm : Value) (an : Option Addr) (cdv ct : Value) (us : List Value) (hl : us.length = 2) : bindArgs (PySem.W.fnOf "_law_opened" "_law_opened" (defArgs s_law_opened) (defBody s_law_opened) (defScope s_law_opened) .none kV doc pm an cdv ct) ⟨us, []⟩ = pure (List.zip p_law_opened us) := match us, hl with | [_, _], _ => rfl
abbrev s_law_call_due : Stmt := top 93
abbrev n_law_call_due : List Str := ["_law_hands", "_law_book", "_law_call", "_law_coins", "_law_k", "_law_hand", "_law_bid", "_law_good"]
abbrev p_law_call_due : List Str := ["_law_hands", "_law_book", "_law_call"]
theorem sc_law_call_due : FnScope n_law_call_due p_law_call_due (defScope s_law_call_due) := ⟨rfl, rfl, rfl, by decide +kernel, rfl, by decide +kernel, by decide +kernel⟩
theorem bd_law_call_due (kV doc pm : Value) (an : Option Addr) (cdv ct : Value) (us : List Value) (hl : us.length = 3) : bindArgs (PySem.W.fnOf "_law_call_due" "_law_call_due" (defArgs s_law_call_due) (defBody s_law_call_due) (defScope s_law_call_due) .none kV doc pm an cdv ct) ⟨us, []⟩ = pure (List.zip p_law_call_due us) := match us, hl with | [_, _, _], _ => rfl
abbrev s_law_bad_call : Stmt := top 94
abbrev n_law_bad_call : List Str := ["_law_cells", "_law_box", "_law_hands", "_law_book", "_law_call", "_law_turn", "_law_coins", "_law_hired", "_law_bad", "_law_place", "_law_k", "_law_menu", "_law_spot", "_law_own"]
abbrev p_law_bad_call : List Str := ["_law_cells", "_law_box", "_law_hands", "_law_book", "_law_call", "_law_turn"]
theorem sc_law_bad_call : FnScope n_law_bad_call p_law_bad_call (defScope s_law_bad_call) := ⟨rfl, rfl, rfl, by decide +kernel, rfl, by decide +kernel, by decide +kernel⟩
theorem bd_law_bad_call (kV doc pm : Value) (an : Option Addr) (cdv ct : Value) (us : List Value) (hl : us.length = 6) : bindArgs (PySem.W.fnOf "_law_bad_call" "_law_bad_call" (defArgs s_law_bad_call) (defBody s_law_bad_call) (defScope s_law_bad_call) .none kV doc pm an cdv ct) ⟨us, []⟩ = pure (List.zip p_law_bad_call us) := match us, hl with | [_, _, _, _, _, _], _ => rfl
abbrev s_law_told_right : Stmt := top 95
abbrev n_law_told_right : List Str := ["_law_scale", "_law_numbers", "_law_sides", "_law_least", "_law_due", "_law_turn", "_law_near", "_law_far", "_law_k", "_law_told"]
abbrev p_law_told_right : List Str := ["_law_scale", "_law_numbers", "_law_sides", "_law_least", "_law_due", "_law_turn"]
theorem sc_law_told_right : FnScope n_law_told_right p_law_told_right (defScope s_law_told_right) := ⟨rfl, rfl, rfl, by decide +kernel, rfl, by decide +kernel, by decide +kernel⟩
theorem bd_law_told_right (kV doc pm : Value) (an : Option Addr) (cdv ct : Value) (us : List Value) (hl : us.length = 6) : bindArgs (PySem.W.fnOf "_law_told_right" "_law_told_right" (defArgs s_law_told_right) (defBody s_law_told_right) (defScope s_law_told_right) .none kV doc pm an cdv ct) ⟨us, []⟩ = pure (List.zip p_law_told_right us) := match us, hl with | [_, _, _, _, _, _], _ => rfl
abbrev s_law_round_right : Stmt := top 96
abbrev n_law_round_right : List Str := ["_law_cells", "_law_box", "_law_auction", "_law_scale", "_law_book", "_law_least", "_law_turn", "_law_numbers", "_law_sides", "_law_purse", "_law_hands", "_law_near", "_law_many", "_law_parts", "_law_due", "_law_option", "_law_bid", "_law_hand", "_law_told", "_law_call", "_law_k", "_law_bad", "_law_fault_here", "_law_winner", "_law_h"]
abbrev p_law_round_right : List Str := ["_law_cells", "_law_box", "_law_auction", "_law_scale", "_law_book", "_law_least", "_law_turn"]
theorem sc_law_round_right : FnScope n_law_round_right p_law_round_right (defScope s_law_round_right) := ⟨rfl, rfl, rfl, by decide +kernel, rfl, by decide +kernel, by decide +kernel⟩
theorem bd_law_round_right (kV doc pm : Value) (an : Option Addr) (cdv ct : Value) (us : List Value) (hl : us.length = 7) : bindArgs (PySem.W.fnOf "_law_round_right" "_law_round_right" (defArgs s_law_round_right) (defBody s_law_round_right) (defScope s_law_round_right) .none kV doc pm an cdv ct) ⟨us, []⟩ = pure (List.zip p_law_round_right us) := match us, hl with | [_, _, _, _, _, _, _], _ => rfl
abbrev s_law_opening_right : Stmt := top 97
abbrev n_law_opening_right : List Str := ["_law_scale", "_law_due", "_law_bad"]
abbrev p_law_opening_right : List Str := ["_law_scale"]
theorem sc_law_opening_right : FnScope n_law_opening_right p_law_opening_right (defScope s_law_opening_right) := ⟨rfl, rfl, rfl, by decide +kernel, rfl, by decide +kernel, by decide +kernel⟩
theorem bd_law_opening_right (kV doc pm : Value) (an : Option Addr) (cdv ct : Value) (us : List Value) (hl : us.length = 1) : bindArgs (PySem.W.fnOf "_law_opening_right" "_law_opening_right" (defArgs s_law_opening_right) (defBody s_law_opening_right) (defScope s_law_opening_right) .none kV doc pm an cdv ct) ⟨us, []⟩ = pure (List.zip p_law_opening_right us) := match us, hl with | [_], _ => rfl
abbrev s_law : Stmt := top 98
abbrev n_law : List Str := ["_law_script", "_law_cells", "_law_box", "_law_hands", "_law_numbers", "_law_factor", "_law_free", "_law_least", "_law_many", "_law_share_here", "_law_plain", "_law_scale", "_law_due", "_law_told", "_law_auction", "_law_book", "_law_turn", "_law_call", "_law_x", "_law_number"]
abbrev p_law : List Str := ["_law_script"]
theorem sc_law : FnScope n_law p_law (defScope s_law) := ⟨rfl, rfl, rfl, by decide +kernel, rfl, by decide +kernel, by decide +kernel⟩
theorem bd_law (kV doc pm : Value) (an : Option Addr) (cdv ct : Value) (us : List Value) (hl : us.length = 1) : bindArgs (PySem.W.fnOf "law" "law" (defArgs s_law) (defBody s_law) (defScope s_law) .none kV doc pm an cdv ct) ⟨us, []⟩ = pure (List.zip p_law us) := match us, hl with | [_], _ => rfl
end DD
set_option linter.all false
set_option maxRecDepth 100000
set_option maxHeartbeats 4000000
/-! M0: plain math: masks, deals, counts. -/
namespace PM
def bs (l : List Nat) : Nat := (l.map (2 ^ ·)).sum
theorem bs_nil : bs [] = 0 := rfl
theorem bs_cons (a : Nat) (l : List Nat) : bs (a :: l) = 2 ^ a + bs l := by simp [bs]
theorem bs_append (l m : List Nat) : bs (l ++ m) = bs l + bs m := by simp [bs]
theorem bs_perm {l m : List Nat} (h : l.Perm m) : bs l = bs m := (h.map _).sum_nat
/-- a bit put in -/
theorem bit_in : ∀ x < 128, ∀ j < 7, Nat.testBit x j = false → x + 2 ^ j = x ||| 2 ^ j := by decide +kernel
theorem bit_lt : ∀ x < 128, ∀ j < 7, x ||| 2 ^ j < 128 := by decide +kernel
theorem bs_lt_bit : ∀ {l : List Nat}, l.Nodup → (∀ i ∈ l, i < 7) → bs l < 128 ∧ ∀ i, Nat.testBit (bs l) i = decide (i ∈ l)
  | [], _, _ => ⟨by decide, fun i => by simp [bs]⟩
  | a :: l, nd, h => by
    obtain ⟨h1, h2⟩ := bs_lt_bit (l := l) (List.nodup_cons.mp nd).2 fun i hi => h i (List.mem_cons_of_mem _ hi)
    have ha := h a (List.mem_cons_self ..)
    have hb : Nat.testBit (bs l) a = false := by rw [h2]; exact decide_eq_false (List.nodup_cons.mp nd).1
    have e : bs (a :: l) = bs l ||| 2 ^ a := by rw [bs_cons, Nat.add_comm]; exact bit_in _ h1 _ ha hb
    refine ⟨by rw [e]; exact bit_lt _ h1 _ ha, fun i => ?_⟩
    rw [e, Nat.testBit_or, h2, Nat.testBit_two_pow]
    by_cases hi : i = a
    · subst hi; simp
    · have : ¬ a = i := fun z => hi z.symm
      simp [hi, this]
theorem bs_bit {l : List Nat} (nd : l.Nodup) (h : ∀ i ∈ l, i < 7) (i : Nat) : Nat.testBit (bs l) i = decide (i ∈ l) := (bs_lt_bit nd h).2 i
theorem bs_lt {l : List Nat} (nd : l.Nodup) (h : ∀ i ∈ l, i < 7) : bs l < 128 := (bs_lt_bit nd h).1
theorem eq_of_lt_pairwise : ∀ {l m : List Nat}, l.Pairwise (· < ·) → m.Pairwise (· < ·) → (∀ i, i ∈ l ↔ i ∈ m) → l = m
  | [], [], _, _, _ => rfl
  | [], b :: m, _, _, h => absurd ((h b).mpr (List.mem_cons_self ..)) (by simp)
  | a :: l, [], _, _, h => absurd ((h a).mp (List.mem_cons_self ..)) (by simp)
  | a :: l, b :: m, hl, hm, h => by
    have h1 := List.pairwise_cons.mp hl
    have h2 := List.pairwise_cons.mp hm
    have hab : a = b := by
      rcases List.mem_cons.mp ((h a).mp (List.mem_cons_self ..)) with e | e
      · exact e
      · rcases List.mem_cons.mp ((h b).mpr (List.mem_cons_self ..)) with e' | e'
        · exact e'.symm
        · have := h2.1 a e
          have := h1.1 b e'
          omega
    subst hab
    congr 1
    refine eq_of_lt_pairwise h1.2 h2.2 fun i => ?_
    constructor
    · intro hi
      rcases List.mem_cons.mp ((h i).mp (List.mem_cons_of_mem _ hi)) with e | e
      · have := h1.1 i hi; omega
      · exact e
    · intro hi
      rcases List.mem_cons.mp ((h i).mpr (List.mem_cons_of_mem _ hi)) with e | e
      · have := h2.1 i hi; omega
      · exact e
theorem range_pw (n : Nat) : (List.range n).Pairwise (· < ·) := List.pairwise_lt_range
/-- the bits of a sorted list's mask -/
theorem bits_of {l : List Nat} (hs : l.Pairwise (· < ·)) (h7 : ∀ i ∈ l, i < 7) {n : Nat} (hn : ∀ i ∈ l, i < n) : (List.range n).filter (fun i => Nat.testBit (bs l) i) = l := by
  have nd : l.Nodup := hs.imp fun h => Nat.ne_of_lt h
  refine eq_of_lt_pairwise ((range_pw n).filter _) hs fun i => ?_
  rw [List.mem_filter, List.mem_range, bs_bit nd h7]
  constructor
  · rintro ⟨_, h⟩; simpa using h
  · intro h; exact ⟨hn i h, by simpa using h⟩
theorem bs_le {l : List Nat} {i : Nat} (h : i ∈ l) : 2 ^ i ≤ bs l := by
  induction l with
  | nil => cases h
  | cons a l ih =>
    rw [bs_cons]
    rcases List.mem_cons.mp h with e | e
    · subst e; exact Nat.le_add_right _ _
    · exact Nat.le_trans (ih e) (Nat.le_add_left _ _)
/-! ### a stand: who is free, near, far -/
structure Part (h : Nat) (near far free : List Nat) : Prop where
  h7 : h ≤ 7
  perm : (free ++ (near ++ far)).Perm (List.range h)
theorem Part.nd {h : Nat} {near far free : List Nat} (p : Part h near far free) : (free ++ (near ++ far)).Nodup := p.perm.nodup_iff.mpr List.nodup_range
theorem Part.mem {h : Nat} {near far free : List Nat} (p : Part h near far free) {i : Nat} : (i ∈ free ∨ i ∈ near ∨ i ∈ far) ↔ i < h := by
  have := p.perm.mem_iff (a := i)
  simpa using this
theorem Part.ndn {h : Nat} {near far free : List Nat} (p : Part h near far free) : near.Nodup ∧ far.Nodup ∧ free.Nodup ∧ (∀ i, i ∈ near → i ∉ far) ∧ (∀ i, i ∈ free → i ∉ near ∧ i ∉ far) := by
  have h0 := List.nodup_append.mp p.nd
  have h1 := List.nodup_append.mp h0.2.1
  refine ⟨h1.1, h1.2.1, h0.1, fun i hi hf => h1.2.2 i hi i hf rfl, fun i hi => ⟨fun hn => ?_, fun hn => ?_⟩⟩
  · exact h0.2.2 i hi i (List.mem_append_left _ hn) rfl
  · exact h0.2.2 i hi i (List.mem_append_right _ hn) rfl
theorem bs_range : ∀ n, bs (List.range n) = 2 ^ n - 1
  | 0 => rfl
  | n + 1 => by
    rw [List.range_succ, bs_append, bs_range n]
    simp only [bs, List.map_cons, List.map_nil, List.sum_cons, List.sum_nil]
    have := Nat.two_pow_pos n
    rw [Nat.pow_succ]
    omega
theorem Part.rest {h : Nat} {near far free : List Nat} (p : Part h near far free) : bs free + (bs near + bs far) = 2 ^ h - 1 := by
  rw [← bs_range, ← bs_perm p.perm, bs_append, bs_append]
/-! ### the program's deals -/
def fits (near far m : Nat) : Bool := decide (m &&& near = near) && decide (m &&& far = 0)
def masks (h near far : Nat) : List Nat := (List.range (2 ^ h)).filter (fits near far)
theorem sub_iff {a m : Nat} : m &&& a = a ↔ ∀ i, Nat.testBit a i = true → Nat.testBit m i = true := by
  constructor
  · intro h i hi
    have := congrArg (fun x => Nat.testBit x i) h
    simp only [Nat.testBit_and, hi, Bool.and_true] at this
    exact this
  · intro h
    apply Nat.eq_of_testBit_eq
    intro i
    rw [Nat.testBit_and]
    cases e : Nat.testBit a i with
    | true => rw [h i e]; rfl
    | false => simp
theorem dis_iff {a m : Nat} : m &&& a = 0 ↔ ∀ i, Nat.testBit a i = true → Nat.testBit m i = false := by
  constructor
  · intro h i hi
    have := congrArg (fun x => Nat.testBit x i) h
    simp only [Nat.testBit_and, hi, Bool.and_true, Nat.zero_testBit] at this
    exact this
  · intro h
    apply Nat.eq_of_testBit_eq
    intro i
    rw [Nat.testBit_and, Nat.zero_testBit]
    cases e : Nat.testBit a i with
    | true => rw [h i e]; rfl
    | false => simp
theorem fits_iff {a b m : Nat} : fits a b m = true ↔ (∀ i, Nat.testBit a i = true → Nat.testBit m i = true) ∧ ∀ i, Nat.testBit b i = true → Nat.testBit m i = false := by
  unfold fits
  rw [Bool.and_eq_true, decide_eq_true_iff, decide_eq_true_iff, sub_iff, dis_iff]
/-! ### the law's deals -/
def deals (ds : List Nat) : List Nat → List Nat
  | [] => ds
  | h :: r => deals (ds ++ ds.map (· + 2 ^ h)) r
theorem deals_length : ∀ (fr ds : List Nat), (deals ds fr).length = ds.length * 2 ^ fr.length
  | [], ds => by simp [deals]
  | h :: r, ds => by
    show (deals (ds ++ ds.map (· + 2 ^ h)) r).length = _
    rw [deals_length r, List.length_append, List.length_map, List.length_cons, Nat.pow_succ]
    have : ds.length + ds.length = ds.length * 2 := by omega
    rw [this, Nat.mul_assoc, Nat.mul_comm 2]
theorem deals_map (c : Nat) : ∀ (fr ds : List Nat), deals (ds.map (· + c)) fr = (deals ds fr).map (· + c)
  | [], ds => rfl
  | h :: r, ds => by
    show deals (ds.map (· + c) ++ (ds.map (· + c)).map (· + 2 ^ h)) r = (deals (ds ++ ds.map (· + 2 ^ h)) r).map (· + c)
    rw [← deals_map c r, List.map_append, List.map_map, List.map_map]
    congr 3
    funext x
    show x + c + 2 ^ h = x + 2 ^ h + c
    omega
/-- what is true of all deals: bits outside the free ones are those of one of ds; nodup -/
theorem deals_ok : ∀ (fr ds : List Nat), fr.Nodup → (∀ i ∈ fr, i < 7) → ds.Nodup → (∀ d ∈ ds, d < 128 ∧ ∀ i ∈ fr, Nat.testBit d i = false) →
    (deals ds fr).Nodup ∧ ∀ m, m ∈ deals ds fr ↔ m < 128 ∧ ∃ d ∈ ds, ∀ i, i ∉ fr → Nat.testBit m i = Nat.testBit d i
  | [], ds, _, _, nd, hd => ⟨nd, fun m => ⟨fun h => ⟨(hd m h).1, m, h, fun _ _ => rfl⟩, fun ⟨_, d, h, e⟩ => by
      have : m = d := Nat.eq_of_testBit_eq fun i => e i (by simp)
      rw [this]; exact h⟩⟩
  | a :: r, ds, ndf, h7, nd, hd => by
    have ha : a < 7 := h7 a (List.mem_cons_self ..)
    have har := (List.nodup_cons.mp ndf).1
    have e : ∀ d ∈ ds, d + 2 ^ a = d ||| 2 ^ a := fun d hm => bit_in d (hd d hm).1 a ha ((hd d hm).2 a (List.mem_cons_self ..))
    have tb : ∀ d ∈ ds, ∀ i, Nat.testBit (d + 2 ^ a) i = (Nat.testBit d i || decide (a = i)) := fun d hm i => by
      rw [e d hm, Nat.testBit_or, Nat.testBit_two_pow]
    have nd2 : (ds ++ ds.map (· + 2 ^ a)).Nodup := by
      refine List.nodup_append.mpr ⟨nd, ?_, ?_⟩
      · exact List.pairwise_map.mpr (nd.imp fun h z => h (by simpa using z))
      · intro x hx y hy z
        obtain ⟨d, hd1, hd2⟩ := List.mem_map.mp hy
        subst hd2
        have t1 := (hd x hx).2 a (List.mem_cons_self ..)
        rw [z, tb d hd1 a] at t1
        simp at t1
    obtain ⟨h1, h2⟩ := deals_ok r (ds ++ ds.map (· + 2 ^ a)) (List.nodup_cons.mp ndf).2 (fun i hi => h7 i (List.mem_cons_of_mem _ hi)) nd2 fun d hm => by
      rcases List.mem_append.mp hm with hm | hm
      · exact ⟨(hd d hm).1, fun i hi => (hd d hm).2 i (List.mem_cons_of_mem _ hi)⟩
      · obtain ⟨d', hd1, hd2⟩ := List.mem_map.mp hm
        subst hd2
        refine ⟨by rw [e d' hd1]; exact bit_lt _ (hd d' hd1).1 _ ha, fun i hi => ?_⟩
        rw [tb d' hd1, (hd d' hd1).2 i (List.mem_cons_of_mem _ hi)]
        have : ¬ a = i := fun z => har (z ▸ hi)
        simp [this]
    refine ⟨h1, fun m => (h2 m).trans ⟨?_, ?_⟩⟩
    · rintro ⟨hm, d, hd1, he⟩
      refine ⟨hm, ?_⟩
      rcases List.mem_append.mp hd1 with hd1 | hd1
      · exact ⟨d, hd1, fun i hi => he i fun z => hi (List.mem_cons_of_mem _ z)⟩
      · obtain ⟨d', hd2, hd3⟩ := List.mem_map.mp hd1
        subst hd3
        refine ⟨d', hd2, fun i hi => ?_⟩
        rw [he i fun z => hi (List.mem_cons_of_mem _ z), tb d' hd2]
        have : ¬ a = i := fun z => hi (z ▸ List.mem_cons_self ..)
        simp [this]
    · rintro ⟨hm, d, hd1, he⟩
      refine ⟨hm, ?_⟩
      cases hb : Nat.testBit m a with
      | false =>
        refine ⟨d, List.mem_append_left _ hd1, fun i hi => ?_⟩
        by_cases hia : i = a
        · subst hia; rw [hb, (hd d hd1).2 i (List.mem_cons_self ..)]
        · exact he i fun z => by
            rcases List.mem_cons.mp z with z | z
            · exact hia z
            · exact hi z
      | true =>
        refine ⟨d + 2 ^ a, List.mem_append_right _ (List.mem_map.mpr ⟨d, hd1, rfl⟩), fun i hi => ?_⟩
        rw [tb d hd1]
        by_cases hia : i = a
        · subst hia; rw [hb]; simp
        · rw [he i fun z => by
            rcases List.mem_cons.mp z with z | z
            · exact hia z
            · exact hi z]
          have : ¬ a = i := fun z => hia z.symm
          simp [this]
theorem lt_of_bits : ∀ m < 128, ∀ h ≤ 7, (∀ i < 7, h ≤ i → Nat.testBit m i = false) → m < 2 ^ h := by decide +kernel
theorem bits_of_lt : ∀ h ≤ 7, ∀ m < 2 ^ h, m < 128 ∧ ∀ i < 7, h ≤ i → Nat.testBit m i = false := by decide +kernel
theorem hi_bits {m i : Nat} (h : m < 128) (hi : 7 ≤ i) : Nat.testBit m i = false := Nat.testBit_lt_two_pow (Nat.lt_of_lt_of_le h (Nat.pow_le_pow_right (show 0 < 2 by decide) hi))
/-- the law's deals are the program's -/
theorem deals_masks {h : Nat} {near far free : List Nat} (p : Part h near far free) : (deals [bs near] free).Perm (masks h (bs near) (bs far)) := by
  obtain ⟨nn, nf, nr, d1, d2⟩ := p.ndn
  have l7 : ∀ i, (i ∈ free ∨ i ∈ near ∨ i ∈ far) → i < 7 := fun i hi => Nat.lt_of_lt_of_le (p.mem.mp hi) p.h7
  have bn := bs_bit nn fun i hi => l7 i (.inr (.inl hi))
  have bf := bs_bit nf fun i hi => l7 i (.inr (.inr hi))
  have ln := bs_lt nn fun i hi => l7 i (.inr (.inl hi))
  obtain ⟨h1, h2⟩ := deals_ok free [bs near] nr (fun i hi => l7 i (.inl hi)) (by simp) fun d hd => by
    have : d = bs near := by simpa using hd
    subst this
    exact ⟨ln, fun i hi => by rw [bn]; exact decide_eq_false (d2 i hi).1⟩
  refine (List.perm_ext_iff_of_nodup h1 ((List.nodup_range).filter _)).mpr fun m => ?_
  rw [h2 m]
  rw [List.mem_filter, List.mem_range, fits_iff]
  constructor
  · rintro ⟨hm, d, hd, he⟩
    have : d = bs near := by simpa using hd
    subst this
    refine ⟨lt_of_bits m hm h p.h7 fun i _ hi => ?_, fun i hi => ?_, fun i hi => ?_⟩
    · have hn : ¬ (i ∈ free ∨ i ∈ near ∨ i ∈ far) := fun z => by have := p.mem.mp z; omega
      rw [he i fun z => hn (.inl z), bn]
      exact decide_eq_false fun z => hn (.inr (.inl z))
    · rw [bn] at hi
      have hi := of_decide_eq_true hi
      rw [he i fun z => (d2 i z).1 hi, bn]
      exact decide_eq_true hi
    · rw [bf] at hi
      have hi := of_decide_eq_true hi
      rw [he i fun z => (d2 i z).2 hi, bn]
      exact decide_eq_false fun z => d1 i z hi
  · rintro ⟨hm, h3, h4⟩
    obtain ⟨h5, h6⟩ := bits_of_lt h p.h7 m hm
    refine ⟨h5, bs near, by simp, fun i hi => ?_⟩
    by_cases hn : i ∈ near
    · rw [h3 i (by rw [bn]; exact decide_eq_true hn), bn]
      exact (decide_eq_true hn).symm
    · rw [bn, decide_eq_false hn]
      by_cases hf : i ∈ far
      · exact h4 i (by rw [bf]; exact decide_eq_true hf)
      · by_cases h7 : i < 7
        · exact h6 i h7 (Nat.le_of_not_lt fun z => by
            rcases p.mem.mpr z with z | z | z
            · exact hi z
            · exact hn z
            · exact hf z)
        · exact hi_bits h5 (Nat.le_of_not_lt h7)
end PM
set_option linter.all false
set_option maxRecDepth 100000
set_option maxHeartbeats 4000000
/-! M1: plain math: counts, the auction's invariant. -/
namespace PM
def at_ (ns : List Int) (c : Nat) : Int := ns.getD c 0
def cnt (ns : List Int) (x : Int) (l : List Nat) : Nat := (l.filter fun c => decide (at_ ns c < x)).length
structure Good (h : Nat) (ns : List Int) : Prop where
  h1 : 1 ≤ h
  h7 : h ≤ 7
  len : ns.length = 2 ^ h
  opp : ∀ c < 2 ^ h, at_ ns (2 ^ h - 1 - c) = - at_ ns c
  ris : ∀ c < 2 ^ h, ∀ j < h, at_ ns c ≤ at_ ns (c ||| 2 ^ j)
  bnd : ∀ n ∈ ns, -1000000000 ≤ n ∧ n ≤ 1000000000
theorem cnt_perm {ns : List Int} {x : Int} {l m : List Nat} (h : l.Perm m) : cnt ns x l = cnt ns x m := (h.filter _).length_eq
theorem cnt_le {ns : List Int} {x : Int} {l : List Nat} : cnt ns x l ≤ l.length := List.length_filter_le _ _
theorem filter_left {free : List Nat} {g : Nat} (nd : free.Nodup) (hg : g ∈ free) : (g :: free.filter (fun x => x != g)).Perm free := by
  have : free.filter (fun x => x != g) = free.erase g := (List.Nodup.erase_eq_filter nd g).symm
  rw [this]
  exact (List.perm_cons_erase hg).symm
theorem Part.hire {h g : Nat} {near far free : List Nat} (p : Part h near far free) (hg : g ∈ free) : Part h (near ++ [g]) far (free.filter (fun x => x != g)) := by
  refine ⟨p.h7, List.Perm.trans ?_ p.perm⟩
  have e := filter_left p.ndn.2.2.1 hg
  refine List.Perm.trans ?_ (e.append_right (near ++ far))
  rw [List.append_assoc, List.singleton_append]
  refine List.Perm.trans (List.Perm.append_left _ List.perm_middle) ?_
  exact List.perm_middle
theorem Part.lose {h g : Nat} {near far free : List Nat} (p : Part h near far free) (hg : g ∈ free) : Part h near (far ++ [g]) (free.filter (fun x => x != g)) := by
  refine ⟨p.h7, List.Perm.trans ?_ p.perm⟩
  have e := filter_left p.ndn.2.2.1 hg
  refine List.Perm.trans ?_ (e.append_right (near ++ far))
  rw [← List.append_assoc near]
  refine List.Perm.trans (List.Perm.append_left _ (List.perm_append_singleton g (near ++ far))) ?_
  exact List.perm_middle
theorem Part.congr {h : Nat} {near far free near' far' : List Nat} (p : Part h near far free) (hn : near'.Perm near) (hf : far'.Perm far) : Part h near' far' free := ⟨p.h7, ((hn.append hf).append_left free).trans p.perm⟩
theorem Part.left_length {h g : Nat} {near far free : List Nat} (p : Part h near far free) (hg : g ∈ free) : (free.filter (fun x => x != g)).length + 1 = free.length := (filter_left p.ndn.2.2.1 hg).length_eq
theorem Part.sub {h : Nat} {near far free : List Nat} (p : Part h near far free) : (∀ i ∈ near, i < 7) ∧ (∀ i ∈ far, i < 7) ∧ ∀ i ∈ free, i < 7 :=
  ⟨fun i hi => Nat.lt_of_lt_of_le (p.mem.mp (.inr (.inl hi))) p.h7, fun i hi => Nat.lt_of_lt_of_le (p.mem.mp (.inr (.inr hi))) p.h7, fun i hi => Nat.lt_of_lt_of_le (p.mem.mp (.inl hi)) p.h7⟩
theorem Part.bits {h : Nat} {near far free : List Nat} (p : Part h near far free) : (∀ i, Nat.testBit (bs near) i = decide (i ∈ near)) ∧ ∀ i, Nat.testBit (bs far) i = decide (i ∈ far) :=
  ⟨bs_bit p.ndn.1 p.sub.1, bs_bit p.ndn.2.1 p.sub.2.1⟩
theorem fits_hire {h g m : Nat} {near far free : List Nat} (p : Part h near far free) (hg : g ∈ free) : fits (bs (near ++ [g])) (bs far) m = (fits (bs near) (bs far) m && Nat.testBit m g) := by
  have q := (p.hire hg).bits
  have q0 := p.bits
  rw [Bool.eq_iff_iff, Bool.and_eq_true, fits_iff, fits_iff]
  constructor
  · rintro ⟨h1, h2⟩
    exact ⟨⟨fun i hi => h1 i (by rw [q.1]; rw [q0.1] at hi; simp at hi ⊢; exact .inl hi), h2⟩, h1 g (by rw [q.1]; simp)⟩
  · rintro ⟨⟨h1, h2⟩, h3⟩
    refine ⟨fun i hi => ?_, h2⟩
    rw [q.1] at hi
    have hi := of_decide_eq_true hi
    rcases List.mem_append.mp hi with hi | hi
    · exact h1 i (by rw [q0.1]; exact decide_eq_true hi)
    · have : i = g := by simpa using hi
      rw [this]; exact h3
theorem fits_lose {h g m : Nat} {near far free : List Nat} (p : Part h near far free) (hg : g ∈ free) : fits (bs near) (bs (far ++ [g])) m = (fits (bs near) (bs far) m && !Nat.testBit m g) := by
  have q := (p.lose hg).bits
  have q0 := p.bits
  rw [Bool.eq_iff_iff, Bool.and_eq_true, fits_iff, fits_iff]
  constructor
  · rintro ⟨h1, h2⟩
    exact ⟨⟨h1, fun i hi => h2 i (by rw [q.2]; rw [q0.2] at hi; simp at hi ⊢; exact .inl hi)⟩, by rw [h2 g (by rw [q.2]; simp)]; rfl⟩
  · rintro ⟨⟨h1, h2⟩, h3⟩
    refine ⟨h1, fun i hi => ?_⟩
    rw [q.2] at hi
    have hi := of_decide_eq_true hi
    rcases List.mem_append.mp hi with hi | hi
    · exact h2 i (by rw [q0.2]; exact decide_eq_true hi)
    · have : i = g := by simpa using hi
      rw [this]; simpa using h3
theorem filter_two {α : Type} (p q : α → Bool) : ∀ l : List α, (l.filter p).length = (l.filter fun x => p x && q x).length + (l.filter fun x => p x && !q x).length
  | [] => rfl
  | a :: l => by
    have ih := filter_two p q l
    cases hp : p a <;> cases hq : q a <;> simp [List.filter_cons, hp, hq, ih] <;> omega
theorem filter_ff {α : Type} (p q : α → Bool) (l : List α) : (l.filter p).filter q = l.filter fun x => p x && q x := by
  rw [List.filter_filter]
  congr 1
  funext x
  exact Bool.and_comm ..
/-- the deals at a stand: hired, lost -/
theorem cnt_split {ns : List Int} {x : Int} {h g : Nat} {near far free : List Nat} (p : Part h near far free) (hg : g ∈ free) :
    cnt ns x (masks h (bs near) (bs far)) = cnt ns x (masks h (bs (near ++ [g])) (bs far)) + cnt ns x (masks h (bs near) (bs (far ++ [g]))) := by
  unfold cnt masks
  rw [filter_ff, filter_ff, filter_ff, filter_two (fun c => fits (bs near) (bs far) c && decide (at_ ns c < x)) (fun c => Nat.testBit c g)]
  congr 2
  · congr 1; funext c; rw [fits_hire p hg, Bool.and_right_comm]
  · congr 1; funext c; rw [fits_lose p hg, Bool.and_right_comm]
theorem masks_length {h : Nat} {near far free : List Nat} (p : Part h near far free) : (masks h (bs near) (bs far)).length = 2 ^ free.length := by
  rw [← (deals_masks p).length_eq, deals_length]; simp
theorem mem_masks {h a b m : Nat} : m ∈ masks h a b ↔ m < 2 ^ h ∧ fits a b m = true := by unfold masks; rw [List.mem_filter, List.mem_range]
theorem filter_mono {α : Type} {p q : α → Bool} : ∀ {l : List α}, (∀ x ∈ l, p x = true → q x = true) → (l.filter p).length ≤ (l.filter q).length
  | [], _ => Nat.le_refl _
  | a :: l, h => by
    have ih := filter_mono (p := p) (q := q) (l := l) fun x hx => h x (List.mem_cons_of_mem _ hx)
    have ha := h a (List.mem_cons_self ..)
    cases hp : p a <;> cases hq : q a <;> simp [List.filter_cons, hp, hq]
    · exact ih
    · omega
    · rw [hp, hq] at ha; exact absurd (ha rfl) (by simp)
    · exact ih
/-- rising: a hand hired leaves fewer deals below than the hand lost -/
theorem cnt_mono {ns : List Int} {x : Int} {h g : Nat} {near far free : List Nat} (G : Good h ns) (p : Part h near far free) (hg : g ∈ free) :
    cnt ns x (masks h (bs (near ++ [g])) (bs far)) ≤ cnt ns x (masks h (bs near) (bs (far ++ [g]))) := by
  rw [← cnt_perm (deals_masks (p.hire hg)), ← cnt_perm (deals_masks (p.lose hg))]
  have e : [bs (near ++ [g])] = [bs near].map (· + 2 ^ g) := by
    rw [bs_append]; simp [bs]
  rw [e, deals_map]
  unfold cnt
  rw [List.filter_map, List.length_map]
  refine filter_mono fun c hc hx => ?_
  have hm := (deals_masks (p.lose hg)).mem_iff.mp hc
  rw [mem_masks] at hm
  have hf := hm.2
  rw [fits_lose p hg, Bool.and_eq_true] at hf
  have hb : Nat.testBit c g = false := by simpa using hf.2
  have g7 : g < 7 := p.sub.2.2 g hg
  have gh : g < h := p.mem.mp (.inl hg)
  have c7 := (bits_of_lt h p.h7 c hm.1).1
  have hx' : at_ ns (c + 2 ^ g) < x := by simpa using hx
  rw [bit_in c c7 g g7 hb] at hx'
  have := G.ris c hm.1 g gh
  exact decide_eq_true (by omega)
/-! ### the auction -/
structure Stand (h : Nat) (ns : List Int) (x : Int) (near far free : List Nat) (pt pb : Int) : Prop where
  part : Part h near far free
  good : Good h ns
  p0 : 0 ≤ pt
  p1 : pt ≤ pb
  b0 : 0 < pb
  inv : cnt ns x (masks h (bs near) (bs far)) = 2 ^ free.length ∨ pt * (2 ^ free.length : Nat) < (cnt ns x (masks h (bs near) (bs far)) : Int) * pb
section
variable {h : Nat} {ns : List Int} {x : Int} {near far free : List Nat} {pt pb : Int}
def hired (h : Nat) (ns : List Int) (x : Int) (near far : List Nat) (g : Nat) : Nat := cnt ns x (masks h (bs (near ++ [g])) (bs far))
def lost (h : Nat) (ns : List Int) (x : Int) (near far : List Nat) (g : Nat) : Nat := cnt ns x (masks h (bs near) (bs (far ++ [g])))
abbrev many (h : Nat) (ns : List Int) (x : Int) (near far : List Nat) : Nat := cnt ns x (masks h (bs near) (bs far))
theorem pow_left (s : Part h near far free) {g : Nat} (hg : g ∈ free) : 2 ^ free.length = 2 * 2 ^ (free.filter (fun x => x != g)).length := by
  rw [← s.left_length hg, Nat.pow_succ, Nat.mul_comm]
theorem hired_le (s : Part h near far free) {g : Nat} (hg : g ∈ free) : 2 * hired h ns x near far g ≤ 2 ^ free.length ∧ 2 * lost h ns x near far g ≤ 2 ^ free.length := by
  have h1 : hired h ns x near far g ≤ 2 ^ (free.filter (fun x => x != g)).length := by
    rw [← masks_length (s.hire hg)]; exact cnt_le
  have h2 : lost h ns x near far g ≤ 2 ^ (free.filter (fun x => x != g)).length := by
    rw [← masks_length (s.lose hg)]; exact cnt_le
  rw [pow_left s hg]
  omega
theorem split (s : Part h near far free) {g : Nat} (hg : g ∈ free) : many h ns x near far = hired h ns x near far g + lost h ns x near far g := cnt_split s hg
/-- the greatest loss, the least hire -/
structure Peak (h : Nat) (ns : List Int) (x : Int) (near far free : List Nat) (L m : Int) : Prop where
  sum : L + m = (many h ns x near far : Int)
  ord : m ≤ L
  m0 : 0 ≤ m
  top : 2 * L ≤ (2 ^ free.length : Nat)
  hi : ∀ g ∈ free, m ≤ (hired h ns x near far g : Int)
theorem peak_of (G : Good h ns) (s : Part h near far free) {L m : Int} (hL : ∃ g ∈ free, (lost h ns x near far g : Int) = L) (hL2 : ∀ g ∈ free, (lost h ns x near far g : Int) ≤ L)
    (hm : ∃ g ∈ free, (hired h ns x near far g : Int) = m) (hm2 : ∀ g ∈ free, m ≤ (hired h ns x near far g : Int)) : Peak h ns x near far free L m := by
  obtain ⟨a, ha, ea⟩ := hL
  obtain ⟨b, hb, eb⟩ := hm
  have s1 := split (ns := ns) (x := x) s ha
  have s2 := split (ns := ns) (x := x) s hb
  have l1 := hL2 b hb
  have l2 := hm2 a ha
  have t := hired_le (ns := ns) (x := x) s ha
  have mo : hired h ns x near far a ≤ lost h ns x near far a := cnt_mono G s ha
  refine ⟨by omega, by omega, by omega, ?_, hm2⟩
  have := t.2
  omega
/-- the far side's coins reach -/
theorem Stand.far_ok (s : Stand h ns x near far free pt pb) {L m : Int} (k : Peak h ns x near far free L m) : (L - m) * pb ≤ (pb - pt) * (2 ^ free.length : Nat) := by
  generalize hf : ((2 ^ free.length : Nat) : Int) = N at *
  have sum := k.sum
  have ord := k.ord
  have top := k.top
  have b0 := s.b0
  have p1 := s.p1
  rcases s.inv with e | e
  · have e' : (many h ns x near far : Int) = N := by rw [← hf]; exact congrArg Nat.cast e
    have : L - m = 0 := by omega
    rw [this, Int.zero_mul]
    exact Int.mul_nonneg (by omega) (by rw [← hf]; omega)
  · rw [hf] at e
    have e' : pt * N < (L + m) * pb := by rw [sum]; exact e
    have h1 : (L - m) * pb + (L + m) * pb = (2 * L) * pb := by rw [← Int.add_mul]; congr 1; omega
    have h2 : (2 * L) * pb ≤ N * pb := Int.mul_le_mul_of_nonneg_right (by omega) (by omega)
    have h3 : (pb - pt) * N = N * pb - pt * N := by rw [Int.sub_mul, Int.mul_comm pb]
    omega
/-- the near side wins -/
theorem Stand.near_wins (s : Stand h ns x near far free pt pb) {L m : Int} (k : Peak h ns x near far free L m) {g : Nat} (hg : g ∈ free) {bt bb : Int} (hbb : 0 < bb) (hbt : 0 ≤ bt) (hc : bt * pb ≤ pt * bb) (hD : (L - m) * bb ≤ bt * (2 ^ free.length : Nat)) :
    Stand h ns x (near ++ [g]) far (free.filter (fun x => x != g)) (pt * bb - bt * pb) (pb * bb) := by
  have hp := pow_left s.part hg
  have hpz : ((2 ^ free.length : Nat) : Int) = 2 * ((2 ^ (free.filter (fun x => x != g)).length : Nat) : Int) := by rw [hp]; push_cast; rfl
  have t := hired_le (ns := ns) (x := x) s.part hg
  have sp := split (ns := ns) (x := x) s.part hg
  have b0 := s.b0
  have p0 := s.p0
  have nb : 0 < pb * bb := Int.mul_pos b0 hbb
  have q1 : pt * bb ≤ pb * bb := Int.mul_le_mul_of_nonneg_right s.p1 (by omega)
  have q2 : 0 ≤ bt * pb := Int.mul_nonneg hbt (by omega)
  refine ⟨s.part.hire hg, s.good, by omega, by omega, nb, ?_⟩
  show hired h ns x near far g = _ ∨ _ < (hired h ns x near far g : Int) * _
  rcases s.inv with e | e
  · left
    have e' : many h ns x near far = 2 ^ free.length := e
    omega
  · right
    generalize ((2 ^ (free.filter (fun x => x != g)).length : Nat) : Int) = M at *
    rw [hpz] at e hD
    have hi := k.hi g hg
    have sum := k.sum
    have e' : pt * (2 * M) < (L + m) * pb := by rw [sum]; exact e
    have h1 : pt * (2 * M) * bb < (L + m) * pb * bb := Int.mul_lt_mul_of_pos_right e' hbb
    have h2 : (L - m) * bb * pb ≤ bt * (2 * M) * pb := Int.mul_le_mul_of_nonneg_right hD (by omega)
    have h3 : m * (pb * bb) ≤ (hired h ns x near far g : Int) * (pb * bb) := Int.mul_le_mul_of_nonneg_right hi (by omega)
    have e1 : pt * (2 * M) * bb = 2 * (pt * bb * M) := by rw [Int.mul_assoc, Int.mul_assoc, Int.mul_comm M bb, ← Int.mul_assoc pt, ← Int.mul_assoc, ← Int.mul_assoc, Int.mul_comm pt 2, Int.mul_assoc 2, Int.mul_assoc 2] <;> first | rfl | (simp only [Int.mul_assoc])
    have e2 : bt * (2 * M) * pb = 2 * (bt * pb * M) := by
      rw [Int.mul_assoc, Int.mul_assoc, Int.mul_comm M pb, ← Int.mul_assoc bt, ← Int.mul_assoc, ← Int.mul_assoc, Int.mul_comm bt 2, Int.mul_assoc 2, Int.mul_assoc 2] <;> first | rfl | (simp only [Int.mul_assoc])
    have e3 : (L + m) * pb * bb = L * (pb * bb) + m * (pb * bb) := by rw [Int.mul_assoc, Int.add_mul]
    have e4 : (L - m) * bb * pb = L * (pb * bb) - m * (pb * bb) := by rw [Int.mul_assoc, Int.mul_comm bb pb, Int.sub_mul]
    have e5 : (pt * bb - bt * pb) * M = pt * bb * M - bt * pb * M := Int.sub_mul ..
    omega
/-- the far side wins -/
theorem Stand.far_wins (s : Stand h ns x near far free pt pb) {L m : Int} (k : Peak h ns x near far free L m) {g : Nat} (hg : g ∈ free) (hgL : (lost h ns x near far g : Int) = L) {bt bb : Int} (hbb : 0 < bb) (hbt : 0 ≤ bt) (hD : bt * (2 ^ free.length : Nat) < (L - m) * bb) {dt db : Int} (hdb : 0 < db) (hd0 : 0 ≤ dt) (hd : dt * (2 ^ free.length : Nat) = (L - m) * db) :
    Stand h ns x near (far ++ [g]) (free.filter (fun x => x != g)) (pt * db + dt * pb) (pb * db) := by
  have hp := pow_left s.part hg
  have hpz : ((2 ^ free.length : Nat) : Int) = 2 * ((2 ^ (free.filter (fun x => x != g)).length : Nat) : Int) := by rw [hp]; push_cast; rfl
  have b0 := s.b0
  have p0 := s.p0
  have nb : 0 < pb * db := Int.mul_pos b0 hdb
  have q0 : 0 ≤ pt * db := Int.mul_nonneg p0 (by omega)
  have q2 : 0 ≤ dt * pb := Int.mul_nonneg hd0 (by omega)
  have sum := k.sum
  have top := k.top
  have ord := k.ord
  have m0 := k.m0
  have fo := s.far_ok k
  generalize hM : ((2 ^ (free.filter (fun x => x != g)).length : Nat) : Int) = M at *
  have hMp : 0 < M := by rw [← hM]; exact_mod_cast Nat.two_pow_pos _
  have key : pt * (2 * M) < (L + m) * pb := by
    rcases s.inv with e | e
    · exfalso
      have e' : (many h ns x near far : Int) = 2 * M := by rw [← hpz]; exact congrArg Nat.cast e
      rw [hpz] at hD top
      have hz : L - m = 0 := by omega
      rw [hz, Int.zero_mul] at hD
      have : 0 ≤ bt * (2 * M) := Int.mul_nonneg hbt (by omega)
      omega
    · rw [sum]
      rw [hpz] at e
      exact e
  rw [hpz] at hd fo top
  have h1 : pt * (2 * M) * db < (L + m) * pb * db := Int.mul_lt_mul_of_pos_right key hdb
  have e1 : pt * (2 * M) * db = 2 * (pt * db * M) := by rw [Int.mul_assoc, Int.mul_assoc, Int.mul_comm M db, ← Int.mul_assoc pt, ← Int.mul_assoc, ← Int.mul_assoc, Int.mul_comm pt 2, Int.mul_assoc 2, Int.mul_assoc 2] <;> first | rfl | (simp only [Int.mul_assoc])
  have e2 : dt * (2 * M) * pb = 2 * (dt * pb * M) := by
    rw [Int.mul_assoc, Int.mul_assoc, Int.mul_comm M pb, ← Int.mul_assoc dt, ← Int.mul_assoc, ← Int.mul_assoc, Int.mul_comm dt 2, Int.mul_assoc 2, Int.mul_assoc 2] <;> first | rfl | (simp only [Int.mul_assoc])
  have e3 : (L + m) * pb * db = L * (pb * db) + m * (pb * db) := by rw [Int.mul_assoc, Int.add_mul]
  have e4 : (L - m) * db * pb = L * (pb * db) - m * (pb * db) := by rw [Int.mul_assoc, Int.mul_comm db pb, Int.sub_mul]
  have e5 : (pt * db + dt * pb) * M = pt * db * M + dt * pb * M := Int.add_mul ..
  have e6 : dt * (2 * M) * pb = (L - m) * db * pb := by rw [hd]
  have lt : (pt * db + dt * pb) * M < L * (pb * db) := by omega
  refine ⟨s.part.lose hg, s.good, by omega, ?_, nb, .inr ?_⟩
  · have h2 : L * (pb * db) ≤ M * (pb * db) := Int.mul_le_mul_of_nonneg_right (by omega) (by omega)
    have h3 : (pt * db + dt * pb) * M < (pb * db) * M := by rw [Int.mul_comm (pb * db) M]; omega
    exact Int.le_of_lt (Int.lt_of_mul_lt_mul_right h3 (by omega))
  · rw [hM]
    show _ < (lost h ns x near far g : Int) * _
    rw [hgL]
    exact lt
/-- a stand does not depend on the order of the hired -/
theorem Stand.congr (s : Stand h ns x near far free pt pb) {near' far' : List Nat} (hn : near'.Perm near) (hf : far'.Perm far) : Stand h ns x near' far' free pt pb :=
  ⟨s.part.congr hn hf, s.good, s.p0, s.p1, s.b0, by rw [bs_perm hn, bs_perm hf]; exact s.inv⟩
/-- .. nor on the form of the purse -/
theorem Stand.scale (s : Stand h ns x near far free pt pb) {t b : Int} (hb : 0 < b) (he : t * pb = pt * b) : Stand h ns x near far free t b := by
  have b0 := s.b0
  refine ⟨s.part, s.good, ?_, ?_, hb, s.inv.imp id fun e => ?_⟩
  · have h1 : 0 ≤ t * pb := by rw [he]; exact Int.mul_nonneg s.p0 (by omega)
    exact Int.le_of_mul_le_mul_right (by rw [Int.zero_mul]; exact h1) b0
  · have h1 : t * pb ≤ b * pb := by rw [he, Int.mul_comm b]; exact Int.mul_le_mul_of_nonneg_right s.p1 (by omega)
    exact Int.le_of_mul_le_mul_right h1 b0
  · have h1 : pt * (2 ^ free.length : Nat) * b < (cnt ns x (masks h (bs near) (bs far)) : Int) * pb * b := Int.mul_lt_mul_of_pos_right e hb
    have e1 : pt * (2 ^ free.length : Nat) * b = t * (2 ^ free.length : Nat) * pb := by rw [Int.mul_right_comm, ← he, Int.mul_right_comm]
    have e2 : (cnt ns x (masks h (bs near) (bs far)) : Int) * pb * b = (cnt ns x (masks h (bs near) (bs far)) : Int) * b * pb := Int.mul_right_comm ..
    rw [e1, e2] at h1
    exact Int.lt_of_mul_lt_mul_right h1 (by omega)
/-- the end -/
theorem Stand.end_ (s : Stand h ns x near far [] pt pb) : at_ ns (bs near) < x := by
  have h1 : many h ns x near far = 1 := by
    have le : many h ns x near far ≤ (masks h (bs near) (bs far)).length := cnt_le
    rw [masks_length s.part] at le
    rcases s.inv with e | e
    · exact e
    · have : (many h ns x near far : Int) ≠ 0 := fun z => by
        have z' : (cnt ns x (masks h (bs near) (bs far)) : Int) = 0 := z
        rw [z'] at e
        have := s.p0
        simp at e
        omega
      have le' : many h ns x near far ≤ 1 := le
      omega
  have h2 : many h ns x near far = cnt ns x (deals [bs near] []) := (cnt_perm (deals_masks s.part)).symm
  rw [h1] at h2
  by_cases c : at_ ns (bs near) < x
  · exact c
  · have : cnt ns x (deals [bs near] []) = 0 := by
      show (List.filter _ [bs near]).length = 0
      simp [c]
    omega
end
end PM
set_option linter.all false
set_option maxRecDepth 100000
set_option maxHeartbeats 4000000
/-! M2: plain math: reduction, pushes, the wished number. -/
namespace PM
/-! ### reduction -/
def rt (t b : Int) : Int := t / (Int.gcd t b : Int)
def rb (t b : Int) : Int := b / (Int.gcd t b : Int)
section
variable {t b : Int}
theorem g_pos (h : 0 < b) : 0 < (Int.gcd t b : Int) := by
  have : 0 < Int.gcd t b := Int.gcd_pos_of_ne_zero_right _ (by omega)
  omega
theorem rt_mul (t b : Int) : rt t b * (Int.gcd t b : Int) = t := Int.ediv_mul_cancel (Int.gcd_dvd_left ..)
theorem rb_mul (t b : Int) : rb t b * (Int.gcd t b : Int) = b := Int.ediv_mul_cancel (Int.gcd_dvd_right ..)
theorem rb_pos (h : 0 < b) : 0 < rb t b := by
  have g := g_pos (t := t) h
  have m := rb_mul t b
  by_cases c : 0 < rb t b
  · exact c
  · have : rb t b * (Int.gcd t b : Int) ≤ 0 := Int.mul_nonpos_of_nonpos_of_nonneg (by omega) (by omega)
    omega
theorem cross (t b : Int) : rt t b * b = t * rb t b := by
  have h1 := rt_mul t b
  have h2 := rb_mul t b
  calc rt t b * b = rt t b * (rb t b * (Int.gcd t b : Int)) := by rw [h2]
    _ = rt t b * (Int.gcd t b : Int) * rb t b := by rw [Int.mul_comm (rb t b), Int.mul_assoc]
    _ = t * rb t b := by rw [h1]
theorem rb_dvd_b (t b : Int) : rb t b ∣ b := ⟨_, (rb_mul t b).symm⟩
theorem rb_le (h : 0 < b) : rb t b ≤ b := Int.le_of_dvd h (rb_dvd_b t b)
theorem rt_nonneg (h : 0 ≤ t) : 0 ≤ rt t b := Int.ediv_nonneg h (by omega)
theorem rt_abs (t b : Int) : (rt t b).natAbs ≤ t.natAbs := by
  by_cases h : t = 0
  · subst h; simp [rt]
  · have m := rt_mul t b
    have hn : t.natAbs = (rt t b).natAbs * Int.gcd t b := by
      rw [← Int.natAbs_natCast (Int.gcd t b), ← Int.natAbs_mul, m]
    have : 0 < Int.gcd t b := Int.gcd_pos_of_ne_zero_left _ h
    rw [hn]
    exact Nat.le_mul_of_pos_right _ this
theorem rgcd (h : 0 < b) : Int.gcd (rt t b) (rb t b) = 1 := by
  have g : 0 < Int.gcd t b := by have := g_pos (t := t) h; omega
  have e : Int.gcd (rt t b * (Int.gcd t b : Int)) (rb t b * (Int.gcd t b : Int)) = Int.gcd (rt t b) (rb t b) * Int.gcd t b := by
    rw [Int.gcd_mul_right]; simp
  rw [rt_mul, rb_mul] at e
  have : 1 * Int.gcd t b = Int.gcd (rt t b) (rb t b) * Int.gcd t b := by rw [Nat.one_mul]; exact e
  exact (Nat.eq_of_mul_eq_mul_right g this).symm
/-- reduced already -/
def Rdc (t b : Int) : Prop := Int.gcd t b = 1
theorem Rdc.rt (h : Rdc t b) : PM.rt t b = t := by unfold PM.rt; rw [show Int.gcd t b = 1 from h]; simp
theorem Rdc.rb (h : Rdc t b) : PM.rb t b = b := by unfold PM.rb; rw [show Int.gcd t b = 1 from h]; simp
theorem rdc_red (h : 0 < b) : Rdc (rt t b) (rb t b) := rgcd h
theorem rdc_one (t : Int) : Rdc t 1 := by show Int.gcd t 1 = 1; simp
end
/-- the bottom of a sum divides what the bottoms divide -/
theorem rb_sum {t1 b1 t2 b2 s W : Int} (h1 : 0 < b1) (h2 : 0 < b2) (d1 : b1 ∣ W) (d2 : b2 ∣ W) : rb (t1 * b2 + s * t2 * b1) (b1 * b2) ∣ W := by
  obtain ⟨c1, e1⟩ := d1
  obtain ⟨c2, e2⟩ := d2
  generalize hx : t1 * b2 + s * t2 * b1 = x
  generalize hy : b1 * b2 = y
  have hyp : 0 < y := by rw [← hy]; exact Int.mul_pos h1 h2
  have hd : y ∣ x * W := by
    refine ⟨t1 * c1 + s * t2 * c2, ?_⟩
    rw [← hx, ← hy, Int.add_mul, Int.mul_add]
    have k1 : t1 * b2 * W = b1 * b2 * (t1 * c1) := by
      rw [e1]; simp only [Int.mul_assoc, Int.mul_comm, Int.mul_left_comm]
    have k2 : s * t2 * b1 * W = b1 * b2 * (s * t2 * c2) := by
      rw [e2]; simp only [Int.mul_assoc, Int.mul_comm, Int.mul_left_comm]
    rw [k1, k2]
  have g := g_pos (t := x) hyp
  have hd2 : rb x y ∣ rt x y * W := by
    obtain ⟨k, hk⟩ := hd
    refine ⟨k, ?_⟩
    have e : rt x y * W * (Int.gcd x y : Int) = rb x y * k * (Int.gcd x y : Int) := by
      calc rt x y * W * (Int.gcd x y : Int) = rt x y * (Int.gcd x y : Int) * W := Int.mul_right_comm ..
        _ = x * W := by rw [rt_mul]
        _ = y * k := hk
        _ = rb x y * (Int.gcd x y : Int) * k := by rw [rb_mul]
        _ = rb x y * k * (Int.gcd x y : Int) := Int.mul_right_comm ..
    exact Int.eq_of_mul_eq_mul_right (by omega) e
  have co : Int.gcd (rb x y) (rt x y) = 1 := by rw [Int.gcd_comm]; exact rgcd hyp
  refine Int.natAbs_dvd_natAbs.mp (Nat.Coprime.dvd_of_dvd_mul_left (k := (rb x y).natAbs) (m := (rt x y).natAbs) co ?_)
  rw [← Int.natAbs_mul]
  exact Int.natAbs_dvd_natAbs.mpr hd2
/-! ### Euclid -/
def stp (p : Nat × Nat) : Nat × Nat := if 0 < p.2 then (p.2, p.1 % p.2) else p
def eu (p : Nat × Nat) : Nat → Nat × Nat
  | 0 => p
  | n + 1 => stp (eu p n)
theorem stp_gcd (p : Nat × Nat) : Nat.gcd (stp p).1 (stp p).2 = Nat.gcd p.1 p.2 := by
  unfold stp
  by_cases h : 0 < p.2
  · rw [if_pos h]
    show Nat.gcd p.2 (p.1 % p.2) = _
    rw [Nat.gcd_comm, ← Nat.gcd_rec, Nat.gcd_comm]
  · rw [if_neg h]
theorem eu_gcd (p : Nat × Nat) : ∀ n, Nat.gcd (eu p n).1 (eu p n).2 = Nat.gcd p.1 p.2
  | 0 => rfl
  | n + 1 => (stp_gcd _).trans (eu_gcd p n)
theorem eu_shift (p : Nat × Nat) : ∀ n, eu p (n + 1) = eu (stp p) n
  | 0 => rfl
  | n + 1 => by show stp (eu p (n + 1)) = stp (eu (stp p) n); rw [eu_shift p n]
theorem stp2 {p : Nat × Nat} {k : Nat} (h : p.2 < 2 ^ (k + 1)) : (stp (stp p)).2 < 2 ^ k := by
  obtain ⟨a, b⟩ := p
  have hk := Nat.two_pow_pos k
  unfold stp
  by_cases hb : 0 < b
  · simp only [hb, if_true]
    by_cases hr : 0 < a % b
    · simp only [hr, if_true]
      have h1 : a % b < b := Nat.mod_lt _ hb
      have h2 : b % (a % b) < a % b := Nat.mod_lt _ hr
      have h3 : b % (a % b) + (a % b) * (b / (a % b)) = b := Nat.mod_add_div ..
      have h4 : 1 ≤ b / (a % b) := (Nat.le_div_iff_mul_le hr).mpr (by omega)
      have h5 : a % b ≤ (a % b) * (b / (a % b)) := Nat.le_mul_of_pos_right _ h4
      have : b < 2 ^ k * 2 := by rw [← Nat.pow_succ]; exact h
      omega
    · simp only [hr, if_false]
      omega
  · simp only [hb, if_false]
    omega
theorem eu_end : ∀ (k : Nat) (p : Nat × Nat), p.2 < 2 ^ k → (eu p (2 * k)).2 = 0
  | 0, p, h => by simp at h; exact h
  | k + 1, p, h => by
    rw [show 2 * (k + 1) = 2 * k + 1 + 1 by omega, eu_shift, eu_shift]
    exact eu_end k _ (stp2 h)
theorem eu_low {a b : Nat} (h : b < 2 ^ 100) : (eu (a, b) 200).1 = Nat.gcd a b := by
  have e := eu_end 100 (a, b) h
  have g := eu_gcd (a, b) 200
  rw [show 2 * 100 = 200 from rfl] at e
  rw [e, Nat.gcd_zero_right] at g
  exact g
/-- the lower number stays positive -/
theorem eu_pos {a b : Nat} (h : 0 < a) : ∀ n, 0 < (eu (a, b) n).1
  | 0 => h
  | n + 1 => by
    show 0 < (stp (eu (a, b) n)).1
    unfold stp
    by_cases c : 0 < (eu (a, b) n).2
    · rw [if_pos c]; exact c
    · rw [if_neg c]; exact eu_pos h n
/-! ### pushes -/
theorem at_get {ns : List Int} {c : Nat} {n : Int} (h : ns[c]? = some n) : at_ ns c = n := by unfold at_; rw [List.getD_eq_getElem?_getD, h]; rfl
theorem get_at {ns : List Int} {c : Nat} (h : c < ns.length) : ns[c]? = some (at_ ns c) := by
  rw [List.getElem?_eq_getElem h]
  exact congrArg some (at_get (List.getElem?_eq_getElem h)).symm
theorem at_mem {ns : List Int} {c : Nat} (h : c < ns.length) : at_ ns c ∈ ns := List.mem_of_getElem? (get_at h)
def Bnd (B : Int) (ns : List Int) : Prop := ∀ n ∈ ns, -B ≤ n ∧ n ≤ B
theorem compl : ∀ h ≤ 6, ∀ c < 2 ^ h, ∀ m < 2 ^ h, (decide ((2 ^ h - 1 - c) &&& m = 0) = decide (c &&& m = m)) := by decide +kernel
def psh (h m : Nat) (number : Int) (old : List Int) (j c : Nat) : Int :=
  if c &&& m = m then (if c < j then (if at_ old c < number then number else at_ old c) else at_ old c)
  else if c &&& m = 0 then (if 2 ^ h - 1 - c < j then (if at_ old (2 ^ h - 1 - c) < number then -number else at_ old c) else at_ old c)
  else at_ old c
def pshL (h m : Nat) (number : Int) (old : List Int) (j : Nat) : List Int := (List.range (2 ^ h)).map (psh h m number old j)
section
variable {h m : Nat} {number B : Int} {old : List Int}
theorem pshL_length (j : Nat) : (pshL h m number old j).length = 2 ^ h := by simp [pshL]
theorem pshL_get {j c : Nat} (hc : c < 2 ^ h) : (pshL h m number old j)[c]? = some (psh h m number old j c) := by
  unfold pshL
  rw [List.getElem?_map, List.getElem?_range hc]; rfl
theorem pshL_zero (G : Good h old) : pshL h m number old 0 = old := by
  refine List.ext_getElem? fun c => ?_
  by_cases hc : c < 2 ^ h
  · rw [pshL_get hc, get_at (by rw [G.len]; exact hc)]
    congr 1
    unfold psh
    simp
  · rw [List.getElem?_eq_none (by rw [pshL_length]; omega), List.getElem?_eq_none (by rw [G.len]; omega)]
theorem and0 {c : Nat} (hm : 0 < m) (h1 : c &&& m = m) : ¬ c &&& m = 0 := fun z => by omega
/-- a turn that writes -/
theorem psh_set (h6 : h ≤ 6) (hm : 0 < m) (hm2 : m < 2 ^ h) {j : Nat} (hj : j < 2 ^ h) (h1 : j &&& m = m) (h2 : at_ old j < number) :
    ((pshL h m number old j).set j number).set (2 ^ h - 1 - j) (-number) = pshL h m number old (j + 1) := by
  have hp := Nat.two_pow_pos h
  refine List.ext_getElem? fun c => ?_
  by_cases hc : c < 2 ^ h
  · rw [pshL_get hc]
    have cj := compl h h6 j hj m hm2
    have d0 : (2 ^ h - 1 - j) &&& m = 0 := by
      have : decide ((2 ^ h - 1 - j) &&& m = 0) = true := by rw [cj]; exact decide_eq_true h1
      exact of_decide_eq_true this
    by_cases e1 : c = 2 ^ h - 1 - j
    · rw [e1, List.getElem?_set_self (by rw [List.length_set, pshL_length]; omega)]
      congr 1
      unfold psh
      have n1 : ¬ (2 ^ h - 1 - j) &&& m = m := by rw [d0]; omega
      have e2 : 2 ^ h - 1 - (2 ^ h - 1 - j) = j := by omega
      rw [if_neg n1, if_pos d0, e2, if_pos (by omega), if_pos h2]
    · rw [List.getElem?_set_ne (by omega)]
      by_cases e2 : c = j
      · rw [e2, List.getElem?_set_self (by rw [pshL_length]; exact hj)]
        congr 1
        unfold psh
        rw [if_pos h1, if_pos (by omega), if_pos h2]
      · rw [List.getElem?_set_ne (by omega), pshL_get hc]
        congr 1
        unfold psh
        by_cases c1 : c &&& m = m
        · rw [if_pos c1, if_pos c1]
          have : (c < j) = (c < j + 1) := by apply propext; omega
          simp only [this]
        · rw [if_neg c1, if_neg c1]
          have : (2 ^ h - 1 - c < j) = (2 ^ h - 1 - c < j + 1) := by apply propext; omega
          simp only [this]
  · rw [List.getElem?_eq_none (by rw [List.length_set, List.length_set, pshL_length]; omega), List.getElem?_eq_none (by rw [pshL_length]; omega)]
/-- a turn that writes nothing -/
theorem psh_skip (h6 : h ≤ 6) (hm2 : m < 2 ^ h) {j : Nat} (hj : j < 2 ^ h) (h1 : ¬ (j &&& m = m ∧ at_ old j < number)) : pshL h m number old j = pshL h m number old (j + 1) := by
  unfold pshL
  refine List.map_congr_left fun c hc => ?_
  have hc := List.mem_range.mp hc
  unfold psh
  by_cases c1 : c &&& m = m
  · rw [if_pos c1, if_pos c1]
    by_cases e : c = j
    · subst e
      rw [if_neg (by omega), if_pos (by omega), if_neg fun z => h1 ⟨c1, z⟩]
    · have : (c < j) = (c < j + 1) := by apply propext; omega
      simp only [this]
  · rw [if_neg c1, if_neg c1]
    by_cases c0 : c &&& m = 0
    · rw [if_pos c0, if_pos c0]
      by_cases e : 2 ^ h - 1 - c = j
      · rw [e, if_neg (by omega), if_pos (by omega)]
        have cc := compl h h6 j hj m hm2
        have : 2 ^ h - 1 - j = c := by omega
        rw [this, decide_eq_true c0] at cc
        have c2 : j &&& m = m := of_decide_eq_true cc.symm
        rw [if_neg fun z => h1 ⟨c2, z⟩]
      · have : (2 ^ h - 1 - c < j) = (2 ^ h - 1 - c < j + 1) := by apply propext; omega
        simp only [this]
    · rw [if_neg c0, if_neg c0]
theorem psh_at {j c : Nat} (hc : c < 2 ^ h) : at_ (pshL h m number old j) c = psh h m number old j c := at_get (pshL_get hc)
theorem psh_read {j : Nat} (hj : j < 2 ^ h) (h1 : j &&& m = m) : at_ (pshL h m number old j) j = at_ old j := by
  rw [psh_at hj]
  unfold psh
  rw [if_pos h1, if_neg (by omega)]
theorem or_sup1 : ∀ h ≤ 6, ∀ c < 2 ^ h, ∀ j < h, c ||| 2 ^ j < 2 ^ h := by decide +kernel
theorem or_sup (h : Nat) (h6 : h ≤ 6) (c : Nat) (hc : c < 2 ^ h) (j : Nat) (hj : j < h) (m : Nat) (_ : m < 2 ^ h) : c ||| 2 ^ j < 2 ^ h ∧ (c &&& m = m → (c ||| 2 ^ j) &&& m = m) ∧ ((c ||| 2 ^ j) &&& m = 0 → c &&& m = 0) :=
  ⟨or_sup1 h h6 c hc j hj, fun e => sub_iff.mpr fun i hi => by rw [Nat.testBit_or, sub_iff.mp e i hi]; rfl, fun e => dis_iff.mpr fun i hi => by
    have := dis_iff.mp e i hi
    rw [Nat.testBit_or, Bool.or_eq_false_iff] at this
    exact this.1⟩
theorem psh_bnd (G : Good h old) (hB : Bnd B old) (hn : -(B + 7) ≤ number ∧ number ≤ B + 7) : Bnd (B + 7) (pshL h m number old (2 ^ h)) := by
  intro n hm
  unfold pshL at hm
  obtain ⟨c, hc, e⟩ := List.mem_map.mp hm
  have hc := List.mem_range.mp hc
  have a := hB _ (at_mem (ns := old) (c := c) (by rw [G.len]; exact hc))
  rw [← e]
  unfold psh
  repeat (first | split | omega)
theorem psh_good (h6 : h ≤ 6) (G : Good h old) (hB : Bnd B old) (hB2 : B + 7 ≤ 1000000000) (hm : 0 < m) (hm2 : m < 2 ^ h) (hn : -(B + 7) ≤ number ∧ number ≤ B + 7) : Good h (pshL h m number old (2 ^ h)) := by
  have hp := Nat.two_pow_pos h
  refine ⟨G.h1, G.h7, pshL_length _, fun c hc => ?_, fun c hc j hj => ?_, fun n hn' => ?_⟩
  · have hc' : 2 ^ h - 1 - c < 2 ^ h := by omega
    rw [psh_at hc, psh_at hc']
    have c1 := compl h h6 c hc m hm2
    have c2 := compl h h6 (2 ^ h - 1 - c) hc' m hm2
    have e : 2 ^ h - 1 - (2 ^ h - 1 - c) = c := by omega
    rw [e] at c2
    have op := G.opp c hc
    unfold psh
    rw [e, if_pos hc, if_pos hc']
    by_cases k1 : c &&& m = m
    · have k2 : (2 ^ h - 1 - c) &&& m = 0 := by rw [decide_eq_true k1] at c1; exact of_decide_eq_true c1
      have k3 : ¬ (2 ^ h - 1 - c) &&& m = m := by omega
      rw [if_pos k1, if_neg k3, if_pos k2, op]
      split <;> omega
    · by_cases k0 : c &&& m = 0
      · have k2 : (2 ^ h - 1 - c) &&& m = m := by rw [decide_eq_true k0] at c2; exact of_decide_eq_true c2.symm
        rw [if_neg k1, if_pos k0, if_pos k2]
        split <;> omega
      · have k2 : ¬ (2 ^ h - 1 - c) &&& m = m := fun z => by rw [decide_eq_true z] at c2; exact k0 (of_decide_eq_true c2)
        have k3 : ¬ (2 ^ h - 1 - c) &&& m = 0 := fun z => by rw [decide_eq_true z] at c1; exact k1 (of_decide_eq_true c1.symm)
        rw [if_neg k1, if_neg k0, if_neg k2, if_neg k3, op]
  · obtain ⟨o1, o2, o3⟩ := or_sup h h6 c hc j hj m hm2
    have r := G.ris c hc j hj
    rw [psh_at hc, psh_at o1]
    have op1 := G.opp c hc
    have op2 := G.opp _ o1
    unfold psh
    have t1 : 2 ^ h - 1 - c < 2 ^ h := by omega
    have t2 : 2 ^ h - 1 - (c ||| 2 ^ j) < 2 ^ h := by omega
    rw [if_pos hc, if_pos o1, if_pos t1, if_pos t2, op1, op2]
    by_cases k1 : c &&& m = m
    · rw [if_pos k1, if_pos (o2 k1)]
      repeat (first | split | omega)
    · rw [if_neg k1]
      by_cases k2 : (c ||| 2 ^ j) &&& m = m
      · rw [if_pos k2]
        repeat (first | split | omega)
      · rw [if_neg k2]
        by_cases k3 : (c ||| 2 ^ j) &&& m = 0
        · rw [if_pos k3, if_pos (o3 k3)]
          repeat (first | split | omega)
        · rw [if_neg k3]
          repeat (first | split | omega)
  · have := psh_bnd G hB hn n hn'
    omega
end
theorem zero_good {h : Nat} (h1 : 1 ≤ h) (h7 : h ≤ 7) : Good h (List.replicate (2 ^ h) 0) := by
  have a0 : ∀ c, at_ (List.replicate (2 ^ h) (0 : Int)) c = 0 := fun c => by
    unfold at_
    rw [List.getD_eq_getElem?_getD, List.getElem?_replicate]
    split <;> rfl
  refine ⟨h1, h7, List.length_replicate, fun c _ => by rw [a0, a0]; rfl, fun c _ j _ => by rw [a0, a0]; exact Int.le_refl _, fun n hn => ?_⟩
  have := List.eq_of_mem_replicate hn
  omega
theorem at_map {f : Int} {ns : List Int} (c : Nat) : at_ (ns.map (f * ·)) c = f * at_ ns c := by
  unfold at_
  rw [List.getD_eq_getElem?_getD, List.getD_eq_getElem?_getD, List.getElem?_map]
  cases ns[c]? <;> simp
theorem scale_good {h : Nat} {ns : List Int} {f : Int} (G : Good h ns) (hf : 0 ≤ f) (hb : ∀ n ∈ ns, f * n ≤ 1000000000) : Good h (ns.map (f * ·)) := by
  refine ⟨G.h1, G.h7, by rw [List.length_map]; exact G.len, fun c hc => by rw [at_map, at_map, G.opp c hc, Int.mul_neg], fun c hc j hj => ?_, fun n hn => ?_⟩
  · rw [at_map, at_map]
    exact Int.mul_le_mul_of_nonneg_left (G.ris c hc j hj) hf
  · obtain ⟨n0, h0, e⟩ := List.mem_map.mp hn
    subst e
    refine ⟨?_, hb n0 h0⟩
    obtain ⟨c, hc, e⟩ := List.mem_iff_getElem.mp h0
    have hc' : c < 2 ^ h := by rw [← G.len]; exact hc
    have e' : at_ ns c = n0 := at_get (by rw [List.getElem?_eq_getElem hc, e])
    have op := G.opp c hc'
    have := hb (at_ ns (2 ^ h - 1 - c)) (at_mem (by rw [G.len]; have := Nat.two_pow_pos h; omega))
    rw [op, e', Int.mul_neg] at this
    omega
/-! ### the whole house -/
theorem full_nonneg {h : Nat} {ns : List Int} (G : Good h ns) : 0 ≤ at_ ns (2 ^ h - 1) ∧ at_ ns 0 = - at_ ns (2 ^ h - 1) := by
  have hp := Nat.two_pow_pos h
  have or1 : ∀ j < 7, (2 ^ j - 1) ||| 2 ^ j = 2 ^ (j + 1) - 1 := by decide +kernel
  have ch : ∀ j, j ≤ h → at_ ns 0 ≤ at_ ns (2 ^ j - 1) := by
    intro j
    induction j with
    | zero => intro _; exact Int.le_refl _
    | succ j ih =>
      intro hj
      have h1 := ih (by omega)
      have h2 := G.ris (2 ^ j - 1) (by have := Nat.pow_le_pow_right (show 0 < 2 by decide) (show j ≤ h by omega); have := Nat.two_pow_pos j; omega) j (by omega)
      rw [or1 j (by have := G.h7; omega)] at h2
      omega
  have h1 := ch h (Nat.le_refl _)
  have h2 := G.opp (2 ^ h - 1) (by omega)
  rw [Nat.sub_self] at h2
  exact ⟨by omega, h2⟩
theorem part0 {h : Nat} (h7 : h ≤ 7) : Part h [] [] (List.range h) := ⟨h7, by simp⟩
theorem deals_sub : ∀ (fr ds : List Nat) (d : Nat), d ∈ ds → d ∈ deals ds fr
  | [], _, _, h => h
  | a :: r, ds, d, h => deals_sub r (ds ++ ds.map (· + 2 ^ a)) d (List.mem_append_left _ h)
theorem cnt_pos {ns : List Int} {x : Int} {l : List Nat} {c : Nat} (h : c ∈ l) (hx : at_ ns c < x) : 0 < cnt ns x l := by
  unfold cnt
  exact List.length_pos_of_mem (List.mem_filter.mpr ⟨h, decide_eq_true hx⟩)
theorem wish_pos {h : Nat} {ns : List Int} (G : Good h ns) {y : Int} (hy : y = 1000000000 ∨ y = at_ ns (2 ^ h - 1) + 1) : 0 < cnt ns y (deals [0] (List.range h)) := by
  obtain ⟨h1, h2⟩ := full_nonneg G
  exact cnt_pos (deals_sub _ _ 0 (by simp)) (by rcases hy with e | e <;> omega)
/-- the lead that a share is sure of -/
theorem lead_lt {ns : List Int} {x n st sb : Int} {l : List Nat} (hn : ∃ c ∈ l, at_ ns c = n) (hs : cnt ns x l = l.length ∨ st * (l.length : Int) < (cnt ns x l : Int) * sb) (hb : 0 < sb) (hno : ¬ st * (l.length : Int) < (cnt ns n l : Int) * sb) : n < x := by
  by_cases c : n < x
  · exact c
  · exfalso
    have hx : x ≤ n := by omega
    have mono : cnt ns x l ≤ cnt ns n l := filter_mono fun c _ h => by
      have : at_ ns c < x := of_decide_eq_true h
      exact decide_eq_true (by omega)
    rcases hs with e | e
    · obtain ⟨c0, hc, hc2⟩ := hn
      have all : ∀ c ∈ l, decide (at_ ns c < x) = true := by
        have := e
        unfold cnt at this
        exact List.length_filter_eq_length_iff.mp this
      have := of_decide_eq_true (all c0 hc)
      omega
    · have : (cnt ns x l : Int) * sb ≤ (cnt ns n l : Int) * sb := Int.mul_le_mul_of_nonneg_right (by omega) (by omega)
      omega
theorem lead_ok {ns : List Int} {l : List Nat} {n : Int} (h : ∀ c ∈ l, n ≤ at_ ns c) : cnt ns n l = 0 := by
  unfold cnt
  rw [List.length_eq_zero_iff, List.filter_eq_nil_iff]
  intro c hc
  have := h c hc
  simp
  omega
end PM
set_option Elab.async false
set_option linter.all false
set_option maxRecDepth 100000
set_option maxHeartbeats 4000000
/-! E1: what the head tells of the text; the leaves. -/
namespace DD
open PySem PySem.Spec PyProof.Rows L2 PM
structure Df (K : PySem.W.Frag) (mg : Str → Option Value) (x : Str) (st : Stmt) : Prop where
  ex : ∃ f fd, mg x = some (.ref f) ∧ FunD K x x (defArgs st) (defBody st) (defScope st) [] [] f fd
structure Dm (K : PySem.W.Frag) (C : Addr) (m q : Str) (st : Stmt) : Prop where
  ex : ∃ f fd, Meth K C m f ∧ Cls K C ∧ FunD K m q (defArgs st) (defBody st) (defScope st) [] [] f fd
structure Dpr (K : PySem.W.Frag) (C : Addr) (m q : Str) (st : Stmt) : Prop where
  ex : ∃ p g fd, PropOf K C m p g ∧ Cls K C ∧ FunD K m q (defArgs st) (defBody st) (defScope st) [] [] g fd
section
variable {P : Program} {w : World} {K : PySem.W.Frag} {mg : Str → Option Value} {base : Heap} {x m q : Str} {st : Stmt} {C : Addr} {ps : List Str} {S : SpD} {k : Nat}
theorem Df.fd (D : Df K mg x st) (hb : ∀ (kV doc pm : Value) (an : Option Addr) (cdv ct : Value) (us : List Value), us.length = ps.length → bindArgs (PySem.W.fnOf x x (defArgs st) (defBody st) (defScope st) .none kV doc pm an cdv ct) ⟨us, []⟩ = pure (ps.zip us))
    (h : ∀ f fd, FunD K x x (defArgs st) (defBody st) (defScope st) [] [] f fd → FnOk P w K mg base (L2.CX P w) k f fd ps (spD S)) : Fd P w K mg base k x S := by
  obtain ⟨f, fd, h1, F⟩ := D.ex
  exact ⟨f, fd, ps, h1, F.kp, F.bindsN hb, h f fd F⟩
theorem Dm.md (D : Dm K C m q st) (hb : ∀ (kV doc pm : Value) (an : Option Addr) (cdv ct : Value) (us : List Value), us.length = ps.length → bindArgs (PySem.W.fnOf m q (defArgs st) (defBody st) (defScope st) .none kV doc pm an cdv ct) ⟨us, []⟩ = pure (ps.zip us))
    (h : ∀ f fd, FunD K m q (defArgs st) (defBody st) (defScope st) [] [] f fd → FnOk P w K mg base (L2.CX P w) k f fd ps (spD S)) : Md P w K mg base k C m S := by
  obtain ⟨f, fd, h1, h2, F⟩ := D.ex
  exact ⟨f, fd, ps, h1, h2, F.bindsN hb, h f fd F⟩
theorem Dpr.pd (D : Dpr K C m q st) (hb : ∀ (kV doc pm : Value) (an : Option Addr) (cdv ct : Value) (us : List Value), us.length = ps.length → bindArgs (PySem.W.fnOf m q (defArgs st) (defBody st) (defScope st) .none kV doc pm an cdv ct) ⟨us, []⟩ = pure (ps.zip us))
    (h : ∀ f fd, FunD K m q (defArgs st) (defBody st) (defScope st) [] [] f fd → FnOk P w K mg base (L2.CX P w) k f fd ps (spD S)) : Pd P w K mg base k C m S := by
  obtain ⟨p, f, fd, h1, h2, F⟩ := D.ex
  exact ⟨p, f, fd, ps, h1, h2, F.bindsN hb, h f fd F⟩
end
structure Ad where
  rat : Addr
  scl : Addr
  und : Addr
  auc : Addr
  who : Addr
  hnd : Addr
  unk : Addr
  tak : Addr
  bad : Addr
  frc : Addr
  fin : Addr
  non : Addr
/-- an exception class without own __init__ -/
structure ExT (K : PySem.W.Frag) (mg : Str → Option Value) (A : Ad) (x : Str) (C : Addr) : Prop where
  g : mg x = some (.ref C)
  q : PySem.W.excIn K C ([.type "ValueError", .type "Exception", .type "BaseException", .type "object"]) "ValueError.__new__" = true
  kp : PySem.W.keepIn K (.ref C) = true
  b : PySem.W.subIn K (.ref C) (.type "BaseException") = some true
  t : PySem.W.typeIn K (.ref C) = some (.type "type")
/-- what is asked of a caught exception's class -/
structure ExQ (K : PySem.W.Frag) (A : Ad) (C : Addr) (bH bF bU bT bR bB bN : Bool) : Prop where
  ec : ExcC K C
  w : PySem.W.exmOne K (.ref C) (.ref A.who) = some true
  v : PySem.W.kitOne K (.ref C) (.type "ValueError") = some true
  h : PySem.W.kitOne K (.ref C) (.ref A.hnd) = some bH
  f : PySem.W.kitOne K (.ref C) (.ref A.fin) = some bF
  u : PySem.W.kitOne K (.ref C) (.ref A.unk) = some bU
  t : PySem.W.kitOne K (.ref C) (.ref A.tak) = some bT
  r : PySem.W.kitOne K (.ref C) (.ref A.frc) = some bR
  b : PySem.W.kitOne K (.ref C) (.ref A.bad) = some bB
  n : PySem.W.kitOne K (.ref C) (.ref A.non) = some bN
/-- an exception class whose __init__ stands in B -/
structure ExX (P : Program) (K : PySem.W.Frag) (mg : Str → Option Value) (x fld : Str) (C B : Addr) (qual : Str) (st : Stmt) : Prop where
  g : mg x = some (.ref C)
  xi : XiC K C B fld
  ex : ∃ f fd cc cda, PySem.W.findIn K (.ref C) "__init__" = some (some (.ref f)) ∧ PySem.W.typeIn K (.ref f) = some (.type "function") ∧ FunS P K "__init__" qual (defArgs st) (defBody st) (defScope st) cc B f cda fd
structure Txt (P : Program) (K : PySem.W.Frag) (mg : Str → Option Value) (A : Ad) : Prop where
  f_len : mg "len" = none
  f_abs : mg "abs" = none
  f_int : mg "int" = none
  f_max : mg "max" = none
  f_min : mg "min" = none
  f_sum : mg "sum" = none
  f_sorted : mg "sorted" = none
  f_all : mg "all" = none
  f_range : mg "range" = none
  f_list : mg "list" = none
  f_tuple : mg "tuple" = none
  f_isinstance : mg "isinstance" = none
  f_bool : mg "bool" = none
  f_str : mg "str" = none
  f_iter : mg "iter" = none
  f_super : mg "super" = none
  f_ValueError : mg "ValueError" = none
  g_gcd : mg "gcd" = some (.builtin "math.gcd")
  g_MOST_HANDS : ∃ t, mg "MOST_HANDS" = some (.int 7 t)
  g_MOST_NUMBER : ∃ t, mg "MOST_NUMBER" = some (.int 1000000000 t)
  g_MOST_PART : ∃ t, mg "MOST_PART" = some (.int (10 ^ 60) t)
  g_MOST_HIRED : ∃ t, mg "MOST_HIRED" = some (.int 6 t)
  g_NEAR : ∃ t, mg "NEAR" = some (.str "near" t)
  g_FAR : ∃ t, mg "FAR" = some (.str "far" t)
  t_super : (P.main.scope.names.lookup ("super" : Str)).isSome = false
  x_unk : ExX P K mg "UnknownHand" "hand" A.unk A.hnd "HandError.__init__" s_HandError_init
  x_tak : ExX P K mg "TakenHand" "hand" A.tak A.hnd "HandError.__init__" s_HandError_init
  x_bad : ExX P K mg "BadHands" "hands" A.bad A.bad "BadHands.__init__" s_BadHands_init
  x_frc : ExT K mg A "BadFraction" A.frc
  x_fin : ExT K mg A "Ended" A.fin
  q_unk : ExQ K A A.unk true false true false false false false
  q_tak : ExQ K A A.tak true false false true false false false
  q_bad : ExQ K A A.bad false false false false false true false
  q_frc : ExQ K A A.frc false false false false true false false
  q_fin : ExQ K A A.fin false true false false false false false
  c_who : mg "WhoseforkError" = some (.ref A.who)
  c_hnd : mg "HandError" = some (.ref A.hnd)
  c_non : mg "NoneFree" = some (.ref A.non)
  c_rat : mg "Ratio" = some (.ref A.rat)
  c_scl : mg "Scale" = some (.ref A.scl)
  c_auc : mg "Auction" = some (.ref A.auc)
  i_rat : IsiC K A.rat
  k_rr : PySem.W.kitOne K (.ref A.rat) (.ref A.rat) = some true
  k_ir : PySem.W.kitOne K (.type "int") (.ref A.rat) = some false
  n_rat_top : NoAttr K A.rat "top"
  n_rat_bottom : NoAttr K A.rat "bottom"
  sf_rat : PySem.W.selfFirst K A.rat = true
  sub_ir : PySem.W.subIn K (.type "int") (.ref A.rat) = some false
  sub_ri : PySem.W.subIn K (.ref A.rat) (.type "int") = some false
  ia : ∃ fo, PySem.W.findIn K (.type "int") "__add__" = some fo
  ir : ∃ fo, PySem.W.findIn K (.type "int") "__radd__" = some fo
  rr : ∃ g : Addr, PySem.W.findIn K (.ref A.rat) "__radd__" = some (some (.ref g))
  cv_rat : ∃ mc u, ClX.CRead K A.rat mc ∧ ClX.CVal K A.rat mc "BOTTOM" (.int 1000000) u
  mk_rat : ∃ f fd, Mk K A.rat f ∧ FunD K "__init__" "Ratio.__init__" (defArgs s_Ratio_init) (defBody s_Ratio_init) (defScope s_Ratio_init) [.int 1] [("_bounded", .bl true)] f fd
  m_rat_add : Dm K A.rat "__add__" "Ratio.__add__" s_Ratio_add
  m_rat_sub : Dm K A.rat "__sub__" "Ratio.__sub__" s_Ratio_sub
  m_rat_rsub : Dm K A.rat "__rsub__" "Ratio.__rsub__" s_Ratio_rsub
  m_rat_neg : Dm K A.rat "__neg__" "Ratio.__neg__" s_Ratio_neg
  m_rat_below : Dm K A.rat "below" "Ratio.below" s_Ratio_below
  i_scl : Cls K A.scl
  n_scl_hands : NoAttr K A.scl "hands"
  n_scl_numbers : NoAttr K A.scl "_numbers"
  cv_scl : ∃ mc u, ClX.CRead K A.scl mc ∧ ClX.CVal K A.scl mc "MOST" (.int 1000000000) u
  mk_scl : ∃ f fd, Mk K A.scl f ∧ FunD K "__init__" "Scale.__init__" (defArgs s_Scale_init) (defBody s_Scale_init) (defScope s_Scale_init) [] [] f fd
  cm_scl : ∃ mc p g fd, ClX.CRead K A.scl mc ∧ ClX.CMet K A.scl mc "nothing" p g ∧ FunD K "nothing" "Scale.nothing" (defArgs s_Scale_nothing) (defBody s_Scale_nothing) (defScope s_Scale_nothing) [] [] g fd
  m_scl_get : Dm K A.scl "__getitem__" "Scale.__getitem__" s_Scale_getitem
  fi_scl_get : ∀ f, PySem.W.isFn K (.ref f) = true → PySem.W.keepIn K (.ref f) = true → PySem.W.findIn K (.ref A.scl) "__getitem__" = some (some (.ref f)) → PySem.W.fnIn K f = true
  it_scl : ∃ f fd, ItT K A.scl f ∧ FunD K "__iter__" "Scale.__iter__" (defArgs s_Scale_iter) (defBody s_Scale_iter) (defScope s_Scale_iter) [] [] f fd
  i_auc : Cls K A.auc
  n_auc_state : NoAttr K A.auc "_state"
  n_auc_past : NoAttr K A.auc "_past"
  n_auc_future : NoAttr K A.auc "_future"
  n_auc_scale : NoAttr K A.auc "_scale"
  mk_auc : ∃ f fd cc cda, Mk K A.auc f ∧ FunS P K "__init__" "Auction.__init__" (defArgs s_Auction_init) (defBody s_Auction_init) (defScope s_Auction_init) cc A.auc f cda fd
  su_auc : ∃ f fd, SupM K A.auc A.auc f "__init__" ∧ FunD K "__init__" "Undoable.__init__" (defArgs s_Undoable_init) (defBody s_Undoable_init) (defScope s_Undoable_init) [] [] f fd
  m_auc_deed : Dm K A.auc "_deed" "Undoable._deed" s_Undoable_deed
  m_auc_bidding : Dm K A.auc "bidding" "Auction.bidding" s_Auction_bidding
  p_auc_deeds : Dpr K A.auc "deeds" "Undoable.deeds" s_Undoable_deeds
  p_auc_near : Dpr K A.auc "near" "Auction.near" s_Auction_near
  p_auc_far : Dpr K A.auc "far" "Auction.far" s_Auction_far
  p_auc_free : Dpr K A.auc "free" "Auction.free" s_Auction_free
  p_auc_purse : Dpr K A.auc "purse" "Auction.purse" s_Auction_purse
  p_auc_result : Dpr K A.auc "result" "Auction.result" s_Auction_result
  d_check_hands : Df K mg "check_hands" s_check_hands
  d_check_number : Df K mg "check_number" s_check_number
  d_check_length : Df K mg "check_length" s_check_length
  d_check_hand : Df K mg "check_hand" s_check_hand
  d_mask_of : Df K mg "mask_of" s_mask_of
  d_tuple_of : Df K mg "tuple_of" s_tuple_of
  d_has_hand : Df K mg "has_hand" s_has_hand
  d_with_hand : Df K mg "with_hand" s_with_hand
  d_rest_mask : Df K mg "rest_mask" s_rest_mask
  d_exact : Df K mg "exact" s_exact
  d_is_fraction : Df K mg "is_fraction" s_is_fraction
  d_top_and_bottom : Df K mg "top_and_bottom" s_top_and_bottom
  d_is_less : Df K mg "is_less" s_is_less
  d_taken : Df K mg "taken" s_taken
  d_check_stand : Df K mg "check_stand" s_check_stand
  d_check_side : Df K mg "check_side" s_check_side
  d_free_hands : Df K mg "free_hands" s_free_hands
  d_check_some_free : Df K mg "check_some_free" s_check_some_free
  d_check_free_hand : Df K mg "check_free_hand" s_check_free_hand
  d_deals_of : Df K mg "deals_of" s_deals_of
  d_least_share : Df K mg "least_share" s_least_share
  d_purse_lead : Df K mg "purse_lead" s_purse_lead
  d_told_bid : Df K mg "told_bid" s_told_bid
  d_deal_numbers : Df K mg "deal_numbers" s_deal_numbers
  d_many_below : Df K mg "many_below" s_many_below
  d_check_opposite : Df K mg "check_opposite" s_check_opposite
  d_check_rising : Df K mg "check_rising" s_check_rising
  d_law_digit : Df K mg "_law_digit" s_law_digit
  d_law_same : Df K mg "_law_same" s_law_same
  d_law_push : Df K mg "_law_push" s_law_push
  d_law_pushed : Df K mg "_law_pushed" s_law_pushed
  d_law_reduced : Df K mg "_law_reduced" s_law_reduced
  d_law_deals : Df K mg "_law_deals" s_law_deals
  d_law_below : Df K mg "_law_below" s_law_below
  d_law_bid_due : Df K mg "_law_bid_due" s_law_bid_due
  d_law_pair : Df K mg "_law_pair" s_law_pair
  d_law_no_more : Df K mg "_law_no_more" s_law_no_more
  d_law_sum : Df K mg "_law_sum" s_law_sum
  d_law_value : Df K mg "_law_value" s_law_value
  d_law_all_of : Df K mg "_law_all_of" s_law_all_of
  d_law_any_bid : Df K mg "_law_any_bid" s_law_any_bid
  d_law_state_right : Df K mg "_law_state_right" s_law_state_right
  d_law_wished : Df K mg "_law_wished" s_law_wished
  d_law_share : Df K mg "_law_share" s_law_share
  d_law_fault : Df K mg "_law_fault" s_law_fault
  d_law_called : Df K mg "_law_called" s_law_called
  d_law_opened : Df K mg "_law_opened" s_law_opened
  d_law_call_due : Df K mg "_law_call_due" s_law_call_due
  d_law_bad_call : Df K mg "_law_bad_call" s_law_bad_call
  d_law_told_right : Df K mg "_law_told_right" s_law_told_right
  d_law_round_right : Df K mg "_law_round_right" s_law_round_right
  d_law_opening_right : Df K mg "_law_opening_right" s_law_opening_right
section
variable {P : Program} {w : World} {K : PySem.W.Frag} {mg : Str → Option Value} {base : Heap} {A : Ad}
/-! ### bits -/
theorem band (a b : Nat) : Builtin.bitAnd (a : Int) (b : Int) = ((a &&& b : Nat) : Int) := by
  unfold Builtin.bitAnd
  simp
theorem bor (a b : Nat) : Builtin.bitOr (a : Int) (b : Int) = ((a ||| b : Nat) : Int) := by
  rw [L2.bitOr_nn (by omega) (by omega)]
  simp
theorem shr1 (m h : Nat) : decide (Builtin.bitAnd ((m : Int) / 2 ^ (h : Int).toNat) 1 = 1) = Nat.testBit m h := by
  rw [Int.toNat_natCast]
  have e : ((m : Int) / 2 ^ h) = ((m / 2 ^ h : Nat) : Int) := by push_cast; rfl
  rw [e, show (1 : Int) = ((1 : Nat) : Int) from rfl, band]
  rw [Nat.testBit, Nat.shiftRight_eq_div_pow, Nat.and_comm]
  have : (m / 2 ^ h &&& 1) = (m / 2 ^ h) % 2 := Nat.and_one_is_mod _
  rw [Nat.and_comm 1, this]
  rcases Nat.mod_two_eq_zero_or_one (m / 2 ^ h) with e | e <;> rw [e] <;> simp
abbrev tI (ns : List Int) : D := .tup (ns.map D.int)
abbrev lI (ns : List Int) : D := .lst (ns.map D.int)
abbrev zI (l : List Nat) : List Int := l.map (fun i : Nat => (i : Int))
def S_has_hand : SpD := fun ds μ Q _ => ∃ m h : Nat, ds = [.int m, .int h] ∧ Q (.bl (Nat.testBit m h)) μ
theorem fd_has_hand (T : Txt P K mg A) : Fd P w K mg base 1 "has_hand" S_has_hand := T.d_has_hand.fd (ps := p_has_hand) bd_has_hand fun f fd F => fn_d F sc_has_hand (fun ds μ Q ξ ⟨m, h, hd, _⟩ => by subst hd; rfl) fun cdv A outer s H E G0 ξ ok ds μ Q ⟨m, h, hd, q⟩ => by
  subst hd
  refine sd_one (s1_ret (ed_eqI (ed_and (ed_shr (ed_var 0 rfl (ed_var 1 rfl ⟨_, _, rfl, rfl, by omega, ed_int ⟨_, _, rfl, rfl, ed_int ⟨_, _, rfl, rfl, ?_⟩⟩⟩)))))) 
  rw [shr1]
  exact q
def S_with_hand : SpD := fun ds μ Q _ => ∃ m h : Nat, ds = [.int m, .int h] ∧ h ≤ 1000 ∧ Q (.int ((m ||| 2 ^ h : Nat) : Int)) μ
theorem fd_with_hand (T : Txt P K mg A) : Fd P w K mg base 1 "with_hand" S_with_hand := T.d_with_hand.fd (ps := p_with_hand) bd_with_hand fun f fd F => fn_d F sc_with_hand (fun ds μ Q ξ ⟨m, h, hd, _⟩ => by subst hd; rfl) fun cdv A outer s H E G0 ξ ok ds μ Q ⟨m, h, hd, h7, q⟩ => by
  subst hd
  refine sd_one (s1_ret (ed_or (ed_var 0 rfl (ed_shl (ed_int (ed_var 1 rfl ⟨_, _, rfl, rfl, ⟨by omega, by omega, by decide⟩, ⟨_, _, rfl, rfl, ?_⟩⟩))))))
  have e : (1 : Int) * 2 ^ (h : Int).toNat = ((2 ^ h : Nat) : Int) := by rw [Int.toNat_natCast, Int.one_mul]; push_cast; rfl
  rw [e, bor]
  exact q
end
end DD
set_option Elab.async false
set_option linter.all false
set_option maxRecDepth 100000
set_option maxHeartbeats 4000000
/-! H0: what the head must tell: the objects looked at, the checks. -/
namespace DD
open PySem PySem.Spec PyProof.Rows L2 PM
/-! ### the part of the heap -/
def inDict (o : Obj) : List Addr := match o.data with
  | .dict es _ => es.toList.flatMap fun e => He.refV e.val
  | _ => []
def inFn (o : Obj) : List Addr := match o.data with
  | .func fd => He.refV fd.code ++ (He.refV fd.defaults ++ (He.refV fd.kwdefaults ++ fd.closure.map (·.2)))
  | .cls cd => [cd.ns]
  | _ => []
def inMem (o : Obj) : List Addr := match o.data with
  | .func fd => He.refV fd.code ++ (He.refV fd.defaults ++ (He.refV fd.kwdefaults ++ fd.closure.map (·.2)))
  | .fields vs => vs.toList.flatMap He.refV
  | _ => []
def hop (g : Addr → Option Obj) (f : Obj → List Addr) (as : List Addr) : List Addr := as.flatMap fun a => match g a with
  | some o => f o
  | none => []
def reach (g : Addr → Option Obj) : List Addr :=
  let l1 := hop g inDict [mainGlobals]
  let l2 := hop g inFn l1
  let l3 := hop g inDict l2
  let l4 := hop g inMem l3
  mainGlobals :: cStatics :: (l1 ++ (l2 ++ (l3 ++ (l4 ++ hop g inFn l4))))
/-! ### addresses -/
inductive Pt where
  | g (x : Str)
  | m (x f : Str)
  | p (x f : Str)
  | c (x f : Str)
def recA (K : PySem.W.Frag) (p : Addr) (T : String) : Addr := match PySem.W.recIn K p T with
  | some (.ref g :: _) => g
  | _ => 0
abbrev mA (K : PySem.W.Frag) (x f : Str) : Addr := He.ma K (He.ga K x) f
def Pt.at (K : PySem.W.Frag) : Pt → Addr
  | .g x => He.ga K x
  | .m x f => mA K x f
  | .p x f => recA K (mA K x f) "property"
  | .c x f => recA K (mA K x f) "classmethod"
def AK (K : PySem.W.Frag) : Ad := ⟨He.ga K "Ratio", He.ga K "Scale", He.ga K "Undoable", He.ga K "Auction", He.ga K "WhoseforkError", He.ga K "HandError", He.ga K "UnknownHand", He.ga K "TakenHand", He.ga K "BadHands", He.ga K "BadFraction", He.ga K "Ended", He.ga K "NoneFree"⟩
/-! ### defs -/
structure DX where
  pt : Pt
  name : Str
  qual : Str
  st : Stmt
  dfl : List V
  kwd : List (Str × V)
abbrev FnT : Type := Option (Str × Str × Arguments × FuncBody × Scope × Addr × List Str × Addr)
def obF (K : PySem.W.Frag) (a : Addr) : FnT := match K.lookup a with
  | some o => (match o.data with
    | .func d => some (d.name, d.qualname, d.params, d.body, d.scope, d.globals, d.closure.map (·.1), d.builtins)
    | _ => none)
  | none => none
def DX.val (x : DX) (cl : List Str) : FnT := some (x.name, x.qual, defArgs x.st, .stmts (defBody x.st), defScope x.st, mainGlobals, cl, builtinsNs)
def okF (K : PySem.W.Frag) (a : Addr) (x : DX) : Bool := match K.lookup a with
  | some o => (match o.data with
    | .func d => PySem.W.codeIn K d.code x.qual && (He.dflB K d.defaults x.dfl && He.kwdB K d.kwdefaults x.kwd)
    | _ => false)
  | none => false
theorem funD_of {K : PySem.W.Frag} {a : Addr} {x : DX} (e : obF K a = x.val []) (c : okF K a x = true) : ∃ fd, FunD K x.name x.qual (defArgs x.st) (defBody x.st) (defScope x.st) x.dfl x.kwd a fd := by
  unfold obF at e
  unfold okF at c
  cases hl : K.lookup a with
  | none => rw [hl] at c; cases c
  | some o =>
    rw [hl] at c e
    obtain ⟨oc, od, dt, osl⟩ := o
    cases dt with
    | func d =>
      obtain ⟨a1, a2, a3, a4, a5, a6, a7, a8, a9, a10, a11, a12, a13, a14, a15⟩ := d
      have e2 : (some (a1, a2, a3, a4, a5, a6, a7.map (·.1), a15) : FnT) = some (x.name, x.qual, defArgs x.st, .stmts (defBody x.st), defScope x.st, mainGlobals, [], builtinsNs) := e
      simp only [Option.some.injEq, Prod.mk.injEq, List.map_eq_nil_iff] at e2
      obtain ⟨rfl, rfl, rfl, rfl, rfl, rfl, rfl, rfl⟩ := e2
      have c2 : (PySem.W.codeIn K a13 x.qual && (He.dflB K a8 x.dfl && He.kwdB K a9 x.kwd)) = true := c
      obtain ⟨k1, k2⟩ := Bool.and_eq_true_iff.mp c2
      obtain ⟨k3, k4⟩ := Bool.and_eq_true_iff.mp k2
      refine ⟨_, ⟨oc, od, a8, a9, a10, a11, a12, a13, a14, osl, rfl, hl, k1, He.dflB_ok k3, He.kwdB_ok k4⟩, ?_⟩
      unfold PySem.W.keepIn
      simp only [hl]
    | _ => cases c
/-- a def of a class that says super() -/
def ccA (K : PySem.W.Frag) (a : Addr) : Addr := match K.lookup a with
  | some o => (match o.data with
    | .func d => (match d.closure with
      | (_, c) :: _ => c
      | [] => 0)
    | _ => 0)
  | none => 0
def cdA (K : PySem.W.Frag) (a : Addr) : Addr := match K.lookup a with
  | some o => (match o.data with
    | .func d => (match d.code with
      | .ref c => c
      | _ => 0)
    | _ => 0)
  | none => 0
def isRef : Value → Bool
  | .ref _ => true
  | _ => false
def isNo : Value → Bool
  | .none => true
  | _ => false
def okS (P : Program) (K : PySem.W.Frag) (a B : Addr) (x : DX) : Bool := (match K.lookup a with
  | some o => (match o.data with
    | .func d => isRef d.code && isNo d.defaults
    | _ => false)
  | none => false) && (PySem.W.codeIn K (.ref (cdA K a)) x.qual && ((match K.lookup (cdA K a) with
  | some o => (match o.data with
    | .fields vs => (match (vs[2]? : Option Value) with
      | some (.str file _) => (P.main.file : Str) == file
      | _ => false)
    | _ => false)
  | none => false) && (match K.lookup (ccA K a) with
  | some o => (match o.data with
    | .cell (some (.ref b)) => decide (b = B)
    | _ => false)
  | none => false)))
theorem funS_of {P : Program} {K : PySem.W.Frag} {a B : Addr} {x : DX} (e : obF K a = x.val ["__class__"]) (c : okS P K a B x = true) : ∃ fd, FunS P K x.name x.qual (defArgs x.st) (defBody x.st) (defScope x.st) (ccA K a) B a (cdA K a) fd := by
  unfold okS at c
  obtain ⟨c1, c⟩ := Bool.and_eq_true_iff.mp c
  obtain ⟨c2, c⟩ := Bool.and_eq_true_iff.mp c
  obtain ⟨c3, c4⟩ := Bool.and_eq_true_iff.mp c
  unfold obF at e
  cases hl : K.lookup a with
  | none => rw [hl] at c1; cases c1
  | some o =>
    rw [hl] at c1 e
    obtain ⟨oc, od, dt, osl⟩ := o
    cases dt with
    | func d =>
      obtain ⟨a1, a2, a3, a4, a5, a6, a7, a8, a9, a10, a11, a12, a13, a14, a15⟩ := d
      have e2 : (some (a1, a2, a3, a4, a5, a6, a7.map (·.1), a15) : FnT) = some (x.name, x.qual, defArgs x.st, FuncBody.stmts (defBody x.st), defScope x.st, mainGlobals, (["__class__"] : List Str), builtinsNs) := e
      simp only [Option.some.injEq, Prod.mk.injEq] at e2
      obtain ⟨rfl, rfl, rfl, rfl, rfl, rfl, h7, rfl⟩ := e2
      have c1' : (isRef a13 && isNo a8) = true := c1
      obtain ⟨r1, r2⟩ := Bool.and_eq_true_iff.mp c1'
      cases a13 with
      | ref cda =>
        cases a8 with
        | none =>
          obtain ⟨cc, rfl⟩ : ∃ cc, a7 = [(("__class__" : Str), cc)] := by
            match a7, h7 with
            | [(n, cc)], h => simp at h; exact ⟨cc, by rw [h]⟩
          have ec : cdA K a = cda := by unfold cdA; rw [hl]
          have ecc : ccA K a = cc := by unfold ccA; rw [hl]
          rw [ec] at c2 c3 ⊢
          rw [ecc] at c4 ⊢
          refine ⟨_, ⟨oc, od, a9, a10, a11, a12, a14, osl, rfl, hl⟩, c2, ?_, ?_⟩
          · cases h2 : K.lookup cda with
            | none => rw [h2] at c3; cases c3
            | some o =>
              rw [h2] at c3
              obtain ⟨o1, o2, o3, o4⟩ := o
              cases o3 with
              | fields vs =>
                have c3' : (match (vs[2]? : Option Value) with
                  | some (.str file _) => (P.main.file : Str) == file
                  | _ => false) = true := c3
                cases h3 : vs[2]? with
                | none => rw [h3] at c3'; cases c3'
                | some v =>
                  rw [h3] at c3'
                  cases v with
                  | str file tf => exact ⟨o1, o2, vs, o4, file, tf, rfl, h3, c3'⟩
                  | _ => cases c3'
              | _ => cases c3
          · cases h2 : K.lookup cc with
            | none => rw [h2] at c4; cases c4
            | some o =>
              rw [h2] at c4
              obtain ⟨o1, o2, o3, o4⟩ := o
              cases o3 with
              | cell v =>
                cases v with
                | none => cases c4
                | some v =>
                  cases v with
                  | ref b =>
                    have eb : b = B := of_decide_eq_true c4
                    subst eb
                    exact ⟨o1, o2, o4, rfl⟩
                  | _ => cases c4
              | _ => cases c4
        | _ => cases r2
      | _ => cases r1
    | _ => cases c1
/-! ### further checks -/
def tB (o : Option Bool) : Bool := match o with
  | some b => b
  | none => false
def fB (o : Option Bool) : Bool := match o with
  | some b => !b
  | none => false
theorem tB_ok {o : Option Bool} (h : tB o = true) : o = some true := by
  cases o with
  | none => cases h
  | some b => cases b with
    | true => rfl
    | false => cases h
theorem fB_ok {o : Option Bool} (h : fB o = true) : o = some false := by
  cases o with
  | none => cases h
  | some b => cases b with
    | true => cases h
    | false => rfl
abbrev gR (K : PySem.W.Frag) (x : Str) : Value := .ref (He.ga K x)
def isiB (K : PySem.W.Frag) (x : Str) : List Bool := [He.eqO (PySem.W.findIn K (gR K x) "__class__") (some (some (.builtin "object.__class__"))), He.eqO (PySem.W.specialIn K (.builtin "object.__class__") "__get__") (some (some (.builtin "getset_descriptor.__get__"))), tB (PySem.W.takesIn K (.builtin "object.__class__")), tB (PySem.W.mroIn K (He.ga K x) (.type "object"))]
def excB (K : PySem.W.Frag) (x : Str) : List Bool := isiB K x ++ [He.eqO (PySem.W.findIn K (gR K x) "__getattribute__") (some (some (.builtin "BaseException.__getattribute__"))), He.eqO (PySem.W.findIn K (gR K x) "__getattr__") (some none), tB (PySem.W.subIn K (gR K x) (.type "BaseException")), PySem.W.hasDictIn K (He.ga K x)]
def kB (b : Bool) (o : Option Bool) : Bool := match b with
  | true => tB o
  | false => fB o
theorem kB_ok {b : Bool} {o : Option Bool} (h : kB b o = true) : o = some b := by
  cases b with
  | true => exact tB_ok h
  | false => exact fB_ok h
def exqB (K : PySem.W.Frag) (x : Str) (bH bF bU bT bR bB bN : Bool) : List Bool := excB K x ++ [tB (PySem.W.exmOne K (gR K x) (gR K "WhoseforkError")), tB (PySem.W.kitOne K (gR K x) (.type "ValueError")), kB bH (PySem.W.kitOne K (gR K x) (gR K "HandError")), kB bF (PySem.W.kitOne K (gR K x) (gR K "Ended")), kB bU (PySem.W.kitOne K (gR K x) (gR K "UnknownHand")), kB bT (PySem.W.kitOne K (gR K x) (gR K "TakenHand")), kB bR (PySem.W.kitOne K (gR K x) (gR K "BadFraction")), kB bB (PySem.W.kitOne K (gR K x) (gR K "BadHands")), kB bN (PySem.W.kitOne K (gR K x) (gR K "NoneFree"))]
theorem all_at {l : List Bool} (h : l.all id = true) (i : Nat) {b : Bool} (e : l[i]? = some b := by rfl) : b = true := List.all_eq_true.mp h b (List.mem_of_getElem? e)
theorem exq_ok {K : PySem.W.Frag} {x : Str} {bH bF bU bT bR bB bN : Bool} (h : (exqB K x bH bF bU bT bR bB bN).all id = true) : ExQ K (AK K) (He.ga K x) bH bF bU bT bR bB bN :=
  ⟨⟨He.eqO_ok (all_at h 4), He.eqO_ok (all_at h 5), tB_ok (all_at h 6), all_at h 7, He.eqO_ok (all_at h 0), He.eqO_ok (all_at h 1), tB_ok (all_at h 2), tB_ok (all_at h 3)⟩, tB_ok (all_at h 8), tB_ok (all_at h 9), kB_ok (all_at h 10), kB_ok (all_at h 11), kB_ok (all_at h 12), kB_ok (all_at h 13), kB_ok (all_at h 14), kB_ok (all_at h 15), kB_ok (all_at h 16)⟩
/-- the object of an exception class -/
def ecB (K : PySem.W.Frag) (C : Addr) : Bool := match K.lookup C with
  | some ⟨.type t, _, .cls ⟨_, _, .ref C' :: bm, _, _, hd, _, _, _, _, del⟩, ⟨[_, _, _, _, some (.builtin n), _]⟩⟩ => t == "type" && (decide (C' = C) && (PySem.HandSPX.refsVE bm && (hd && (!del && n == "ValueError.__new__"))))
  | _ => false
theorem ec_ok {K : PySem.W.Frag} {C : Addr} (h : ecB K C = true) : ∃ nm q N bs bm sn sub ab col dd k0 k1 k2 k3 k5, K.lookup C = some (excClassObj nm q C N bs bm true sn sub ab col dd k0 k1 k2 k3 k5 "ValueError.__new__") ∧ PySem.HandSPX.refsVE bm = true := by
  unfold ecB at h
  split at h
  · rename_i t dd nm bs C' bm N q hd sn sub ab col del k0 k1 k2 k3 n k5 hl
    obtain ⟨h1, h⟩ := Bool.and_eq_true_iff.mp h
    obtain ⟨h2, h⟩ := Bool.and_eq_true_iff.mp h
    obtain ⟨h3, h⟩ := Bool.and_eq_true_iff.mp h
    obtain ⟨h4, h⟩ := Bool.and_eq_true_iff.mp h
    obtain ⟨h5, h6⟩ := Bool.and_eq_true_iff.mp h
    have e1 := of_decide_eq_true h2
    have e2 : t = "type" := by simpa using h1
    have e3 : n = "ValueError.__new__" := by simpa using h6
    have e5 : del = false := by simpa using h5
    subst e1 e2 e3 h4 e5
    exact ⟨nm, q, N, bs, bm, sn, sub, ab, col, dd, k0, k1, k2, k3, k5, hl, h3⟩
  · cases h
def xiB (K : PySem.W.Frag) (x y fld : Str) : List Bool := [ecB K (He.ga K x), He.eqO (PySem.W.findIn K (gR K x) "__setattr__") (some (some (.builtin "object.__setattr__"))), tB (PySem.W.subIn K (gR K x) (.type "BaseException")), decide (PySem.W.typeIn K (gR K x) = some (.type "type")), PySem.W.keepIn K (gR K x),
  tB (PySem.W.mroIn K (He.ga K x) (gR K y)), (PySem.W.clsIn K (He.ga K y)).isSome, (PySem.W.clsIn K (He.ga K x)).isSome, tB (PySem.W.subIn K (gR K x) (.type "ValueError")), He.eqO (PySem.W.ks_superIn K (He.ga K x) (He.ga K y) "__init__") (some (some (.builtin "ValueError.__init__"))), He.eqO (PySem.W.nsIn K PySem.cStatics "thirdparty.any") (some none), He.eqO (PySem.W.findIn K (gR K x) fld) (some none),
  He.eqO (PySem.W.findIn K (gR K x) "__init__") (some (some (.ref (mA K y "__init__")))), decide (PySem.W.typeIn K (.ref (mA K y "__init__")) = some (.type "function"))]
theorem xi_ok {K : PySem.W.Frag} {x y fld : Str} (h : (xiB K x y fld).all id = true) : XiC K (He.ga K x) (He.ga K y) fld :=
  ⟨⟨ec_ok (all_at h 0), He.eqO_ok (all_at h 1), tB_ok (all_at h 2), of_decide_eq_true (all_at h 3), all_at h 4⟩, tB_ok (all_at h 5), Option.isSome_iff_exists.mp (all_at h 6), Option.isSome_iff_exists.mp (all_at h 7), tB_ok (all_at h 8), He.eqO_ok (all_at h 9), He.eqO_ok (all_at h 10), He.eqO_ok (all_at h 11)⟩
/-- a property -/
def prB (K : PySem.W.Frag) (x f : Str) : List Bool := [He.eqO (PySem.W.findIn K (gR K x) f) (some (some (.ref (mA K x f)))), He.eqO (PySem.W.specialIn K (.ref (mA K x f)) "__get__") (some (some (.builtin "property.__get__"))), tB (PySem.W.takesIn K (.ref (mA K x f))), (match PySem.W.recIn K (mA K x f) "property" with
  | some (.ref _ :: _) => true
  | _ => false)]
theorem rec_ok {K : PySem.W.Frag} {p : Addr} {T : String} (h : (match PySem.W.recIn K p T with
  | some (.ref _ :: _) => true
  | _ => false) = true) : ∃ rest, PySem.W.recIn K p T = some (.ref (recA K p T) :: rest) := by
  unfold recA
  split at h
  · rename_i g r e
    rw [e]
    exact ⟨r, rfl⟩
  · cases h
theorem prop_ok {K : PySem.W.Frag} {C f : Str} (h : (prB K C f).all id = true) : PropOf K (He.ga K C) f (mA K C f) ((Pt.p C f).at K) :=
  ⟨He.eqO_ok (all_at h 0), He.eqO_ok (all_at h 1), tB_ok (all_at h 2), rec_ok (all_at h 3)⟩
/-- a constant of a class, read off the class -/
def crB (K : PySem.W.Frag) (x : Str) : List Bool := [PySem.W.readsIn K (He.ga K x) (.type "type"), He.eqO (PySem.W.specialIn K (gR K x) "__getattribute__") (some (some (.builtin "type.__getattribute__")))]
def cvB (K : PySem.W.Frag) (x f : Str) (v : V) : Bool := match PySem.W.findCls K (gR K x) (.type "type") f with
  | some (.val u) => He.relB v u
  | _ => false
theorem cv_ok {K : PySem.W.Frag} {x f : Str} {v : V} (h1 : (crB K x).all id = true) (h2 : cvB K x f v = true) : ∃ mc u, ClX.CRead K (He.ga K x) mc ∧ ClX.CVal K (He.ga K x) mc f v u := by
  unfold cvB at h2
  split at h2
  · rename_i u e
    exact ⟨_, u, ⟨all_at h1 0, He.eqO_ok (all_at h1 1)⟩, ⟨e, He.relB_ok h2⟩⟩
  · cases h2
def cmB (K : PySem.W.Frag) (x f : Str) : List Bool := [(match PySem.W.findCls K (gR K x) (.type "type") f with
  | some (.get (.builtin b) (.ref p) .none (.ref C)) => b == "classmethod.__get__" && (decide (p = mA K x f) && decide (C = He.ga K x))
  | _ => false), (match PySem.W.recIn K (mA K x f) "classmethod" with
  | some (.ref _ :: _) => true
  | _ => false), PySem.W.fnIn K ((Pt.c x f).at K)]
theorem cm_ok {K : PySem.W.Frag} {x f : Str} (h1 : (crB K x).all id = true) (h : (cmB K x f).all id = true) : ClX.CRead K (He.ga K x) (.type "type") ∧ ClX.CMet K (He.ga K x) (.type "type") f (mA K x f) ((Pt.c x f).at K) := by
  refine ⟨⟨all_at h1 0, He.eqO_ok (all_at h1 1)⟩, ?_, rec_ok (all_at h 1), all_at h 2⟩
  have h0 := all_at h 0
  split at h0
  · rename_i b p C e
    obtain ⟨k1, k2⟩ := Bool.and_eq_true_iff.mp h0
    obtain ⟨k2, k3⟩ := Bool.and_eq_true_iff.mp k2
    have e1 : b = "classmethod.__get__" := by simpa using k1
    rw [e, e1, of_decide_eq_true k2, of_decide_eq_true k3]
  · cases h0
def suB (K : PySem.W.Frag) (x y : Str) : List Bool := [tB (PySem.W.mroIn K (He.ga K x) (gR K x)), (PySem.W.clsIn K (He.ga K x)).isSome, He.eqO (PySem.W.nsIn K PySem.cStatics "thirdparty.any") (some none), He.eqO (PySem.W.ks_superIn K (He.ga K x) (He.ga K x) "__init__") (some (some (.ref (mA K y "__init__")))), decide (PySem.W.typeIn K (.ref (mA K y "__init__")) = some (.type "function")), PySem.W.fnIn K (mA K y "__init__")]
theorem su_ok {K : PySem.W.Frag} {x y : Str} (h : (suB K x y).all id = true) : SupM K (He.ga K x) (He.ga K x) (mA K y "__init__") "__init__" :=
  ⟨tB_ok (all_at h 0), Option.isSome_iff_exists.mp (all_at h 1), Option.isSome_iff_exists.mp (all_at h 1), He.eqO_ok (all_at h 2), He.eqO_ok (all_at h 3), of_decide_eq_true (all_at h 4), all_at h 5⟩
def itB (K : PySem.W.Frag) (x : Str) : List Bool := [He.eqO (PySem.W.findIn K (gR K x) "__len__") (some none), He.eqO (PySem.W.findIn K (gR K x) "__length_hint__") (some none)]
def mxB (K : PySem.W.Frag) : List Bool := [He.eqO (PySem.W.nsIn K mainGlobals "gcd") (some (some (.builtin "math.gcd"))), tB (PySem.W.kitOne K (gR K "Ratio") (gR K "Ratio")), fB (PySem.W.kitOne K (.type "int") (gR K "Ratio")), PySem.W.selfFirst K (He.ga K "Ratio"), fB (PySem.W.subIn K (.type "int") (gR K "Ratio")), fB (PySem.W.subIn K (gR K "Ratio") (.type "int")),
  (PySem.W.findIn K (.type "int") "__add__").isSome, (PySem.W.findIn K (.type "int") "__radd__").isSome, He.eqO (PySem.W.findIn K (gR K "Ratio") "__radd__") (some (some (.ref (mA K "Ratio" "__radd__")))), cvB K "Ratio" "BOTTOM" (.int 1000000), cvB K "Scale" "MOST" (.int 1000000000), PySem.W.fnIn K (mA K "Scale" "__getitem__")]
def faL : List He.Fa := [.free "len", .free "abs", .free "int", .free "max", .free "min", .free "sum", .free "sorted", .free "all", .free "range", .free "list", .free "tuple", .free "isinstance", .free "bool", .free "str", .free "iter", .free "super", .free "ValueError", .int "MOST_HANDS" 7, .int "MOST_NUMBER" 1000000000, .int "MOST_PART" (10 ^ 60), .int "MOST_HIRED" 6, .str "NEAR" "near", .str "FAR" "far", .glo "WhoseforkError", .glo "HandError", .glo "NoneFree", .glo "Ratio", .glo "Scale", .glo "Auction", .noat "Ratio" "top", .noat "Ratio" "bottom", .meth "Ratio" "__add__", .cls "Ratio", .meth "Ratio" "__sub__", .meth "Ratio" "__rsub__", .meth "Ratio" "__neg__", .meth "Ratio" "below", .cls "Scale", .noat "Scale" "hands", .noat "Scale" "_numbers", .meth "Scale" "__getitem__", .cls "Auction", .noat "Auction" "_state", .noat "Auction" "_past", .noat "Auction" "_future", .noat "Auction" "_scale", .meth "Auction" "_deed", .meth "Auction" "bidding", .glo "check_hands", .glo "check_number", .glo "check_length", .glo "check_hand", .glo "mask_of", .glo "tuple_of", .glo "has_hand", .glo "with_hand", .glo "rest_mask", .glo "exact", .glo "is_fraction", .glo "top_and_bottom", .glo "is_less", .glo "taken", .glo "check_stand", .glo "check_side", .glo "free_hands", .glo "check_some_free", .glo "check_free_hand", .glo "deals_of", .glo "least_share", .glo "purse_lead", .glo "told_bid", .glo "deal_numbers", .glo "many_below", .glo "check_opposite", .glo "check_rising", .glo "_law_digit", .glo "_law_same", .glo "_law_push", .glo "_law_pushed", .glo "_law_reduced", .glo "_law_deals", .glo "_law_below", .glo "_law_bid_due", .glo "_law_pair", .glo "_law_no_more", .glo "_law_sum", .glo "_law_value", .glo "_law_all_of", .glo "_law_any_bid", .glo "_law_state_right", .glo "_law_wished", .glo "_law_share", .glo "_law_fault", .glo "_law_called", .glo "_law_opened", .glo "_law_call_due", .glo "_law_bad_call", .glo "_law_told_right", .glo "_law_round_right", .glo "_law_opening_right", .glo "law", .mkr "Ratio", .mkr "Scale", .mkr "Auction", .exc "BadFraction", .exc "Ended", .glo "UnknownHand", .glo "TakenHand", .glo "BadHands", .glo "BadFraction", .glo "Ended", .meth "Scale" "__iter__"]
def dfL : List DX := [⟨.m "Ratio" "__add__", "__add__", "Ratio.__add__", s_Ratio_add, [], []⟩,
  ⟨.m "Ratio" "__sub__", "__sub__", "Ratio.__sub__", s_Ratio_sub, [], []⟩,
  ⟨.m "Ratio" "__rsub__", "__rsub__", "Ratio.__rsub__", s_Ratio_rsub, [], []⟩,
  ⟨.m "Ratio" "__neg__", "__neg__", "Ratio.__neg__", s_Ratio_neg, [], []⟩,
  ⟨.m "Ratio" "below", "below", "Ratio.below", s_Ratio_below, [], []⟩,
  ⟨.m "Scale" "__getitem__", "__getitem__", "Scale.__getitem__", s_Scale_getitem, [], []⟩,
  ⟨.m "Auction" "_deed", "_deed", "Undoable._deed", s_Undoable_deed, [], []⟩,
  ⟨.m "Auction" "bidding", "bidding", "Auction.bidding", s_Auction_bidding, [], []⟩,
  ⟨.p "Auction" "deeds", "deeds", "Undoable.deeds", s_Undoable_deeds, [], []⟩,
  ⟨.p "Auction" "near", "near", "Auction.near", s_Auction_near, [], []⟩,
  ⟨.p "Auction" "far", "far", "Auction.far", s_Auction_far, [], []⟩,
  ⟨.p "Auction" "free", "free", "Auction.free", s_Auction_free, [], []⟩,
  ⟨.p "Auction" "purse", "purse", "Auction.purse", s_Auction_purse, [], []⟩,
  ⟨.p "Auction" "result", "result", "Auction.result", s_Auction_result, [], []⟩,
  ⟨.g "check_hands", "check_hands", "check_hands", s_check_hands, [], []⟩,
  ⟨.g "check_number", "check_number", "check_number", s_check_number, [], []⟩,
  ⟨.g "check_length", "check_length", "check_length", s_check_length, [], []⟩,
  ⟨.g "check_hand", "check_hand", "check_hand", s_check_hand, [], []⟩,
  ⟨.g "mask_of", "mask_of", "mask_of", s_mask_of, [], []⟩,
  ⟨.g "tuple_of", "tuple_of", "tuple_of", s_tuple_of, [], []⟩,
  ⟨.g "has_hand", "has_hand", "has_hand", s_has_hand, [], []⟩,
  ⟨.g "with_hand", "with_hand", "with_hand", s_with_hand, [], []⟩,
  ⟨.g "rest_mask", "rest_mask", "rest_mask", s_rest_mask, [], []⟩,
  ⟨.g "exact", "exact", "exact", s_exact, [], []⟩,
  ⟨.g "is_fraction", "is_fraction", "is_fraction", s_is_fraction, [], []⟩,
  ⟨.g "top_and_bottom", "top_and_bottom", "top_and_bottom", s_top_and_bottom, [], []⟩,
  ⟨.g "is_less", "is_less", "is_less", s_is_less, [], []⟩,
  ⟨.g "taken", "taken", "taken", s_taken, [], []⟩,
  ⟨.g "check_stand", "check_stand", "check_stand", s_check_stand, [], []⟩,
  ⟨.g "check_side", "check_side", "check_side", s_check_side, [], []⟩,
  ⟨.g "free_hands", "free_hands", "free_hands", s_free_hands, [], []⟩,
  ⟨.g "check_some_free", "check_some_free", "check_some_free", s_check_some_free, [], []⟩,
  ⟨.g "check_free_hand", "check_free_hand", "check_free_hand", s_check_free_hand, [], []⟩,
  ⟨.g "deals_of", "deals_of", "deals_of", s_deals_of, [], []⟩,
  ⟨.g "least_share", "least_share", "least_share", s_least_share, [], []⟩,
  ⟨.g "purse_lead", "purse_lead", "purse_lead", s_purse_lead, [], []⟩,
  ⟨.g "told_bid", "told_bid", "told_bid", s_told_bid, [], []⟩,
  ⟨.g "deal_numbers", "deal_numbers", "deal_numbers", s_deal_numbers, [], []⟩,
  ⟨.g "many_below", "many_below", "many_below", s_many_below, [], []⟩,
  ⟨.g "check_opposite", "check_opposite", "check_opposite", s_check_opposite, [], []⟩,
  ⟨.g "check_rising", "check_rising", "check_rising", s_check_rising, [], []⟩,
  ⟨.g "_law_digit", "_law_digit", "_law_digit", s_law_digit, [], []⟩,
  ⟨.g "_law_same", "_law_same", "_law_same", s_law_same, [], []⟩,
  ⟨.g "_law_push", "_law_push", "_law_push", s_law_push, [], []⟩,
  ⟨.g "_law_pushed", "_law_pushed", "_law_pushed", s_law_pushed, [], []⟩,
  ⟨.g "_law_reduced", "_law_reduced", "_law_reduced", s_law_reduced, [], []⟩,
  ⟨.g "_law_deals", "_law_deals", "_law_deals", s_law_deals, [], []⟩,
  ⟨.g "_law_below", "_law_below", "_law_below", s_law_below, [], []⟩,
  ⟨.g "_law_bid_due", "_law_bid_due", "_law_bid_due", s_law_bid_due, [], []⟩,
  ⟨.g "_law_pair", "_law_pair", "_law_pair", s_law_pair, [], []⟩,
  ⟨.g "_law_no_more", "_law_no_more", "_law_no_more", s_law_no_more, [], []⟩,
  ⟨.g "_law_sum", "_law_sum", "_law_sum", s_law_sum, [], []⟩,
  ⟨.g "_law_value", "_law_value", "_law_value", s_law_value, [], []⟩,
  ⟨.g "_law_all_of", "_law_all_of", "_law_all_of", s_law_all_of, [], []⟩,
  ⟨.g "_law_any_bid", "_law_any_bid", "_law_any_bid", s_law_any_bid, [], []⟩,
  ⟨.g "_law_state_right", "_law_state_right", "_law_state_right", s_law_state_right, [], []⟩,
  ⟨.g "_law_wished", "_law_wished", "_law_wished", s_law_wished, [], []⟩,
  ⟨.g "_law_share", "_law_share", "_law_share", s_law_share, [], []⟩,
  ⟨.g "_law_fault", "_law_fault", "_law_fault", s_law_fault, [], []⟩,
  ⟨.g "_law_called", "_law_called", "_law_called", s_law_called, [], []⟩,
  ⟨.g "_law_opened", "_law_opened", "_law_opened", s_law_opened, [], []⟩,
  ⟨.g "_law_call_due", "_law_call_due", "_law_call_due", s_law_call_due, [], []⟩,
  ⟨.g "_law_bad_call", "_law_bad_call", "_law_bad_call", s_law_bad_call, [], []⟩,
  ⟨.g "_law_told_right", "_law_told_right", "_law_told_right", s_law_told_right, [], []⟩,
  ⟨.g "_law_round_right", "_law_round_right", "_law_round_right", s_law_round_right, [], []⟩,
  ⟨.g "_law_opening_right", "_law_opening_right", "_law_opening_right", s_law_opening_right, [], []⟩,
  ⟨.m "Ratio" "__init__", "__init__", "Ratio.__init__", s_Ratio_init, [.int 1], [("_bounded", .bl true)]⟩,
  ⟨.m "Scale" "__init__", "__init__", "Scale.__init__", s_Scale_init, [], []⟩,
  ⟨.c "Scale" "nothing", "nothing", "Scale.nothing", s_Scale_nothing, [], []⟩,
  ⟨.m "Scale" "__iter__", "__iter__", "Scale.__iter__", s_Scale_iter, [], []⟩,
  ⟨.m "Undoable" "__init__", "__init__", "Undoable.__init__", s_Undoable_init, [], []⟩,
  ⟨.g "law", "law", "law", s_law, [], []⟩]
abbrev lawI : Nat := 71
abbrev lawG : Nat := 100
def prL : List Str := ["deeds", "near", "far", "free", "purse", "result"]
def sxL : List (Pt × Str × DX) := [(.m "HandError" "__init__", "HandError", ⟨.m "HandError" "__init__", "__init__", "HandError.__init__", s_HandError_init, [], []⟩), (.m "BadHands" "__init__", "BadHands", ⟨.m "BadHands" "__init__", "__init__", "BadHands.__init__", s_BadHands_init, [], []⟩), (.m "Auction" "__init__", "Auction", ⟨.m "Auction" "__init__", "__init__", "Auction.__init__", s_Auction_init, [], []⟩)]
/-- all the checks but those of the defs, in parts -/
def chk1 (K : PySem.W.Frag) : Bool := faL.all fun f => f.ok K
def chk2 (P : Program) (K : PySem.W.Frag) : List (List Bool) := [mxB K, isiB K "Ratio", crB K "Ratio", crB K "Scale", cmB K "Scale" "nothing", suB K "Auction" "Undoable", itB K "Scale",
  xiB K "UnknownHand" "HandError" "hand", xiB K "TakenHand" "HandError" "hand", xiB K "BadHands" "BadHands" "hands",
  exqB K "UnknownHand" true false true false false false false, exqB K "TakenHand" true false false true false false false, exqB K "BadHands" false false false false false true false, exqB K "BadFraction" false false false false true false false, exqB K "Ended" false true false false false false false] ++ prL.map (prB K "Auction")
def chk3 (P : Program) (K : PySem.W.Frag) : Bool := (dfL.all fun x => okF K (x.pt.at K) x) && sxL.all fun s => okS P K (s.1.at K) (He.ga K s.2.1) s.2.2
def fns (K : PySem.W.Frag) : List FnT := dfL.map (fun x => obF K (x.pt.at K)) ++ sxL.map fun s => obF K (s.1.at K)
def fnsV : List FnT := dfL.map (fun x => x.val []) ++ sxL.map fun s => s.2.2.val ["__class__"]
/-- the head's word -/
structure Says (P : Program) (K : PySem.W.Frag) : Prop where
  c1 : chk1 K = true
  c2 : (chk2 P K).all (fun l => l.all id) = true
  c3 : chk3 P K = true
  fs : fns K = fnsV
theorem Says.fa {P : Program} {K : PySem.W.Frag} (c : Says P K) (i : Nat) {f : He.Fa} (e : faL[i]? = some f := by rfl) : f.ok K = true := List.all_eq_true.mp c.c1 f (List.mem_of_getElem? e)
theorem Says.bl {P : Program} {K : PySem.W.Frag} (c : Says P K) (i : Nat) {l : List Bool} (e : (chk2 P K)[i]? = some l := by rfl) : l.all id = true := List.all_eq_true.mp c.c2 l (List.mem_of_getElem? e)
theorem Says.df {P : Program} {K : PySem.W.Frag} (c : Says P K) (i : Nat) {x : DX} (e : dfL[i]? = some x := by rfl) : ∃ fd, FunD K x.name x.qual (defArgs x.st) (defBody x.st) (defScope x.st) x.dfl x.kwd (x.pt.at K) fd := by
  refine funD_of ?_ (List.all_eq_true.mp (Bool.and_eq_true_iff.mp c.c3).1 x (List.mem_of_getElem? e))
  have h := congrArg (fun l => l[i]?) c.fs
  have hi := (List.getElem?_eq_some_iff.mp e).1
  simp only [fns, fnsV] at h
  rw [List.getElem?_append_left (by rw [List.length_map]; exact hi), List.getElem?_append_left (by rw [List.length_map]; exact hi), List.getElem?_map, List.getElem?_map, e] at h
  exact Option.some.inj h
theorem Says.sx {P : Program} {K : PySem.W.Frag} (c : Says P K) (i : Nat) {s : Pt × Str × DX} (e : sxL[i]? = some s := by rfl) : ∃ fd, FunS P K s.2.2.name s.2.2.qual (defArgs s.2.2.st) (defBody s.2.2.st) (defScope s.2.2.st) (ccA K (s.1.at K)) (He.ga K s.2.1) (s.1.at K) (cdA K (s.1.at K)) fd := by
  refine funS_of ?_ (List.all_eq_true.mp (Bool.and_eq_true_iff.mp c.c3).2 s (List.mem_of_getElem? e))
  have h := congrArg (fun l => l[dfL.length + i]?) c.fs
  simp only [fns, fnsV] at h
  rw [List.getElem?_append_right (by rw [List.length_map]; omega), List.getElem?_append_right (by rw [List.length_map]; omega), List.length_map, List.length_map, Nat.add_sub_cancel_left, List.getElem?_map, List.getElem?_map, e] at h
  exact Option.some.inj h
theorem Says.pr {P : Program} {K : PySem.W.Frag} (c : Says P K) (i : Nat) {f : Str} (e : prL[i]? = some f := by rfl) : (prB K "Auction" f).all id = true := by
  refine List.all_eq_true.mp c.c2 _ ?_
  unfold chk2
  exact List.mem_append_right _ (List.mem_map.mpr ⟨f, List.mem_of_getElem? e, rfl⟩)
end DD
set_option Elab.async false
set_option linter.all false
set_option maxRecDepth 100000
set_option maxHeartbeats 4000000
/-! H1: Txt of the head's word. -/
namespace DD
open PySem PySem.Spec PyProof.Rows L2 PM
theorem txt_of {P : Program} {K : PySem.W.Frag} {h : Heap} {mg : Str → Option Value} (ts : (P.main.scope.names.lookup ("super" : Str)).isSome = false) (X : K.In h) (G : h.Ns mainGlobals mg) (c : Says P K) : Txt P K mg (AK K) where
  f_len := He.free_ok X G (x := "len") (c.fa 0)
  f_abs := He.free_ok X G (x := "abs") (c.fa 1)
  f_int := He.free_ok X G (x := "int") (c.fa 2)
  f_max := He.free_ok X G (x := "max") (c.fa 3)
  f_min := He.free_ok X G (x := "min") (c.fa 4)
  f_sum := He.free_ok X G (x := "sum") (c.fa 5)
  f_sorted := He.free_ok X G (x := "sorted") (c.fa 6)
  f_all := He.free_ok X G (x := "all") (c.fa 7)
  f_range := He.free_ok X G (x := "range") (c.fa 8)
  f_list := He.free_ok X G (x := "list") (c.fa 9)
  f_tuple := He.free_ok X G (x := "tuple") (c.fa 10)
  f_isinstance := He.free_ok X G (x := "isinstance") (c.fa 11)
  f_bool := He.free_ok X G (x := "bool") (c.fa 12)
  f_str := He.free_ok X G (x := "str") (c.fa 13)
  f_iter := He.free_ok X G (x := "iter") (c.fa 14)
  f_super := He.free_ok X G (x := "super") (c.fa 15)
  f_ValueError := He.free_ok X G (x := "ValueError") (c.fa 16)
  g_gcd := PySem.W.mg_of X G (He.eqO_ok (all_at (c.bl 0) 0))
  g_MOST_HANDS := He.int_ok X G (x := "MOST_HANDS") (i := 7) (c.fa 17)
  g_MOST_NUMBER := He.int_ok X G (x := "MOST_NUMBER") (i := 1000000000) (c.fa 18)
  g_MOST_PART := He.int_ok X G (x := "MOST_PART") (i := (10 ^ 60)) (c.fa 19)
  g_MOST_HIRED := He.int_ok X G (x := "MOST_HIRED") (i := 6) (c.fa 20)
  g_NEAR := He.str_ok X G (x := "NEAR") (z := "near") (c.fa 21)
  g_FAR := He.str_ok X G (x := "FAR") (z := "far") (c.fa 22)
  t_super := ts
  x_unk := ⟨He.glo_ok X G (x := "UnknownHand") (c.fa 106), xi_ok (c.bl 7), _, (c.sx 0).choose, _, _, He.eqO_ok (all_at (c.bl 7) 12), of_decide_eq_true (all_at (c.bl 7) 13), (c.sx 0).choose_spec⟩
  x_tak := ⟨He.glo_ok X G (x := "TakenHand") (c.fa 107), xi_ok (c.bl 8), _, (c.sx 0).choose, _, _, He.eqO_ok (all_at (c.bl 8) 12), of_decide_eq_true (all_at (c.bl 8) 13), (c.sx 0).choose_spec⟩
  x_bad := ⟨He.glo_ok X G (x := "BadHands") (c.fa 108), xi_ok (c.bl 9), _, (c.sx 1).choose, _, _, He.eqO_ok (all_at (c.bl 9) 12), of_decide_eq_true (all_at (c.bl 9) 13), (c.sx 1).choose_spec⟩
  x_frc := (let e := He.exc_ok (x := "BadFraction") (c.fa 104); ⟨He.glo_ok X G (x := "BadFraction") (c.fa 109), e.1, e.2.1, e.2.2.1, e.2.2.2⟩)
  x_fin := (let e := He.exc_ok (x := "Ended") (c.fa 105); ⟨He.glo_ok X G (x := "Ended") (c.fa 110), e.1, e.2.1, e.2.2.1, e.2.2.2⟩)
  q_unk := exq_ok (c.bl 10)
  q_tak := exq_ok (c.bl 11)
  q_bad := exq_ok (c.bl 12)
  q_frc := exq_ok (c.bl 13)
  q_fin := exq_ok (c.bl 14)
  c_who := He.glo_ok X G (x := "WhoseforkError") (c.fa 23)
  c_hnd := He.glo_ok X G (x := "HandError") (c.fa 24)
  c_non := He.glo_ok X G (x := "NoneFree") (c.fa 25)
  c_rat := He.glo_ok X G (x := "Ratio") (c.fa 26)
  c_scl := He.glo_ok X G (x := "Scale") (c.fa 27)
  c_auc := He.glo_ok X G (x := "Auction") (c.fa 28)
  i_rat := ⟨He.cls_ok (x := "Ratio") (c.fa 32), He.eqO_ok (all_at (c.bl 1) 0), He.eqO_ok (all_at (c.bl 1) 1), tB_ok (all_at (c.bl 1) 2), tB_ok (all_at (c.bl 1) 3)⟩
  k_rr := tB_ok (all_at (c.bl 0) 1)
  k_ir := fB_ok (all_at (c.bl 0) 2)
  n_rat_top := He.noat_ok (x := "Ratio") (f := "top") (c.fa 29)
  n_rat_bottom := He.noat_ok (x := "Ratio") (f := "bottom") (c.fa 30)
  sf_rat := all_at (c.bl 0) 3
  sub_ir := fB_ok (all_at (c.bl 0) 4)
  sub_ri := fB_ok (all_at (c.bl 0) 5)
  ia := Option.isSome_iff_exists.mp (all_at (c.bl 0) 6)
  ir := Option.isSome_iff_exists.mp (all_at (c.bl 0) 7)
  rr := ⟨_, He.eqO_ok (all_at (c.bl 0) 8)⟩
  cv_rat := cv_ok (c.bl 2) (all_at (c.bl 0) 9)
  mk_rat := ⟨_, (c.df 66).choose, He.mkr_ok (x := "Ratio") (c.fa 101), (c.df 66).choose_spec⟩
  m_rat_add := ⟨_, _, He.meth_ok (x := "Ratio") (m := "__add__") (c.fa 31), He.cls_ok (x := "Ratio") (c.fa 32), (c.df 0).choose_spec⟩
  m_rat_sub := ⟨_, _, He.meth_ok (x := "Ratio") (m := "__sub__") (c.fa 33), He.cls_ok (x := "Ratio") (c.fa 32), (c.df 1).choose_spec⟩
  m_rat_rsub := ⟨_, _, He.meth_ok (x := "Ratio") (m := "__rsub__") (c.fa 34), He.cls_ok (x := "Ratio") (c.fa 32), (c.df 2).choose_spec⟩
  m_rat_neg := ⟨_, _, He.meth_ok (x := "Ratio") (m := "__neg__") (c.fa 35), He.cls_ok (x := "Ratio") (c.fa 32), (c.df 3).choose_spec⟩
  m_rat_below := ⟨_, _, He.meth_ok (x := "Ratio") (m := "below") (c.fa 36), He.cls_ok (x := "Ratio") (c.fa 32), (c.df 4).choose_spec⟩
  i_scl := He.cls_ok (x := "Scale") (c.fa 37)
  n_scl_hands := He.noat_ok (x := "Scale") (f := "hands") (c.fa 38)
  n_scl_numbers := He.noat_ok (x := "Scale") (f := "_numbers") (c.fa 39)
  cv_scl := cv_ok (c.bl 3) (all_at (c.bl 0) 10)
  mk_scl := ⟨_, (c.df 67).choose, He.mkr_ok (x := "Scale") (c.fa 102), (c.df 67).choose_spec⟩
  cm_scl := ⟨_, _, _, (c.df 68).choose, (cm_ok (c.bl 3) (c.bl 4)).1, (cm_ok (c.bl 3) (c.bl 4)).2, (c.df 68).choose_spec⟩
  m_scl_get := ⟨_, _, He.meth_ok (x := "Scale") (m := "__getitem__") (c.fa 40), He.cls_ok (x := "Scale") (c.fa 37), (c.df 5).choose_spec⟩
  fi_scl_get := fun f _ _ h => by
    have e := (He.meth_ok (x := "Scale") (m := "__getitem__") (c.fa 40)).at_
    have h2 : some (some (Value.ref f)) = some (some (.ref (mA K "Scale" "__getitem__"))) := h.symm.trans e
    cases h2
    exact all_at (c.bl 0) 11
  it_scl := (let e := He.meth_ok (x := "Scale") (m := "__iter__") (c.fa 111); ⟨_, (c.df 69).choose, ⟨e.at_, e.fn, He.eqO_ok (all_at (c.bl 6) 0), He.eqO_ok (all_at (c.bl 6) 1)⟩, (c.df 69).choose_spec⟩)
  i_auc := He.cls_ok (x := "Auction") (c.fa 41)
  n_auc_state := He.noat_ok (x := "Auction") (f := "_state") (c.fa 42)
  n_auc_past := He.noat_ok (x := "Auction") (f := "_past") (c.fa 43)
  n_auc_future := He.noat_ok (x := "Auction") (f := "_future") (c.fa 44)
  n_auc_scale := He.noat_ok (x := "Auction") (f := "_scale") (c.fa 45)
  mk_auc := ⟨_, (c.sx 2).choose, _, _, He.mkr_ok (x := "Auction") (c.fa 103), (c.sx 2).choose_spec⟩
  su_auc := ⟨_, (c.df 70).choose, su_ok (c.bl 5), (c.df 70).choose_spec⟩
  m_auc_deed := ⟨_, _, He.meth_ok (x := "Auction") (m := "_deed") (c.fa 46), He.cls_ok (x := "Auction") (c.fa 41), (c.df 6).choose_spec⟩
  m_auc_bidding := ⟨_, _, He.meth_ok (x := "Auction") (m := "bidding") (c.fa 47), He.cls_ok (x := "Auction") (c.fa 41), (c.df 7).choose_spec⟩
  p_auc_deeds := ⟨_, _, _, prop_ok (C := "Auction") (f := "deeds") (c.pr 0), He.cls_ok (x := "Auction") (c.fa 41), (c.df 8).choose_spec⟩
  p_auc_near := ⟨_, _, _, prop_ok (C := "Auction") (f := "near") (c.pr 1), He.cls_ok (x := "Auction") (c.fa 41), (c.df 9).choose_spec⟩
  p_auc_far := ⟨_, _, _, prop_ok (C := "Auction") (f := "far") (c.pr 2), He.cls_ok (x := "Auction") (c.fa 41), (c.df 10).choose_spec⟩
  p_auc_free := ⟨_, _, _, prop_ok (C := "Auction") (f := "free") (c.pr 3), He.cls_ok (x := "Auction") (c.fa 41), (c.df 11).choose_spec⟩
  p_auc_purse := ⟨_, _, _, prop_ok (C := "Auction") (f := "purse") (c.pr 4), He.cls_ok (x := "Auction") (c.fa 41), (c.df 12).choose_spec⟩
  p_auc_result := ⟨_, _, _, prop_ok (C := "Auction") (f := "result") (c.pr 5), He.cls_ok (x := "Auction") (c.fa 41), (c.df 13).choose_spec⟩
  d_check_hands := ⟨_, _, He.glo_ok X G (x := "check_hands") (c.fa 48), (c.df 14).choose_spec⟩
  d_check_number := ⟨_, _, He.glo_ok X G (x := "check_number") (c.fa 49), (c.df 15).choose_spec⟩
  d_check_length := ⟨_, _, He.glo_ok X G (x := "check_length") (c.fa 50), (c.df 16).choose_spec⟩
  d_check_hand := ⟨_, _, He.glo_ok X G (x := "check_hand") (c.fa 51), (c.df 17).choose_spec⟩
  d_mask_of := ⟨_, _, He.glo_ok X G (x := "mask_of") (c.fa 52), (c.df 18).choose_spec⟩
  d_tuple_of := ⟨_, _, He.glo_ok X G (x := "tuple_of") (c.fa 53), (c.df 19).choose_spec⟩
  d_has_hand := ⟨_, _, He.glo_ok X G (x := "has_hand") (c.fa 54), (c.df 20).choose_spec⟩
  d_with_hand := ⟨_, _, He.glo_ok X G (x := "with_hand") (c.fa 55), (c.df 21).choose_spec⟩
  d_rest_mask := ⟨_, _, He.glo_ok X G (x := "rest_mask") (c.fa 56), (c.df 22).choose_spec⟩
  d_exact := ⟨_, _, He.glo_ok X G (x := "exact") (c.fa 57), (c.df 23).choose_spec⟩
  d_is_fraction := ⟨_, _, He.glo_ok X G (x := "is_fraction") (c.fa 58), (c.df 24).choose_spec⟩
  d_top_and_bottom := ⟨_, _, He.glo_ok X G (x := "top_and_bottom") (c.fa 59), (c.df 25).choose_spec⟩
  d_is_less := ⟨_, _, He.glo_ok X G (x := "is_less") (c.fa 60), (c.df 26).choose_spec⟩
  d_taken := ⟨_, _, He.glo_ok X G (x := "taken") (c.fa 61), (c.df 27).choose_spec⟩
  d_check_stand := ⟨_, _, He.glo_ok X G (x := "check_stand") (c.fa 62), (c.df 28).choose_spec⟩
  d_check_side := ⟨_, _, He.glo_ok X G (x := "check_side") (c.fa 63), (c.df 29).choose_spec⟩
  d_free_hands := ⟨_, _, He.glo_ok X G (x := "free_hands") (c.fa 64), (c.df 30).choose_spec⟩
  d_check_some_free := ⟨_, _, He.glo_ok X G (x := "check_some_free") (c.fa 65), (c.df 31).choose_spec⟩
  d_check_free_hand := ⟨_, _, He.glo_ok X G (x := "check_free_hand") (c.fa 66), (c.df 32).choose_spec⟩
  d_deals_of := ⟨_, _, He.glo_ok X G (x := "deals_of") (c.fa 67), (c.df 33).choose_spec⟩
  d_least_share := ⟨_, _, He.glo_ok X G (x := "least_share") (c.fa 68), (c.df 34).choose_spec⟩
  d_purse_lead := ⟨_, _, He.glo_ok X G (x := "purse_lead") (c.fa 69), (c.df 35).choose_spec⟩
  d_told_bid := ⟨_, _, He.glo_ok X G (x := "told_bid") (c.fa 70), (c.df 36).choose_spec⟩
  d_deal_numbers := ⟨_, _, He.glo_ok X G (x := "deal_numbers") (c.fa 71), (c.df 37).choose_spec⟩
  d_many_below := ⟨_, _, He.glo_ok X G (x := "many_below") (c.fa 72), (c.df 38).choose_spec⟩
  d_check_opposite := ⟨_, _, He.glo_ok X G (x := "check_opposite") (c.fa 73), (c.df 39).choose_spec⟩
  d_check_rising := ⟨_, _, He.glo_ok X G (x := "check_rising") (c.fa 74), (c.df 40).choose_spec⟩
  d_law_digit := ⟨_, _, He.glo_ok X G (x := "_law_digit") (c.fa 75), (c.df 41).choose_spec⟩
  d_law_same := ⟨_, _, He.glo_ok X G (x := "_law_same") (c.fa 76), (c.df 42).choose_spec⟩
  d_law_push := ⟨_, _, He.glo_ok X G (x := "_law_push") (c.fa 77), (c.df 43).choose_spec⟩
  d_law_pushed := ⟨_, _, He.glo_ok X G (x := "_law_pushed") (c.fa 78), (c.df 44).choose_spec⟩
  d_law_reduced := ⟨_, _, He.glo_ok X G (x := "_law_reduced") (c.fa 79), (c.df 45).choose_spec⟩
  d_law_deals := ⟨_, _, He.glo_ok X G (x := "_law_deals") (c.fa 80), (c.df 46).choose_spec⟩
  d_law_below := ⟨_, _, He.glo_ok X G (x := "_law_below") (c.fa 81), (c.df 47).choose_spec⟩
  d_law_bid_due := ⟨_, _, He.glo_ok X G (x := "_law_bid_due") (c.fa 82), (c.df 48).choose_spec⟩
  d_law_pair := ⟨_, _, He.glo_ok X G (x := "_law_pair") (c.fa 83), (c.df 49).choose_spec⟩
  d_law_no_more := ⟨_, _, He.glo_ok X G (x := "_law_no_more") (c.fa 84), (c.df 50).choose_spec⟩
  d_law_sum := ⟨_, _, He.glo_ok X G (x := "_law_sum") (c.fa 85), (c.df 51).choose_spec⟩
  d_law_value := ⟨_, _, He.glo_ok X G (x := "_law_value") (c.fa 86), (c.df 52).choose_spec⟩
  d_law_all_of := ⟨_, _, He.glo_ok X G (x := "_law_all_of") (c.fa 87), (c.df 53).choose_spec⟩
  d_law_any_bid := ⟨_, _, He.glo_ok X G (x := "_law_any_bid") (c.fa 88), (c.df 54).choose_spec⟩
  d_law_state_right := ⟨_, _, He.glo_ok X G (x := "_law_state_right") (c.fa 89), (c.df 55).choose_spec⟩
  d_law_wished := ⟨_, _, He.glo_ok X G (x := "_law_wished") (c.fa 90), (c.df 56).choose_spec⟩
  d_law_share := ⟨_, _, He.glo_ok X G (x := "_law_share") (c.fa 91), (c.df 57).choose_spec⟩
  d_law_fault := ⟨_, _, He.glo_ok X G (x := "_law_fault") (c.fa 92), (c.df 58).choose_spec⟩
  d_law_called := ⟨_, _, He.glo_ok X G (x := "_law_called") (c.fa 93), (c.df 59).choose_spec⟩
  d_law_opened := ⟨_, _, He.glo_ok X G (x := "_law_opened") (c.fa 94), (c.df 60).choose_spec⟩
  d_law_call_due := ⟨_, _, He.glo_ok X G (x := "_law_call_due") (c.fa 95), (c.df 61).choose_spec⟩
  d_law_bad_call := ⟨_, _, He.glo_ok X G (x := "_law_bad_call") (c.fa 96), (c.df 62).choose_spec⟩
  d_law_told_right := ⟨_, _, He.glo_ok X G (x := "_law_told_right") (c.fa 97), (c.df 63).choose_spec⟩
  d_law_round_right := ⟨_, _, He.glo_ok X G (x := "_law_round_right") (c.fa 98), (c.df 64).choose_spec⟩
  d_law_opening_right := ⟨_, _, He.glo_ok X G (x := "_law_opening_right") (c.fa 99), (c.df 65).choose_spec⟩
end DD
set_option Elab.async false
set_option linter.all false
set_option maxRecDepth 100000
set_option maxHeartbeats 0
/-! H2: the hook, the run's equation in parts. -/
namespace DD
open PySem PySem.Spec PyProof.Rows L2
def loose0 : List PySem.Str := ["gcd", "_wall", "__name__", "WhoseforkError", "HandError", "UnknownHand", "RepeatedHand", "TakenHand", "LotError", "NotOpposite", "NotRising", "Clash", "BadHands", "BadLength", "BadNumber", "BadSide", "BadFraction", "ZeroBottom", "HandsDiffer", "TooGreat", "NoneFree", "Ended", "MOST_HANDS", "MOST_NUMBER", "check_hands", "check_number", "check_length", "check_hand", "check_same_hands", "mask_of"]
def loose1 : List PySem.Str := ["tuple_of", "has_hand", "with_hand", "rest_mask", "MOST_PART", "Ratio", "exact", "is_fraction", "top_and_bottom", "is_less", "taken", "Undoable", "MOST_HIRED", "NEAR", "FAR", "check_stand", "check_side", "free_hands", "check_some_free", "check_free_hand", "Auction", "deals_of", "least_share", "purse_lead", "told_bid", "deal_numbers", "many_below", "Scale", "check_opposite", "check_rising"]
def loose2 : List PySem.Str := ["check_no_clash", "nearer", "farther", "scale_result", "_law_digit", "_law_same", "_law_push", "_law_pushed", "_law_reduced", "_law_deals", "_law_below", "_law_bid_due", "_law_pair", "_law_no_more", "_law_sum", "_law_value", "_law_all_of", "_law_any_bid", "_law_state_right", "_law_wished", "_law_share", "_law_fault", "_law_called", "_law_opened", "_law_call_due", "_law_bad_call", "_law_told_right", "_law_round_right", "_law_opening_right"]
def loose : List PySem.Str := loose0 ++ loose1 ++ loose2
abbrev RW : PySem.W.OpenRow := PySem.W.OpenLaw.row PySem.Challenge.rw_whosefork_k83_whole_purses_far
abbrev QV : Program := PySem.W.view RW.prog [98]
abbrev AlX : Type := Bool × Bool × Bool × List FnT
def kOf (g : Addr → Option Obj) : PySem.W.Frag := He.frG g (reach g)
def obX (K : PySem.W.Frag) : AlX := (chk1 K, (chk2 RW.prog K).all (fun l => l.all id), chk3 RW.prog K, fns K)
def hkX : PySem.W.Hook where
  α := AlX
  obs := fun s => obX (kOf s.heap.get?)
  val := fun _ => (true, true, true, fnsV)
  says := fun _ h => ∃ K : PySem.W.Frag, K.In h ∧ Says RW.prog K
  of := fun _ s e => ⟨_, He.frG_in, by
    simp only [obX, Prod.mk.injEq] at e
    exact ⟨e.1, e.2.1, e.2.2.1, e.2.2.2⟩⟩
  keeps := fun _ _ _ ⟨K, hK, c⟩ k => ⟨K, PySem.W.Frag.In.keeps hK k, c⟩
def obT (s : PySem.W.SharedT) : AlX := obX (kOf (HandSHeadRun.getT s))
theorem obT_eq (s : PySem.W.SharedT) : obT s = hkX.obs s.abs := by
  have e : HandSHeadRun.getT s = s.abs.heap.get? := funext (HandSHeadRun.getT_eq s)
  show obX (kOf (HandSHeadRun.getT s)) = obX (kOf s.abs.heap.get?)
  rw [e]
theorem map2 {α β γ : Type} {x : Option α} {f : α → β} {g : α → γ} {b : β} {c : γ} (h1 : x.map f = some b) (h2 : x.map g = some c) : x.map (fun s => (f s, g s)) = some (b, c) := by
  cases x with
  | none => cases h1
  | some a =>
    have e1 : f a = b := Option.some.inj h1
    have e2 : g a = c := Option.some.inj h2
    show some (f a, g a) = _
    rw [e1, e2]
noncomputable abbrev endS (w : World) : Option (Shared × PySem.W.SharedT) := HandSHeadRun.wholeF (fun p => HandSHeadRun.stepQ (HandSHeadRun.denQ HandSHeadRun.tabQ) p w) HandSHeadRun.fenceQ 10000 RW.prog
end DD
set_option Elab.async false
set_option linter.all false
set_option maxRecDepth 100000
set_option maxHeartbeats 0
namespace DD
open PySem PySem.Spec PyProof.Rows L2
theorem run_a (w : World) : (endS w).map (fun x => HandSHeadRun.looksF RW.prog x.1.heap x.2.abs) = some true := by kernel_rfl
end DD
set_option Elab.async false
set_option linter.all false
set_option maxRecDepth 100000
set_option maxHeartbeats 0
namespace DD
open PySem PySem.Spec PyProof.Rows L2
theorem run_b (w : World) : (endS w).map (fun x => HandSHeadRun.seenQ QV loose (importedModules RW.prog.main.body) (fun s => PySem.W.xlAt QV [] s && PySem.W.recOk RW.toRowW.records s) x.2.abs) = some (PySem.W.openGood QV loose) := by kernel_rfl
end DD
set_option Elab.async false
set_option linter.all false
set_option maxRecDepth 100000
set_option maxHeartbeats 0
namespace DD
open PySem PySem.Spec PyProof.Rows L2
theorem run_c (w : World) : (endS w).map (fun x => chk1 (kOf (HandSHeadRun.getT x.2))) = some true := by kernel_rfl
end DD
set_option Elab.async false
set_option linter.all false
set_option maxRecDepth 100000
set_option maxHeartbeats 0
namespace DD
open PySem PySem.Spec PyProof.Rows L2
theorem run_d (w : World) : (endS w).map (fun x => (chk2 RW.prog (kOf (HandSHeadRun.getT x.2))).all (fun l => l.all id)) = some true := by kernel_rfl
end DD
set_option Elab.async false
set_option linter.all false
set_option maxRecDepth 100000
set_option maxHeartbeats 0
namespace DD
open PySem PySem.Spec PyProof.Rows L2
def chk3a (K : PySem.W.Frag) : Bool := (dfL.take 36).all fun d => okF K (d.pt.at K) d
def chk3b (P : Program) (K : PySem.W.Frag) : Bool := ((dfL.drop 36).all fun d => okF K (d.pt.at K) d) && sxL.all fun s => okS P K (s.1.at K) (He.ga K s.2.1) s.2.2
theorem chk3_of (P : Program) (K : PySem.W.Frag) (h1 : chk3a K = true) (h2 : chk3b P K = true) : chk3 P K = true := by
  obtain ⟨h3, h4⟩ := Bool.and_eq_true_iff.mp h2
  refine Bool.and_eq_true_iff.mpr ⟨?_, h4⟩
  rw [← List.take_append_drop 36 dfL, List.all_append]
  exact Bool.and_eq_true_iff.mpr ⟨h1, h3⟩
theorem map_of {α : Type} {x : Option α} {f g k : α → Bool} (h1 : x.map f = some true) (h2 : x.map g = some true) (h : ∀ a, f a = true → g a = true → k a = true) : x.map k = some true := by
  cases x with
  | none => cases h1
  | some a => exact congrArg some (h a (Option.some.inj h1) (Option.some.inj h2))
theorem run_e1 (w : World) : (endS w).map (fun x => chk3a (kOf (HandSHeadRun.getT x.2))) = some true := by kernel_rfl
end DD
set_option Elab.async false
set_option linter.all false
set_option maxRecDepth 100000
set_option maxHeartbeats 0
namespace DD
open PySem PySem.Spec PyProof.Rows L2
theorem run_e2 (w : World) : (endS w).map (fun x => chk3b RW.prog (kOf (HandSHeadRun.getT x.2))) = some true := by kernel_rfl
theorem run_e (w : World) : (endS w).map (fun x => chk3 RW.prog (kOf (HandSHeadRun.getT x.2))) = some true := map_of (run_e1 w) (run_e2 w) fun x => chk3_of RW.prog _
end DD
set_option Elab.async false
set_option linter.all false
set_option maxRecDepth 100000
set_option maxHeartbeats 0
namespace DD
open PySem PySem.Spec PyProof.Rows L2
theorem run_f (w : World) : (endS w).map (fun x => fns (kOf (HandSHeadRun.getT x.2))) = some fnsV := by kernel_rfl
end DD
set_option Elab.async false
set_option linter.all false
set_option maxRecDepth 100000
set_option maxHeartbeats 4000000
/-! E2: lots, ratios. -/
namespace DD
open PySem PySem.Spec PyProof.Rows L2 PM
section
variable {Γ : Ctx} {e a b c o : Expr} {st : Stmt} {sts : List Stmt} {ρ : Rho} {μ : Mu} {Q : D → Mu → Prop} {E : DE} {pos : Pos} {k j : Nat} {f : Str} {S : SpD} {C : Addr}
theorem S1.imp {E' : DE} (h : S1 Γ st ρ μ E) (h1 : ∀ x y, E.nx x y → E'.nx x y) (h2 : ∀ x y, E.rt x y → E'.rt x y) (h3 : ∀ x y, E.bk x y → E'.bk x y) (h4 : ∀ x y, E.ct x y → E'.ct x y) : S1 Γ st ρ μ E' := fun σ H F a k =>
  h σ H F a ⟨fun x y s t q => k.nx x y s t (h1 x y q), fun v d y t q => k.rt v d y t (h2 d y q), fun x y s t q => k.bk x y s t (h3 x y q), fun x y s t q => k.ct x y s t (h4 x y q)⟩
/-- a statement whose ways join -/
theorem sd_join (J : Rho → Mu → Prop) (h1 : S1 Γ st ρ μ { E with nx := J }) (h2 : ∀ ρ' μ', J ρ' μ' → SD Γ sts ρ' μ' E) : SD Γ (st :: sts) ρ μ E :=
  sd_cons (h1.imp h2 (fun _ _ h => h) (fun _ _ h => h) (fun _ _ h => h))
abbrev Here (ρ : Rho) (μ : Mu) : Rho → Mu → Prop := fun ρ' μ' => ρ' = ρ ∧ μ' = μ
/-- a statement that may only go on, or leave -/
theorem sd_stay (h1 : S1 Γ st ρ μ { E with nx := Here ρ μ }) (h2 : SD Γ sts ρ μ E) : SD Γ (st :: sts) ρ μ E := sd_join _ h1 fun ρ' μ' ⟨e1, e2⟩ => by subst e1 e2; exact h2
theorem if_t {c : Bool} {A B : Prop} (h : c = true) (a : A) : if c = true then A else B := by rw [if_pos h]; exact a
theorem if_f {c : Bool} {A B : Prop} (h : c = false) (b : B) : if c = true then A else B := by rw [h, if_neg Bool.false_ne_true]; exact b
theorem if_b {c : Bool} {A B : Prop} (h1 : c = true → A) (h2 : c = false → B) : if c = true then A else B := by cases c with
  | true => exact if_t rfl (h1 rfl)
  | false => exact if_f rfl (h2 rfl)
theorem passF {X : Cx} : Passes (L2.CX X.prog X.w) X (fun _ _ _ => False) := fun _ _ _ _ _ _ _ c => by
  obtain ⟨a, B, H', cls, d, rfl, fl, hok, ub, na, os, ag, hE⟩ := c
  exact hE.elim
/-- o.f, a property that raises nothing -/
theorem ed_prop0 (F : Pd Γ.X.prog Γ.X.w Γ.X.K Γ.X.mg Γ.X.base k C f S) (ok : Γ.Ok j) (ha : ED Γ o ρ μ fun d μ1 => ∃ ns fs, insOf μ1 d = some (C, ns, fs) ∧ S [d] μ1 Q X0) (hk : k + 1 ≤ j := by decide)
    (hb : attributeBase o f Γ.X.env (eval o Γ.X.env) = eval o Γ.X.env := by rfl) : ED Γ (.Attribute o f pos) ρ μ Q := by
  obtain ⟨p, g, fd, ps, h1, h2, h3, h4⟩ := F.ex
  refine ed_of (pe_prop (E := fun _ _ _ => False) pe_w h2 h1 h4 (ok.room.mono hk) h3 .nil passF hb) fun σ H Qv z kk => one ha z fun d u μ1 H1 ⟨ns, fs, hi, q⟩ i r e => ?_
  obtain ⟨a, dx, vs, e1, e2, _, _⟩ := ins_at r i hi
  refine ⟨a, dx, _, e1, e2, ?_⟩
  rw [← e1]
  exact ⟨[d], μ1, Q, X0, .cons i .nil, r, q, kk.up e, fun _ _ _ _ _ _ _ h => h.elim⟩
end
def Sm (x : Int) : Prop := x.natAbs < 2 ^ 1000
theorem Sm.mul {x y : Int} (h : Sm x) (k : Sm y) : CMulW x y := wide_mul (a := 1000) (b := 1000) h k (by omega) (by omega) (by omega)
theorem sm_of {x : Int} (h : -(10 ^ 200) ≤ x ∧ x ≤ 10 ^ 200) : Sm x := by
  unfold Sm
  have e : (10 : Nat) ^ 200 < 2 ^ 1000 := by decide +kernel
  have : x.natAbs ≤ 10 ^ 200 := by
    have h1 := h.1
    have h2 := h.2
    have : ((10 ^ 200 : Nat) : Int) = (10 : Int) ^ 200 := Int.natCast_pow 10 200
    generalize (10 : Int) ^ 200 = z at *
    generalize (10 : Nat) ^ 200 = n at *
    omega
  exact Nat.lt_of_le_of_lt this e
theorem div_ok {x y : Int} (h : 0 < y) (k : y.natAbs < 2 ^ 8000) : CDivW x y := ⟨h, by
  have hy : y.natAbs ≠ 0 := by omega
  have := (Nat.log2_lt hy).mpr k
  omega⟩
section
variable {P : Program} {w : World} {K : PySem.W.Frag} {mg : Str → Option Value} {base : Heap} {A : Ad}
/-! ### the exceptions' __init__ -/
structure XiD (P : Program) (w : World) (K : PySem.W.Frag) (mg : Str → Option Value) (base : Heap) (x fld : Str) (C : Addr) : Prop where
  g : mg x = some (.ref C)
  ox : OexC K C
  ex : ∃ f fd ps, PySem.W.findIn K (.ref C) "__init__" = some (some (.ref f)) ∧ PySem.W.typeIn K (.ref f) = some (.type "function") ∧ Binds K fd ps [] ∧ FnOk P w K mg base (L2.CX P w) 1 f fd ps (spXI C fld)
theorem xi_hand (T : Txt P K mg A) {x : Str} {C : Addr} (X : ExX P K mg x "hand" C A.hnd "HandError.__init__" s_HandError_init) : XiD P w K mg base x "hand" C := by
  obtain ⟨f, fd, cc, cda, h1, h2, F⟩ := X.ex
  refine ⟨X.g, X.xi.ox, f, fd, p_HandError_init, h1, h2, ?_, fn_xi (m := "hand") F sc_HandError_init X.xi rfl rfl rfl T.f_super T.t_super rfl rfl (fun L => ⟨_, rfl⟩) (fun _ => rfl) (fun _ => rfl) (fun _ => rfl) (by decide) (by decide)⟩
  obtain ⟨oc, od, kV, doc, pm, an, ct, osl, rfl, lk⟩ := F.ex
  exact Binds.all (bd_HandError_init kV doc pm an _ ct cc)
theorem xi_bad (T : Txt P K mg A) : XiD P w K mg base "BadHands" "hands" A.bad := by
  have X := T.x_bad
  obtain ⟨f, fd, cc, cda, h1, h2, F⟩ := X.ex
  refine ⟨X.g, X.xi.ox, f, fd, p_BadHands_init, h1, h2, ?_, fn_xi (m := "hands") F sc_BadHands_init X.xi rfl rfl rfl T.f_super T.t_super rfl rfl (fun L => ⟨_, rfl⟩) (fun _ => rfl) (fun _ => rfl) (fun _ => rfl) (by decide) (by decide)⟩
  obtain ⟨oc, od, kV, doc, pm, an, ct, osl, rfl, lk⟩ := F.ex
  exact Binds.all (bd_BadHands_init kV doc pm an _ ct cc)
theorem s1_raiseD {Γ : Ctx} {e : Expr} {ρ : Rho} {μ : Mu} {E : DE} {p pos pos2 : Pos} {j : Nat} {x fld : Str} {C : Addr} (X : XiD Γ.X.prog Γ.X.w Γ.X.K Γ.X.mg Γ.X.base x fld C) (ok : Γ.Ok j) (tk : Takes Γ.X fun cls d _ H => Γ.ek cls d H) (ha : ED Γ e ρ μ fun d μ1 => Γ.ξ C [fld] [d] μ1) (hk : 2 ≤ j := by decide)
    (hg : Gl Γ.X x := by rfl) (hdb : (x == ("__debug__" : Str)) = false := by decide) (he : starEach [e] Γ.X.env = (false, eval e Γ.X.env) :: starEach [] Γ.X.env := by rfl) : S1 Γ (.Raise (some (.Call (.Name x p) [e] [] pos)) none pos2) ρ μ E := by
  obtain ⟨f, fd, ps, h1, h2, h3, h4⟩ := X.ex
  exact s1_raiseX ok tk X.ox h1 h2 h4 hk h3 passF X.g ha hg hdb he
theorem s1_raiseE {Γ : Ctx} {ρ : Rho} {μ : Mu} {E : DE} {p p2 pos pos2 : Pos} {j jj : Nat} {x m : Str} {C : Addr} {A : Ad} (X : ExT Γ.X.K Γ.X.mg A x C) (ok : Γ.Ok j) (tk : Takes Γ.X fun cls d _ H => Γ.ek cls d H) (hξ : Γ.ξ C [] [] μ)
    (hg : Gl Γ.X x := by rfl) (hdb : (x == ("__debug__" : Str)) = false := by decide) : S1 Γ (.Raise (some (.Call (.Name x p) [.Constant (.str m) jj p2] [] pos)) none pos2) ρ μ E :=
  s1_raiseT ok tk X.q X.g X.kp X.b X.t hξ hg hdb
/-! ### lots -/
def S_check_hands (A : Ad) : SpD := fun ds μ Q ξ => ∃ h m : Int, ds = [.int h, .int m] ∧ (1 ≤ h ∧ h ≤ m → Q .non μ) ∧ (¬ (1 ≤ h ∧ h ≤ m) → ξ A.bad ["hands"] [.int h] μ)
theorem fd_check_hands (T : Txt P K mg A) : Fd P w K mg base 3 "check_hands" (S_check_hands A) := T.d_check_hands.fd (ps := p_check_hands) bd_check_hands fun f fd F => fn_dx F sc_check_hands (fun ds μ Q ξ ⟨m, h, hd, _⟩ => by subst hd; rfl) fun cdv B outer s H E G0 ξ ok tk hs ds μ Q ⟨h, m, hd, q1, q2⟩ => by
  subst hd
  refine sd_one (s1_if (td_not (td_chain op_le op_le (ed_int (ed_var 0 rfl ⟨_, _, rfl, rfl, if_b (fun e => ed_var 1 rfl ⟨_, rfl, ?_⟩) fun e => ?_⟩)))))
  · have e := of_decide_eq_true e
    by_cases e2 : h ≤ m
    · rw [decide_eq_true e2]; exact sd_nil (q1 ⟨e, e2⟩)
    · rw [decide_eq_false e2]; exact sd_one (s1_raiseD (xi_bad T) ok tk (ed_var 0 rfl (q2 fun z => e2 z.2)))
  · have e := of_decide_eq_false e
    exact sd_one (s1_raiseD (xi_bad T) ok tk (ed_var 0 rfl (q2 fun z => e z.1)))
def S_check_num : SpD := fun ds μ Q _ => ∃ n lo hi : Int, ds = [.int n, .int lo, .int hi] ∧ lo ≤ n ∧ n ≤ hi ∧ Q .non μ
theorem fd_check_number (T : Txt P K mg A) : Fd P w K mg base 1 "check_number" S_check_num := T.d_check_number.fd (ps := p_check_number) bd_check_number fun f fd F => fn_d F sc_check_number (fun ds μ Q ξ ⟨m, h, hi, hd, _⟩ => by subst hd; rfl) fun cdv B outer s H E G0 ξ ok ds μ Q ⟨n, lo, hi, hd, h1, h2, q⟩ => by
  subst hd
  refine sd_one (s1_if (td_not (td_chain op_le op_le (ed_var 1 rfl (ed_var 0 rfl ⟨_, _, rfl, rfl, if_t (decide_eq_true h1) (ed_var 2 rfl ⟨_, rfl, ?_⟩)⟩)))))
  rw [decide_eq_true h2]; exact sd_nil q
theorem fd_check_length (T : Txt P K mg A) : Fd P w K mg base 1 "check_length" S_check_num := T.d_check_length.fd (ps := p_check_length) bd_check_length fun f fd F => fn_d F sc_check_length (fun ds μ Q ξ ⟨m, h, hi, hd, _⟩ => by subst hd; rfl) fun cdv B outer s H E G0 ξ ok ds μ Q ⟨n, lo, hi, hd, h1, h2, q⟩ => by
  subst hd
  refine sd_one (s1_if (td_not (td_chain op_le op_le (ed_var 1 rfl (ed_var 0 rfl ⟨_, _, rfl, rfl, if_t (decide_eq_true h1) (ed_var 2 rfl ⟨_, rfl, ?_⟩)⟩)))))
  rw [decide_eq_true h2]; exact sd_nil q
def S_check_hand (A : Ad) : SpD := fun ds μ Q ξ => ∃ h g : Int, ds = [.int h, .int g] ∧ (0 ≤ g ∧ g < h → Q .non μ) ∧ (¬ (0 ≤ g ∧ g < h) → ξ A.unk ["hand"] [.int g] μ)
theorem fd_check_hand (T : Txt P K mg A) : Fd P w K mg base 3 "check_hand" (S_check_hand A) := T.d_check_hand.fd (ps := p_check_hand) bd_check_hand fun f fd F => fn_dx F sc_check_hand (fun ds μ Q ξ ⟨m, h, hd, _⟩ => by subst hd; rfl) fun cdv B outer s H E G0 ξ ok tk hs ds μ Q ⟨h, g, hd, q1, q2⟩ => by
  subst hd
  refine sd_one (s1_if (td_not (td_chain op_le op_lt (ed_int (ed_var 1 rfl ⟨_, _, rfl, rfl, if_b (fun e => ed_var 0 rfl ⟨_, rfl, ?_⟩) fun e => ?_⟩)))))
  · have e := of_decide_eq_true e
    by_cases e2 : g < h
    · rw [decide_eq_true e2]; exact sd_nil (q1 ⟨e, e2⟩)
    · rw [decide_eq_false e2]; exact sd_one (s1_raiseD (xi_hand T T.x_unk) ok tk (ed_var 1 rfl (q2 fun z => e2 z.2)))
  · have e := of_decide_eq_false e
    exact sd_one (s1_raiseD (xi_hand T T.x_unk) ok tk (ed_var 1 rfl (q2 fun z => e z.1)))
def S_rest_mask : SpD := fun ds μ Q _ => ∃ (h : Nat) (m : Int), ds = [.int h, .int m] ∧ h ≤ 1000 ∧ Q (.int (((2 ^ h : Nat) : Int) - 1 - m)) μ
theorem shl1 (h : Nat) : (1 : Int) * 2 ^ (h : Int).toNat = ((2 ^ h : Nat) : Int) := by rw [Int.toNat_natCast, Int.one_mul]; push_cast; rfl
theorem fd_rest_mask (T : Txt P K mg A) : Fd P w K mg base 1 "rest_mask" S_rest_mask := T.d_rest_mask.fd (ps := p_rest_mask) bd_rest_mask fun f fd F => fn_d F sc_rest_mask (fun ds μ Q ξ ⟨m, h, hd, _⟩ => by subst hd; rfl) fun cdv B outer s H E G0 ξ ok ds μ Q ⟨h, m, hd, h7, q⟩ => by
  subst hd
  refine sd_one (s1_ret (ed_sub (ed_sub (ed_shl (ed_int (ed_var 0 rfl ⟨_, _, rfl, rfl, ⟨by omega, by omega, by decide⟩, ed_int ⟨_, _, rfl, rfl, ed_var 1 rfl ⟨_, _, rfl, rfl, ?_⟩⟩⟩))))))
  rw [shl1]
  exact q
/-- tuple_of a mask of sorted hands -/
def S_tuple_of : SpD := fun ds μ Q _ => ∃ l : List Nat, ds = [.int (bs l)] ∧ l.Pairwise (· < ·) ∧ (∀ i ∈ l, i < 7) ∧ Q (tI (zI l)) μ
theorem bits_lt {m i : Nat} (h : 2 ^ i ≤ m) : i < Builtin.Int.intBits m := by
  have h0 : 0 < m := Nat.lt_of_lt_of_le (Nat.two_pow_pos i) h
  unfold Builtin.Int.intBits
  have : ((m : Int) == 0) = false := by simp; omega
  rw [this]
  have := (Nat.le_log2 (by omega)).mpr h
  simp
  omega
theorem fd_tuple_of (T : Txt P K mg A) : Fd P w K mg base 2 "tuple_of" S_tuple_of := T.d_tuple_of.fd (ps := p_tuple_of) bd_tuple_of fun f fd F => fn_d F sc_tuple_of (fun ds μ Q ξ ⟨l, hd, _⟩ => by subst hd; rfl) fun cdv B outer s H E G0 ξ ok ds μ Q ⟨l, hd, h1, h7, q⟩ => by
  subst hd
  have hb := bs_lt (h1.imp fun h => Nat.ne_of_lt h) h7
  have hbit : Builtin.Int.intBits (bs l) ≤ 7 := by
    unfold Builtin.Int.intBits
    split
    · omega
    · have : (bs l) ≠ 0 := fun z => by simp_all
      have := (Nat.log2_lt this).mpr (show bs l < 2 ^ 7 by omega)
      simp
      omega
  refine sd_one (s1_ret (ed_tuple T.f_tuple (ed_lcR 1 (fun i => Nat.testBit (bs l) i) (fun i : Nat => .int i) ok T.f_range (ad_cons (ed_bits (ed_var 0 rfl ⟨_, rfl, ad_nil ?_⟩))) rfl fun _ _ _ _ _ => pg_name (i := 1) ok.nd rfl (Or.inl rfl))))
  refine ⟨_, rfl, by omega, fun i hi => fun s H C cl fp μ' hu => ⟨?_, fun _ => ed_var 1 rfl ⟨rfl, rfl⟩⟩, ?_⟩
  · exact td_val (ed_call (fd_has_hand T) ok.blk (ad_cons (ed_var 0 rfl (ad_cons (ed_var 1 rfl (ad_nil ⟨_, _, rfl, _, rfl, rfl, rfl⟩))))))
  · refine ⟨_, rfl, ?_⟩
    have e := bits_of h1 h7 (n := Builtin.Int.intBits (bs l)) fun i hi => bits_lt (bs_le hi)
    rw [e]
    show Q (.tup (l.map fun i : Nat => .int i)) μ
    have : (l.map fun i : Nat => D.int (i : Int)) = (zI l).map D.int := by unfold zI; rw [List.map_map]; rfl
    rw [this]
    exact q
end
end DD
set_option Elab.async false
set_option linter.all false
set_option maxRecDepth 100000
set_option maxHeartbeats 4000000
/-! E3: masks of lots; ratios. -/
namespace DD
open PySem PySem.Spec PyProof.Rows L2 PM
section
variable {P : Program} {w : World} {K : PySem.W.Frag} {mg : Str → Option Value} {base : Heap} {A : Ad}
/-- for x in y, y a name that holds a tuple or a list -/
theorem s1_forQ {Γ : Ctx} {ρ : Rho} {μ : Mu} {E : DE} {body : List Stmt} {x y : Str} {k : Nat} {d : D} {ds : List D} {pos py pn : Pos} (v i : Nat) (I : Nat → Rho → Mu → Prop) (ok : Γ.Ok k) (hρ : ρ[v]? = some (some d)) (hs : d = .tup ds ∨ d = .lst ds) (h0 : I 0 ρ μ)
    (turn : ∀ (j : Nat) d ρ' μ', ds[j]? = some d → I j ρ' μ' → SD Γ body (ρ'.set i (some d)) μ' { E with nx := I (j + 1), ct := I (j + 1), bk := E.nx }) (done : ∀ ρ' μ', I ds.length ρ' μ' → E.nx ρ' μ')
    (hN : Γ.X.N[v]? = some y := by rfl) (hv : Vis Γ.X.env.scope y := by first | exact Or.inl rfl | exact Or.inr (Or.inl rfl) | exact Or.inr (Or.inr rfl)) (hdb : (y == ("__debug__" : Str)) = false := by decide) (hcd : (y == ("__classdict__" : Str)) = false := by decide)
    (hi : Γ.X.N[i]? = some x := by rfl) (hx : Loc Γ.X.env.scope x := by first | exact Or.inl rfl | exact Or.inr rfl) (hf : Γ.X.fn x = true ∨ Γ.X.env.scope.names.lookup x = some .local := by exact .inl rfl)
    (hs2 : ∀ z, foldedSetIterable (.Name y py) Γ.X.env z = pure z := by intro _; rfl) : S1 Γ (.For (.Name x pn) (.Name y py) body [] pos) ρ μ E := by
  rcases hs with hs | hs
  · subst hs; exact s1_forT i I ok (ed_var v hρ ⟨ds, rfl, h0, turn, done⟩ hN hv hdb hcd) hi hx hf hs2
  · subst hs; exact s1_forL i I ok (ed_var v hρ ⟨ds, rfl, h0, turn, done⟩ hN hv hdb hcd) hi hx hf hs2
theorem zI_get {l : List Nat} {j : Nat} {d : D} (h : ((zI l).map D.int)[j]? = some d) : ∃ i : Nat, l[j]? = some i ∧ d = .int i := by
  rw [List.getElem?_map] at h
  obtain ⟨n, h1, h2⟩ := Option.map_eq_some_iff.mp h
  unfold zI at h1
  rw [List.getElem?_map] at h1
  obtain ⟨i, h3, h4⟩ := Option.map_eq_some_iff.mp h1
  exact ⟨i, h3, by rw [← h2, ← h4]⟩
theorem zI_len {l : List Nat} : ((zI l).map D.int).length = l.length := by simp [zI]
def SeqI (d : D) (ns : List Int) : Prop := d = tI ns ∨ d = lI ns
def S_mask_of : SpD := fun ds μ Q _ => ∃ (h : Nat) (d : D) (l : List Nat), ds = [.int h, d] ∧ SeqI d (zI l) ∧ l.Nodup ∧ (∀ i ∈ l, i < h) ∧ h ≤ 7 ∧ Q (.int (bs l)) μ
theorem bs_step {l : List Nat} {h j i : Nat} (nd : l.Nodup) (hl : ∀ i ∈ l, i < h) (h7 : h ≤ 7) (hj : l[j]? = some i) : Nat.testBit (bs (l.take j)) i = false ∧ bs (l.take j) ||| 2 ^ i = bs (l.take (j + 1)) := by
  have e : l.take (j + 1) = l.take j ++ [i] := by rw [List.take_succ, hj]; rfl
  have sub : ∀ x ∈ l.take j, x < 7 := fun x hx => Nat.lt_of_lt_of_le (hl x (List.mem_of_mem_take hx)) h7
  have ndj : (l.take (j + 1)).Nodup := nd.sublist (List.take_sublist _ _)
  rw [e] at ndj
  have hn : i ∉ l.take j := fun z => (List.nodup_append.mp ndj).2.2 i z i (by simp) rfl
  have ndt : (l.take j).Nodup := nd.sublist (List.take_sublist _ _)
  have hb : Nat.testBit (bs (l.take j)) i = false := by rw [bs_bit ndt sub]; exact decide_eq_false hn
  refine ⟨hb, ?_⟩
  rw [e, bs_append, ← bit_in _ (bs_lt ndt sub) i (Nat.lt_of_lt_of_le (hl i (List.mem_of_getElem? hj)) h7) hb]
  simp [bs]
theorem fd_mask_of (T : Txt P K mg A) : Fd P w K mg base 4 "mask_of" S_mask_of := T.d_mask_of.fd (ps := p_mask_of) bd_mask_of fun f fd F => fn_d F sc_mask_of (fun ds μ Q ξ ⟨h, d, l, hd, _⟩ => by subst hd; rfl) fun cdv B outer s H E G0 ξ ok ds μ Q ⟨h, d, l, hd, hs, nd, hl, h7, q⟩ => by
  subst hd
  refine sd_cons (s1_set 2 (ed_int ?_) ok.nd)
  refine sd_cons (s1_forQ 1 3 (fun j ρ' μ' => ∃ x3, ρ' = [some (.int h), some d, some (.int (bs (l.take j))), x3] ∧ μ' = μ) ok rfl hs ⟨_, rfl, rfl⟩ (fun j d' ρ' μ' hj ⟨x3, hρ, hμ⟩ => ?_) fun ρ' μ' ⟨x3, hρ, hμ⟩ => ?_)
  · obtain ⟨i, hi, hd'⟩ := zI_get hj
    subst hρ hμ hd'
    have hil := hl i (List.mem_of_getElem? hi)
    obtain ⟨b1, b2⟩ := bs_step nd hl h7 hi
    refine sd_cons (s1_expr (ed_call (fd_check_hand T) ok (ad_cons (ed_var 0 rfl (ad_cons (ed_var 3 rfl (ad_nil ⟨h, i, rfl, fun _ => ?_, fun z => absurd ⟨by omega, by omega⟩ z⟩)))))))
    refine sd_cons (s1_if (td_val (ed_call (fd_has_hand T) ok (ad_cons (ed_var 2 rfl (ad_cons (ed_var 3 rfl (ad_nil ⟨_, i, rfl, _, rfl, if_f b1 (sd_nil ?_)⟩))))))))
    refine sd_one (s1_set 2 (ed_call (fd_with_hand T) ok (ad_cons (ed_var 2 rfl (ad_cons (ed_var 3 rfl (ad_nil ⟨_, i, rfl, by omega, ?_⟩)))))) ok.nd)
    exact ⟨_, by rw [b2]; rfl, rfl⟩
  · subst hρ hμ
    rw [zI_len, List.take_length]
    exact sd_one (s1_ret (ed_var 2 rfl q))
/-! ### ratios -/
abbrev nRat : List Str := ["top", "bottom"]
abbrev rat (A : Ad) (t b : Int) : D := .obj A.rat nRat [.int t, .int b]
/-- a fraction: an int, a ratio -/
def isF (A : Ad) (d : D) (t b : Int) : Prop := (d = .int t ∧ b = 1) ∨ d = rat A t b
def S_ratio (A : Ad) : SpD := fun ds μ Q _ => ∃ (q : Addr) (t b : Int) (c : Bool) (dx : Addr), ds = [.ptr q, .int t, .int b, .bl c] ∧ μ q = some (.ins A.rat dx [] []) ∧ 0 < b ∧ b.natAbs < 2 ^ 8000 ∧ (c = true → -(10 ^ 60) ≤ t ∧ t ≤ 10 ^ 60 ∧ b ≤ 10 ^ 60) ∧
  Q .non (mset μ q (.ins A.rat dx nRat [.int (rt t b), .int (rb t b)]))
theorem fn_ratio (T : Txt P K mg A) {f : Addr} {fd : FuncData} (F : FunD K "__init__" "Ratio.__init__" (defArgs s_Ratio_init) (defBody s_Ratio_init) (defScope s_Ratio_init) [.int 1] [("_bounded", .bl true)] f fd) :
    FnOk P w K mg base (L2.CX P w) 2 f fd p_Ratio_init (spD (S_ratio A)) := fn_d F sc_Ratio_init (fun ds μ Q ξ ⟨_, _, _, _, _, hd, _⟩ => by subst hd; rfl) fun cdv B outer s H E G0 ξ ok ds μ Q ⟨qa, t, b, c, dx, hd, hμ, hb, hb2, hc, q⟩ => by
  subst hd
  have p60 : ∀ (x : Int), CPow 10 60 := fun _ => ⟨by decide, by decide, by decide⟩
  have hg : ((Int.gcd t b : Nat) : Int) = ((Nat.gcd t.natAbs b.natAbs : Nat) : Int) := rfl
  have gp := g_pos (t := t) hb
  have gle : Int.gcd t b ≤ b.natAbs := by
    have : Int.gcd t b ∣ b.natAbs := Int.gcd_dvd_natAbs_right ..
    exact Nat.le_of_dvd (by omega) this
  have gd : ((Int.gcd t b : Nat) : Int).natAbs < 2 ^ 8000 := by rw [Int.natAbs_natCast]; omega
  refine sd_stay (s1_if (td_val (ed_var 3 rfl ⟨_, rfl, if_b (fun e => ?_) fun e => sd_nil ⟨rfl, rfl⟩⟩))) ?_
  · obtain ⟨c1, c2, c3⟩ := hc e
    refine sd_cons (s1_expr (ed_call (fd_check_number T) ok (ad_cons (ed_var 1 rfl (ad_cons (ed_neg (ed_globI T.g_MOST_PART ⟨_, rfl, ad_cons (ed_globI T.g_MOST_PART (ad_nil ⟨_, _, _, rfl, c1, c2, ?_⟩))⟩)))))))
    exact sd_one (s1_expr (ed_call (fd_check_number T) ok (ad_cons (ed_var 2 rfl (ad_cons (ed_int (ad_cons (ed_globI T.g_MOST_PART (ad_nil ⟨_, _, _, rfl, by omega, c3, ⟨rfl, rfl⟩⟩)))))))))
  refine sd_cons (s1_set 4 (ed_gcd T.g_gcd (ed_var 1 rfl (ed_var 2 rfl ⟨_, _, rfl, rfl, ?_⟩))) ok.nd)
  refine sd_stay (s1_if (td_lt (ed_var 2 rfl (ed_int ⟨_, _, rfl, rfl, if_f (decide_eq_false (by omega)) (sd_nil ⟨rfl, rfl⟩)⟩)))) ?_
  refine sd_cons (s1_fld (ed_fdivW (ed_var 1 rfl (ed_var 4 rfl ⟨_, _, rfl, rfl, div_ok gp gd, ed_var 0 rfl ⟨qa, A.rat, dx, _, _, rfl, hμ, T.i_rat.cl, T.n_rat_top, by decide, ?_⟩⟩))))
  refine sd_one (s1_fld (ed_fdivW (ed_var 2 rfl (ed_var 4 rfl ⟨_, _, rfl, rfl, div_ok gp gd, ed_var 0 rfl ⟨qa, A.rat, dx, _, _, rfl, mset_same, T.i_rat.cl, T.n_rat_bottom, by decide, ?_⟩⟩))))
  rw [mset_mset]
  exact q
/-- Ratio(a, b) -/
theorem nd_ratio (T : Txt P K mg A) : Nd P w K mg base 2 "Ratio" A.rat [.bl true] (S_ratio A) := by
  obtain ⟨f, fd, h1, F⟩ := T.mk_rat
  obtain ⟨ds, hv, hb⟩ := F.binds (ps := p_Ratio_init) 3 1 (by simp) rfl (fun TT D doc pm an cdv ct us its ks h1 h2 h3 => match us, its, ks, h1, h2, h3 with | [_, _, _], [_], [_], _, _, _ => ⟨_, rfl, _, _, _, _, _, _, rfl, rfl, rfl⟩) (by simp)
  exact ⟨f, fd, _, ds, T.c_rat, h1, hb, hv, fn_ratio T F⟩
/-- Ratio(a, b, _bounded=..) -/
theorem kd_ratio (T : Txt P K mg A) : Kd P w K mg base 2 "Ratio" A.rat 2 "_bounded" (S_ratio A) := by
  obtain ⟨f, fd, h1, F⟩ := T.mk_rat
  obtain ⟨its, mv, hb⟩ := F.kbinds (ps := p_Ratio_init) 3 ["_bounded"] [] (fun us its mv ws => us ++ ws) (by simp) (by simp) (by simp) (fun r1 r2 r3 r4 => r1.append r4)
    (fun TT D doc pm an cdv ct us its mv ws h1 h2 h3 h4 => match us, its, mv, ws, h1, h2, h3, h4 with | [_, _, _], [_], [], [_], _, _, _, _ => ⟨_, rfl, rfl⟩)
  exact ⟨f, fd, _, _, _, T.c_rat, h1, hb, fun vs z _ => rfl, fn_ratio T F⟩
def S_exact (A : Ad) : SpD := fun ds μ Q _ => ∃ t b : Int, ds = [.int t, .int b] ∧ 0 < b ∧ b.natAbs < 2 ^ 8000 ∧ Q (rat A (rt t b) (rb t b)) μ
theorem fd_exact (T : Txt P K mg A) : Fd P w K mg base 4 "exact" (S_exact A) := T.d_exact.fd (ps := p_exact) bd_exact fun f fd F => fn_d F sc_exact (fun ds μ Q ξ ⟨_, _, hd, _⟩ => by subst hd; rfl) fun cdv B outer s H E G0 ξ ok ds μ Q ⟨t, b, hd, hb, hb2, q⟩ => by
  subst hd
  refine sd_one (s1_ret (ed_freezeI (ed_makeK (kd_ratio T) ok (ad_cons (ed_var 0 rfl (ad_cons (ed_var 1 rfl (ad_nil (ed_bl ⟨rfl, fun p dx hp => ⟨p, t, b, false, dx, rfl, mset_same, hb, hb2, (fun e => nomatch e), ?_⟩⟩)))))))))
  rw [mset_mset]
  exact ⟨rfl, p, A.rat, dx, _, _, rfl, mset_same, by rw [mdel_mset hp]; exact q⟩
def S_is_fraction (A : Ad) : SpD := fun ds μ Q _ => ∃ (d : D) (t b : Int), ds = [d] ∧ isF A d t b ∧ Q (.bl true) μ
theorem ty_isF {d : D} {t b : Int} {μ : Mu} (T : Txt P K mg A) (h : isF A d t b) : (∃ ty, TyD K μ d ty ∧ PySem.W.kitOne K ty (.ref A.rat) = some true ∧ d = rat A t b) ∨ (d = .int t ∧ b = 1 ∧ TyD K μ d (.type "int")) := by
  rcases h with ⟨h, h1⟩ | h
  · subst h; exact .inr ⟨rfl, h1, .flat rfl⟩
  · subst h; exact .inl ⟨_, .ins rfl T.i_rat, T.k_rr, rfl⟩
theorem fd_is_fraction (T : Txt P K mg A) : Fd P w K mg base 1 "is_fraction" (S_is_fraction A) := T.d_is_fraction.fd (ps := p_is_fraction) bd_is_fraction fun f fd F => fn_d F sc_is_fraction (fun ds μ Q ξ ⟨_, _, _, hd, _⟩ => by subst hd; rfl) fun cdv B outer s H E G0 ξ ok ds μ Q ⟨d, t, b, hd, hf, q⟩ => by
  subst hd
  refine sd_one (s1_ret (ed_or2 (ed_isiC T.f_isinstance T.c_rat (ed_var 0 rfl ?_))))
  rcases ty_isF T hf with ⟨ty, h1, h2, h3⟩ | ⟨h1, h2, h3⟩
  · exact ⟨ty, true, h1, h2, _, rfl, q⟩
  · exact ⟨_, false, h3, T.k_ir, _, rfl, ed_isiB (n := "int") T.f_isinstance T.f_int (ed_var 0 rfl ⟨_, true, h3, rfl, q⟩) (by decide +kernel)⟩
def S_tab (A : Ad) : SpD := fun ds μ Q _ => ∃ (d : D) (t b : Int), ds = [d] ∧ isF A d t b ∧ Q (.tup [.int t, .int b]) μ
theorem fd_tab (T : Txt P K mg A) : Fd P w K mg base 1 "top_and_bottom" (S_tab A) := T.d_top_and_bottom.fd (ps := p_top_and_bottom) bd_top_and_bottom fun f fd F => fn_d F sc_top_and_bottom (fun ds μ Q ξ ⟨_, _, _, hd, _⟩ => by subst hd; rfl) fun cdv B outer s H E G0 ξ ok ds μ Q ⟨d, t, b, hd, hf, q⟩ => by
  subst hd
  refine sd_cons (s1_if (td_val (ed_isiC T.f_isinstance T.c_rat (ed_var 0 rfl ?_))))
  · rcases ty_isF T hf with ⟨ty, h1, h2, h3⟩ | ⟨h1, h2, h3⟩
    · subst h3
      exact ⟨ty, true, h1, h2, _, rfl, if_t rfl (sd_one (s1_ret (ed_tup (ad_cons (ed_fld (ed_var 0 rfl ⟨A.rat, _, _, _, rfl, T.i_rat.cl, T.n_rat_top, by rfl, ad_cons (ed_fld (ed_var 0 rfl ⟨A.rat, _, _, _, rfl, T.i_rat.cl, T.n_rat_bottom, by rfl, ad_nil ⟨by simp, q⟩⟩))⟩))))))⟩
    · subst h2
      exact ⟨_, false, h3, T.k_ir, _, rfl, if_f rfl (sd_nil (sd_one (s1_ret (ed_tup (ad_cons (ed_var 0 rfl (ad_cons (ed_int (ad_nil ⟨by simp, by subst h1; exact q⟩)))))))))⟩
end
end DD
set_option Elab.async false
set_option linter.all false
set_option maxRecDepth 100000
set_option maxHeartbeats 4000000
/-! E4: ratios, further. -/
namespace DD
open PySem PySem.Spec PyProof.Rows L2 PM
section
variable {P : Program} {w : World} {K : PySem.W.Frag} {mg : Str → Option Value} {base : Heap} {A : Ad}
/-- x, y = f(v) where f hands out a pair -/
theorem s1_two {Γ : Ctx} {ρ : Rho} {μ : Mu} {E : DE} {value : Expr} {x y : Str} {j i1 i2 : Nat} {px py pos : Pos} {kt : Nat} {pt : Pos} (ok : Γ.Ok j) (ha : ED Γ value ρ μ fun d μ1 => ∃ d1 d2, d = .tup [d1, d2] ∧ E.nx ((ρ.set i1 (some d1)).set i2 (some d2)) μ1)
    (hx : Γ.X.N[i1]? = some x := by rfl) (hy : Γ.X.N[i2]? = some y := by rfl) (lx : Loc Γ.X.env.scope x := by first | exact Or.inl rfl | exact Or.inr rfl) (ly : Loc Γ.X.env.scope y := by first | exact Or.inl rfl | exact Or.inr rfl)
    (hfx : Γ.X.fn x = true ∨ Γ.X.env.scope.names.lookup x = some .local := by exact .inl rfl) (hfy : Γ.X.fn y = true ∨ Γ.X.env.scope.names.lookup y = some .local := by exact .inl rfl)
    (hn : (assignEach [.Name x px, .Name y py] Γ.X.env).length = 2 := by rfl) (hst : (assignEach [.Name x px, .Name y py] Γ.X.env).findIdx? (·.1) = none := by rfl)
    (hs : swapsWithSole [.Tuple [.Name x px, .Name y py] kt pt] value pos.line Γ.X.env = pure false := by rfl) (hw : swappedStores [.Tuple [.Name x px, .Name y py] kt pt] value Γ.X.env = pure none := by rfl)
    (h1 : (assignEach [.Tuple [.Name x px, .Name y py] kt pt] Γ.X.env).map (·.2) = [assign (.Tuple [.Name x px, .Name y py] kt pt) Γ.X.env] := by rfl)
    (hc1 : (assignEach [.Name x px, .Name y py] Γ.X.env).map (·.2) = assign (.Name x px) Γ.X.env :: (assignEach [.Name y py] Γ.X.env).map (·.2) := by rfl) (hc2 : (assignEach [.Name y py] Γ.X.env).map (·.2) = assign (.Name y py) Γ.X.env :: (assignEach [] Γ.X.env).map (·.2) := by rfl) : S1 Γ (.Assign [.Tuple [.Name x px, .Name y py] kt pt] value pos) ρ μ E :=
  s1_unpack [i1, i2] ok.calm (pgs_cons (pg_name ok.nd hx lx hfx) (pgs_cons (pg_name ok.nd hy ly hfy) pgs_nil hc2) hc1) hn hst (ha.imp fun d μ1 ⟨d1, d2, hd, q⟩ => ⟨_, hd, rfl, q⟩) hs hw h1
def S_is_less (A : Ad) : SpD := fun ds μ Q _ => ∃ (d1 d2 : D) (t1 b1 t2 b2 : Int), ds = [d1, d2] ∧ isF A d1 t1 b1 ∧ isF A d2 t2 b2 ∧ (Sm t1 ∧ Sm b1 ∧ Sm t2 ∧ Sm b2) ∧ Q (.bl (decide (t1 * b2 < t2 * b1))) μ
theorem fd_is_less (T : Txt P K mg A) : Fd P w K mg base 2 "is_less" (S_is_less A) := T.d_is_less.fd (ps := p_is_less) bd_is_less fun f fd F => fn_d F sc_is_less (fun ds μ Q ξ ⟨_, _, _, _, _, _, hd, _⟩ => by subst hd; rfl) fun cdv B outer s H E G0 ξ ok ds μ Q ⟨d1, d2, t1, b1, t2, b2, hd, f1, f2, ⟨m1, m2, m3, m4⟩, q⟩ => by
  subst hd
  refine sd_cons (s1_two (i1 := 2) (i2 := 3) ok (ed_call (fd_tab T) ok (ad_cons (ed_var 0 rfl (ad_nil ⟨d1, t1, b1, rfl, f1, _, _, rfl, ?_⟩)))))
  refine sd_cons (s1_two (i1 := 4) (i2 := 5) ok (ed_call (fd_tab T) ok (ad_cons (ed_var 1 rfl (ad_nil ⟨d2, t2, b2, rfl, f2, _, _, rfl, ?_⟩)))))
  exact sd_one (s1_ret (ed_lt (ed_mulW (ed_var 2 rfl (ed_var 5 rfl ⟨_, _, rfl, rfl, m1.mul m4, ed_mulW (ed_var 4 rfl (ed_var 3 rfl ⟨_, _, rfl, rfl, m3.mul m2, ⟨_, _, rfl, rfl, q⟩⟩))⟩)))))
def S_taken (A : Ad) : SpD := fun ds μ Q ξ => ∃ (d dl dh : D) (t b lt lb ht hb : Int), ds = [d, dl, dh] ∧ isF A d t b ∧ isF A dl lt lb ∧ isF A dh ht hb ∧ (Sm t ∧ Sm b ∧ Sm lt ∧ Sm lb ∧ Sm ht ∧ Sm hb) ∧ 0 < b ∧
  (¬ t * lb < lt * b → ¬ ht * b < t * hb → b ≤ 1000000 → Q (rat A (rt t b) (rb t b)) μ) ∧ ((t * lb < lt * b ∨ ht * b < t * hb ∨ 1000000 < b) → ξ A.frc [] [] μ)
theorem fd_taken (T : Txt P K mg A) : Fd P w K mg base 5 "taken" (S_taken A) := T.d_taken.fd (ps := p_taken) bd_taken fun f fd F => fn_dx F sc_taken (fun ds μ Q ξ ⟨_, _, _, _, _, _, _, _, _, hd, _⟩ => by subst hd; rfl) fun cdv B outer s H E G0 ξ ok tk hs ds μ Q ⟨d, dl, dh, t, b, lt, lb, ht, hb, hd, f1, f2, f3, ⟨m1, m2, m3, m4, m5, m6⟩, b0, q1, q2⟩ => by
  subst hd
  obtain ⟨mc, u, c1, c2⟩ := T.cv_rat
  refine sd_cons (s1_two (i1 := 3) (i2 := 4) ok (ed_call (fd_tab T) ok (ad_cons (ed_var 0 rfl (ad_nil ⟨d, t, b, rfl, f1, _, _, rfl, ?_⟩)))))
  have go : ¬ t * lb < lt * b → ¬ ht * b < t * hb → SD (gam P w K mg base n_taken "taken" (defScope s_taken) f cdv B outer s H E G0 ξ) ((defBody s_taken).drop 2) [some d, some dl, some dh, some (.int t), some (.int b)] μ { nx := fun _ μ' => Q .non μ', rt := Q } := fun e1 e2 => by
    refine sd_cons (s1_if (td_gt (ed_var 4 rfl (ed_cval (d := .int 1000000) T.c_rat c1 c2 (fun _ => rfl) ⟨_, _, rfl, rfl, if_b (fun e => sd_one (s1_raiseE T.x_frc ok tk (q2 (.inr (.inr (of_decide_eq_true e)))))) fun e3 => sd_nil ?_⟩))))
    refine sd_one (s1_ret (ed_call (fd_exact T) ok (ad_cons (ed_var 3 rfl (ad_cons (ed_var 4 rfl (ad_nil ⟨_, _, rfl, b0, ?_, q1 e1 e2 (by have := of_decide_eq_false e3; omega)⟩)))))))
    exact Nat.lt_of_lt_of_le m2 (Nat.pow_le_pow_right (by omega) (by omega))
  by_cases e1 : t * lb < lt * b
  · refine sd_cons (s1_if (td_or (td_val (ed_call (fd_is_less T) ok (ad_cons (ed_var 0 rfl (ad_cons (ed_var 1 rfl (ad_nil ⟨d, dl, t, b, lt, lb, rfl, f1, f2, ⟨m1, m2, m3, m4⟩, _, rfl, ?_⟩))))))))) 
    exact if_t (decide_eq_true e1) (if_t rfl (sd_one (s1_raiseE T.x_frc ok tk (q2 (.inl e1)))))
  · refine sd_cons (s1_if (td_or (td_val (ed_call (fd_is_less T) ok (ad_cons (ed_var 0 rfl (ad_cons (ed_var 1 rfl (ad_nil ⟨d, dl, t, b, lt, lb, rfl, f1, f2, ⟨m1, m2, m3, m4⟩, _, rfl, ?_⟩)))))))))
    refine if_f (decide_eq_false e1) (td_val (ed_call (fd_is_less T) ok (ad_cons (ed_var 2 rfl (ad_cons (ed_var 0 rfl (ad_nil ⟨dh, d, ht, hb, t, b, rfl, f3, f1, ⟨m5, m6, m1, m2⟩, _, rfl, ?_⟩)))))))
    by_cases e2 : ht * b < t * hb
    · exact if_t (decide_eq_true e2) (sd_one (s1_raiseE T.x_frc ok tk (q2 (.inr (.inl e2)))))
    · exact if_f (decide_eq_false e2) (sd_nil (go e1 e2))
theorem dunder_addO : PySem.dunder (Operator.info .Add).2 = ("__add__" : Str) := dunder_add
theorem dunder_subO : PySem.dunder (Operator.info .Sub).2 = ("__sub__" : Str) := dunder_sub
theorem dunderR_addO : PySem.dunderR (Operator.info .Add).2 = ("__radd__" : Str) := dunderR_add
theorem sm_exact {b b' : Int} (h : Sm b) (h' : Sm b') : (b * b').natAbs < 2 ^ 8000 := by
  rw [Int.natAbs_mul]
  have e : (2 : Nat) ^ 1000 * 2 ^ 1000 = 2 ^ 2000 := by rw [← Nat.pow_add]
  exact Nat.lt_of_lt_of_le (Nat.mul_lt_mul'' h h') (by rw [e]; exact Nat.pow_le_pow_right (by omega) (by omega))
def S_add (A : Ad) : SpD := fun ds μ Q _ => ∃ (d : D) (t b t' b' : Int), ds = [rat A t b, d] ∧ isF A d t' b' ∧ (Sm t ∧ Sm b ∧ Sm t' ∧ Sm b') ∧ 0 < b ∧ 0 < b' ∧ Q (rat A (rt (t * b' + t' * b) (b * b')) (rb (t * b' + t' * b) (b * b'))) μ
theorem md_add (T : Txt P K mg A) : Md P w K mg base 5 A.rat "__add__" (S_add A) := T.m_rat_add.md (ps := p_Ratio_add) bd_Ratio_add fun f fd F => fn_d F sc_Ratio_add (fun ds μ Q ξ ⟨_, _, _, _, _, hd, _⟩ => by subst hd; rfl) fun cdv B outer s H E G0 ξ ok ds μ Q ⟨d, t, b, t', b', hd, hf, ⟨m1, m2, m3, m4⟩, b0, b0', q⟩ => by
  subst hd
  refine sd_cons (s1_if (td_not (td_val (ed_call (fd_is_fraction T) ok (ad_cons (ed_var 1 rfl (ad_nil ⟨d, t', b', rfl, hf, _, rfl, if_f rfl (sd_nil ?_)⟩)))))))
  refine sd_cons (s1_two (i1 := 2) (i2 := 3) ok (ed_call (fd_tab T) ok (ad_cons (ed_var 1 rfl (ad_nil ⟨d, t', b', rfl, hf, _, _, rfl, ?_⟩)))))
  refine sd_one (s1_ret (ed_call (fd_exact T) ok (ad_cons (ed_add (ed_mulW (ed_fld (ed_var 0 rfl ⟨A.rat, _, _, _, rfl, T.i_rat.cl, T.n_rat_top, by rfl, ed_var 3 rfl ⟨_, _, rfl, rfl, m1.mul m4, ?_⟩⟩))))))) 
  refine ed_mulW (ed_var 2 rfl (ed_fld (ed_var 0 rfl ⟨A.rat, _, _, _, rfl, T.i_rat.cl, T.n_rat_bottom, by rfl, _, _, rfl, rfl, m3.mul m2, _, _, rfl, rfl, ?_⟩)))
  exact ad_cons (ed_mulW (ed_fld (ed_var 0 rfl ⟨A.rat, _, _, _, rfl, T.i_rat.cl, T.n_rat_bottom, by rfl, ed_var 3 rfl ⟨_, _, rfl, rfl, m2.mul m4, ad_nil ⟨_, _, rfl, Int.mul_pos b0 b0', sm_exact m2 m4, q⟩⟩⟩)))
def S_sub (A : Ad) : SpD := fun ds μ Q _ => ∃ (d : D) (t b t' b' : Int), ds = [rat A t b, d] ∧ isF A d t' b' ∧ (Sm t ∧ Sm b ∧ Sm t' ∧ Sm b') ∧ 0 < b ∧ 0 < b' ∧ Q (rat A (rt (t * b' - t' * b) (b * b')) (rb (t * b' - t' * b) (b * b'))) μ
theorem md_sub (T : Txt P K mg A) : Md P w K mg base 5 A.rat "__sub__" (S_sub A) := T.m_rat_sub.md (ps := p_Ratio_sub) bd_Ratio_sub fun f fd F => fn_d F sc_Ratio_sub (fun ds μ Q ξ ⟨_, _, _, _, _, hd, _⟩ => by subst hd; rfl) fun cdv B outer s H E G0 ξ ok ds μ Q ⟨d, t, b, t', b', hd, hf, ⟨m1, m2, m3, m4⟩, b0, b0', q⟩ => by
  subst hd
  refine sd_cons (s1_if (td_not (td_val (ed_call (fd_is_fraction T) ok (ad_cons (ed_var 1 rfl (ad_nil ⟨d, t', b', rfl, hf, _, rfl, if_f rfl (sd_nil ?_)⟩)))))))
  refine sd_cons (s1_two (i1 := 2) (i2 := 3) ok (ed_call (fd_tab T) ok (ad_cons (ed_var 1 rfl (ad_nil ⟨d, t', b', rfl, hf, _, _, rfl, ?_⟩)))))
  refine sd_one (s1_ret (ed_call (fd_exact T) ok (ad_cons (ed_sub (ed_mulW (ed_fld (ed_var 0 rfl ⟨A.rat, _, _, _, rfl, T.i_rat.cl, T.n_rat_top, by rfl, ed_var 3 rfl ⟨_, _, rfl, rfl, m1.mul m4, ?_⟩⟩))))))) 
  refine ed_mulW (ed_var 2 rfl (ed_fld (ed_var 0 rfl ⟨A.rat, _, _, _, rfl, T.i_rat.cl, T.n_rat_bottom, by rfl, _, _, rfl, rfl, m3.mul m2, _, _, rfl, rfl, ?_⟩)))
  exact ad_cons (ed_mulW (ed_fld (ed_var 0 rfl ⟨A.rat, _, _, _, rfl, T.i_rat.cl, T.n_rat_bottom, by rfl, ed_var 3 rfl ⟨_, _, rfl, rfl, m2.mul m4, ad_nil ⟨_, _, rfl, Int.mul_pos b0 b0', sm_exact m2 m4, q⟩⟩⟩)))
theorem sm_rt {t b : Int} (h : Sm t) : Sm (rt t b) := Nat.lt_of_le_of_lt (rt_abs t b) h
theorem sm_rb {t b : Int} (h0 : 0 < b) (h : Sm b) : Sm (rb t b) := by
  have h1 := rb_le (t := t) h0
  have h2 := rb_pos (t := t) h0
  unfold Sm at *
  omega
theorem sm_neg {t : Int} (h : Sm t) : Sm (-t) := by unfold Sm at *; rw [Int.natAbs_neg]; exact h
def S_neg (A : Ad) : SpD := fun ds μ Q _ => ∃ (t b : Int), ds = [rat A t b] ∧ (Sm t ∧ Sm b) ∧ 0 < b ∧ Q (rat A (rt (-t) b) (rb (-t) b)) μ
theorem md_neg (T : Txt P K mg A) : Md P w K mg base 5 A.rat "__neg__" (S_neg A) := T.m_rat_neg.md (ps := p_Ratio_neg) bd_Ratio_neg fun f fd F => fn_d F sc_Ratio_neg (fun ds μ Q ξ ⟨_, _, hd, _⟩ => by subst hd; rfl) fun cdv B outer s H E G0 ξ ok ds μ Q ⟨t, b, hd, ⟨m1, m2⟩, b0, q⟩ => by
  subst hd
  refine sd_one (s1_ret (ed_call (fd_exact T) ok (ad_cons (ed_neg (ed_fld (ed_var 0 rfl ⟨A.rat, _, _, _, rfl, T.i_rat.cl, T.n_rat_top, by rfl, _, rfl, ?_⟩))))))
  refine ad_cons (ed_fld (ed_var 0 rfl ⟨A.rat, _, _, _, rfl, T.i_rat.cl, T.n_rat_bottom, by rfl, ad_nil ⟨_, _, rfl, b0, ?_, q⟩⟩))
  exact Nat.lt_of_lt_of_le m2 (Nat.pow_le_pow_right (by omega) (by omega))
def S_below (A : Ad) : SpD := fun ds μ Q _ => ∃ (d : D) (t b t' b' : Int), ds = [rat A t b, d] ∧ isF A d t' b' ∧ (Sm t ∧ Sm b ∧ Sm t' ∧ Sm b') ∧ Q (.bl (decide (t * b' < t' * b))) μ
theorem md_below (T : Txt P K mg A) : Md P w K mg base 3 A.rat "below" (S_below A) := T.m_rat_below.md (ps := p_Ratio_below) bd_Ratio_below fun f fd F => fn_d F sc_Ratio_below (fun ds μ Q ξ ⟨_, _, _, _, _, hd, _⟩ => by subst hd; rfl) fun cdv B outer s H E G0 ξ ok ds μ Q ⟨d, t, b, t', b', hd, hf, m, q⟩ => by
  subst hd
  exact sd_one (s1_ret (ed_call (fd_is_less T) ok (ad_cons (ed_var 0 rfl (ad_cons (ed_var 1 rfl (ad_nil ⟨_, _, t, b, t', b', rfl, .inr rfl, hf, m, q⟩)))))))
/-- n - ratio, by cross multiplication -/
def S_rsub (A : Ad) : SpD := fun ds μ Q _ => ∃ (t b n : Int), ds = [rat A t b, .int n] ∧ (-(10 ^ 100) ≤ t ∧ t ≤ 10 ^ 100 ∧ b ≤ 10 ^ 100 ∧ n = 1) ∧ 0 < b ∧ ∀ x y, 0 < y → Sm x → Sm y → x * b = (n * b - t) * y → Q (rat A x y) μ
theorem md_rsub (T : Txt P K mg A) : Md P w K mg base 6 A.rat "__rsub__" (S_rsub A) := T.m_rat_rsub.md (ps := p_Ratio_rsub) bd_Ratio_rsub fun f fd F => fn_d F sc_Ratio_rsub (fun ds μ Q ξ ⟨_, _, _, hd, _⟩ => by subst hd; rfl) fun cdv B outer s H E G0 ξ ok ds μ Q ⟨t, b, n, hd, ⟨h1, h2, h3, hn⟩, b0, q⟩ => by
  subst hd
  obtain ⟨fo, ia⟩ := T.ia
  obtain ⟨ro, ir⟩ := T.ir
  obtain ⟨g, rr⟩ := T.rr
  have F1 : Md P w K mg base 5 A.rat (PySem.dunder (Operator.info .Add).2) (S_add A) := by rw [dunder_addO]; exact md_add T
  have p100 : (10 : Int) ^ 100 ≤ 10 ^ 200 := by decide
  have mt : Sm (-t) := sm_of (by constructor <;> omega)
  have mb : Sm b := sm_of (by constructor <;> omega)
  refine sd_cons (s1_if (td_not (td_val (ed_isiB (n := "int") T.f_isinstance T.f_int (ed_var 1 rfl ⟨_, true, .flat rfl, rfl, _, rfl, if_f rfl (sd_nil ?_)⟩) (by decide +kernel)))))
  refine sd_one (s1_ret (ed_opOI F1 T.sf_rat ok (by rw [dunderR_addO]; exact rr) (.inr ⟨g, rfl⟩) (by rw [dunder_addO]; exact ia) (by rw [dunderR_addO]; exact ir) T.sub_ir (ed_negO (md_neg T) ok (ed_var 0 rfl ⟨_, _, rfl, t, b, rfl, ⟨by rw [← Int.neg_neg t]; exact sm_neg mt, mb⟩, b0, ?_⟩))))
  have hb' := rb_pos (t := -t) b0
  refine ed_var 1 rfl ⟨_, _, n, rfl, rfl, .int n, _, _, n, 1, rfl, .inl ⟨rfl, rfl⟩, ⟨sm_rt mt, sm_rb b0 mb, by subst hn; unfold Sm; decide, by unfold Sm; decide⟩, hb', by decide, ?_⟩
  have hp : 0 < rb (-t) b * 1 := by rw [Int.mul_one]; exact hb'
  refine q _ _ (rb_pos hp) (sm_rt ?_) (sm_rb hp (by rw [Int.mul_one]; exact sm_rb b0 mb)) ?_
  · subst hn
    have e1 := rb_le (t := -t) b0
    have a := rt_abs (-t) b
    exact sm_of (by constructor <;> omega)
  · have c1 := cross (-t) b
    have c2 := cross (rt (-t) b * 1 + n * rb (-t) b) (rb (-t) b * 1)
    generalize rt (rt (-t) b * 1 + n * rb (-t) b) (rb (-t) b * 1) = x at *
    generalize rb (rt (-t) b * 1 + n * rb (-t) b) (rb (-t) b * 1) = y at *
    generalize rt (-t) b = u at *
    generalize rb (-t) b = v at *
    rw [Int.mul_one, Int.mul_one] at c2
    have k : x * b * v = (n * b - t) * y * v := by
      calc x * b * v = x * v * b := Int.mul_right_comm ..
        _ = (u + n * v) * y * b := by rw [c2]
        _ = (u * b + n * v * b) * y := by rw [Int.mul_right_comm, Int.add_mul]
        _ = (-t * v + n * v * b) * y := by rw [c1]
        _ = (n * b - t) * y * v := by
          rw [Int.mul_right_comm (n * b - t) y v]
          congr 1
          rw [Int.sub_mul, Int.neg_mul, Int.mul_right_comm n v b]
          omega
    exact Int.eq_of_mul_eq_mul_right (by omega) k
end
end DD
set_option Elab.async false
set_option linter.all false
set_option maxRecDepth 100000
set_option maxHeartbeats 4000000
/-! E5: scales, deals. -/
namespace DD
open PySem PySem.Spec PyProof.Rows L2 PM
theorem atI_nat {α : Type} {xs : List α} {i : Nat} (h : i < xs.length) : atI xs (i : Int) = xs[i]? := by
  unfold atI ixN
  have h1 : ¬ (i : Int) < 0 := by omega
  simp [h1, h]
theorem atI_int {ns : List Int} {i : Nat} (h : i < ns.length) : atI (ns.map D.int) (i : Int) = some (.int (at_ ns i)) := by
  rw [atI_nat (by rw [List.length_map]; exact h), List.getElem?_map, get_at h]; rfl
theorem pow_le7 {h : Nat} (h7 : h ≤ 7) : 2 ^ h ≤ 128 := Nat.pow_le_pow_right (n := 2) (by omega) h7
section
variable {P : Program} {w : World} {K : PySem.W.Frag} {mg : Str → Option Value} {base : Heap} {A : Ad}
theorem pw_mask {h c : Nat} (hc : c < 2 ^ h) : ((2 ^ h : Nat) : Int) - 1 - (c : Int) = ((2 ^ h - 1 - c : Nat) : Int) := by omega
def S_good : SpD := fun ds μ Q _ => ∃ (h : Nat) (ns : List Int), ds = [.int h, lI ns] ∧ Good h ns ∧ Q .non μ
theorem fd_check_opposite (T : Txt P K mg A) : Fd P w K mg base 2 "check_opposite" S_good := T.d_check_opposite.fd (ps := p_check_opposite) bd_check_opposite fun f fd F => fn_d F sc_check_opposite (fun ds μ Q ξ ⟨_, _, hd, _⟩ => by subst hd; rfl) fun cdv B outer s H E G0 ξ ok ds μ Q ⟨h, ns, hd, G, q⟩ => by
  subst hd
  have p7 := pow_le7 G.h7
  have h7 := G.h7
  have hpz : (0 : Int) < ((2 ^ h : Nat) : Int) := by exact_mod_cast Nat.two_pow_pos h
  have hpz2 : ((2 ^ h : Nat) : Int) ≤ 128 := by exact_mod_cast p7
  refine sd_one (s1_forR 2 (fun j ρ' μ' => ∃ x, ρ' = [some (.int h), some (lI ns), x] ∧ μ' = μ) ok T.f_range (ad_cons (ed_shl (ed_int (ed_var 0 rfl ⟨_, _, rfl, rfl, ⟨by omega, by omega, by decide⟩, ad_nil ⟨_, rfl, ?_, ?_, ⟨_, rfl, rfl⟩, ?_, ?_⟩⟩)))))
  · rw [shl1]; omega
  · rw [shl1]; omega
  · rw [shl1]
    intro j ρ' μ' hj ⟨x, hρ, hμ⟩
    subst hρ hμ
    have hj' : j < 2 ^ h := by omega
    refine sd_one (s1_if (td_neI (ed_ixL (ed_var 1 rfl (ed_var 2 rfl ⟨_, _, _, rfl, rfl, atI_int (by rw [G.len]; exact hj'), ed_neg (ed_ixL (ed_var 1 rfl ?_))⟩)))))
    refine ed_call (fd_rest_mask T) ok (ad_cons (ed_var 0 rfl (ad_cons (ed_var 2 rfl (ad_nil ⟨h, _, rfl, by omega, _, _, _, rfl, congrArg D.int (pw_mask hj'), atI_int (by rw [G.len]; omega), _, rfl, _, _, rfl, rfl, if_f ?_ (sd_nil ⟨_, rfl, rfl⟩)⟩)))))
    rw [G.opp j hj', Int.neg_neg, decide_eq_true rfl]; rfl
  · intro ρ' μ' ⟨x, hρ, hμ⟩
    subst hρ hμ
    exact q
theorem fd_check_rising (T : Txt P K mg A) : Fd P w K mg base 2 "check_rising" S_good := T.d_check_rising.fd (ps := p_check_rising) bd_check_rising fun f fd F => fn_d F sc_check_rising (fun ds μ Q ξ ⟨_, _, hd, _⟩ => by subst hd; rfl) fun cdv B outer s H E G0 ξ ok ds μ Q ⟨h, ns, hd, G, q⟩ => by
  subst hd
  have p7 := pow_le7 G.h7
  have h7 := G.h7
  have hpz : (0 : Int) < ((2 ^ h : Nat) : Int) := by exact_mod_cast Nat.two_pow_pos h
  have hpz2 : ((2 ^ h : Nat) : Int) ≤ 128 := by exact_mod_cast p7
  refine sd_one (s1_forR 2 (fun j ρ' μ' => ∃ x y, ρ' = [some (.int h), some (lI ns), x, y] ∧ μ' = μ) ok T.f_range (ad_cons (ed_shl (ed_int (ed_var 0 rfl ⟨_, _, rfl, rfl, ⟨by omega, by omega, by decide⟩, ad_nil ⟨_, rfl, ?_, ?_, ⟨_, _, rfl, rfl⟩, ?_, ?_⟩⟩)))))
  · rw [shl1]; omega
  · rw [shl1]; omega
  · rw [shl1]
    intro j ρ' μ' hj ⟨x, y, hρ, hμ⟩
    subst hρ
    subst μ'
    have hj' : j < 2 ^ h := by omega
    refine sd_one (s1_forR 3 (fun i ρ' μ' => ∃ y, ρ' = [some (.int h), some (lI ns), some (.int j), y] ∧ μ' = μ) ok T.f_range (ad_cons (ed_var 0 rfl (ad_nil ⟨_, rfl, by omega, by omega, ⟨_, rfl, rfl⟩, ?_, ?_⟩))))
    · intro i ρ' μ' hi ⟨y, hρ, hμ⟩
      subst hρ hμ
      have hi' : i < h := by omega
      have r := G.ris j hj' i hi'
      have hb : j ||| 2 ^ i < 2 ^ h := Nat.or_lt_two_pow hj' (Nat.pow_lt_pow_right (by omega) hi')
      refine sd_one (s1_if (td_gt (ed_ixL (ed_var 1 rfl (ed_var 2 rfl ⟨_, _, _, rfl, rfl, atI_int (by rw [G.len]; exact hj'), ?_⟩)))))
      refine ed_ixL (ed_var 1 rfl (ed_call (fd_with_hand T) ok (ad_cons (ed_var 2 rfl (ad_cons (ed_var 3 rfl (ad_nil ⟨_, i, rfl, by omega, ?_⟩)))))))
      exact ⟨_, _, _, rfl, rfl, atI_int (by rw [G.len]; exact hb), _, _, rfl, rfl, if_f (decide_eq_false (by omega)) (sd_nil ⟨_, rfl, rfl⟩)⟩
    · intro ρ' μ' ⟨y, hρ, hμ⟩
      subst hρ hμ
      exact ⟨_, _, rfl, rfl⟩
  · intro ρ' μ' ⟨x, y, hρ, hμ⟩
    subst hρ hμ
    exact q
abbrev nScl : List Str := ["hands", "_numbers"]
abbrev scl (A : Ad) (h : Nat) (ns : List Int) : D := .obj A.scl nScl [.int h, tI ns]
def S_scale (A : Ad) : SpD := fun ds μ Q _ => ∃ (q : Addr) (h : Nat) (ns : List Int) (dx : Addr), ds = [.ptr q, .int h, lI ns] ∧ μ q = some (.ins A.scl dx [] []) ∧ Good h ns ∧ Q .non (mset μ q (.ins A.scl dx nScl [.int h, tI ns]))
theorem fn_scale (T : Txt P K mg A) {f : Addr} {fd : FuncData} (F : FunD K "__init__" "Scale.__init__" (defArgs s_Scale_init) (defBody s_Scale_init) (defScope s_Scale_init) [] [] f fd) : FnOk P w K mg base (L2.CX P w) 4 f fd p_Scale_init (spD (S_scale A)) :=
  fn_d F sc_Scale_init (fun ds μ Q ξ ⟨_, _, _, _, hd, _⟩ => by subst hd; rfl) fun cdv B outer s H E G0 ξ ok ds μ Q ⟨qa, h, ns, dx, hd, hμ, G, q⟩ => by
  subst hd
  have p7 := pow_le7 G.h7
  have h7 := G.h7
  have hpz : (0 : Int) < ((2 ^ h : Nat) : Int) := by exact_mod_cast Nat.two_pow_pos h
  have hpz2 : ((2 ^ h : Nat) : Int) ≤ 128 := by exact_mod_cast p7
  obtain ⟨mc, u, c1, c2⟩ := T.cv_scl
  refine sd_cons (s1_expr (ed_call (fd_check_hands T) ok (ad_cons (ed_var 1 rfl (ad_cons (ed_globI T.g_MOST_HANDS (ad_nil ⟨_, _, rfl, fun _ => ?_, fun z => absurd ⟨by have := G.h1; omega, by omega⟩ z⟩)))))))
  refine sd_cons (s1_expr (ed_call (fd_check_length T) ok (ad_cons (ed_len T.f_len (ed_var 2 rfl ⟨_, rfl, ad_cons (ed_shl (ed_int (ed_var 1 rfl ⟨_, _, rfl, rfl, ⟨by omega, by omega, by decide⟩, ad_cons (ed_shl (ed_int (ed_var 1 rfl ⟨_, _, rfl, rfl, ⟨by omega, by omega, by decide⟩, ad_nil ⟨_, _, _, rfl, ?_, ?_, ?_⟩⟩)))⟩)))⟩)))))
  · rw [shl1, List.length_map, G.len]; omega
  · rw [shl1, List.length_map, G.len]; omega
  refine sd_cons (s1_forQ 2 3 (fun j ρ' μ' => ∃ x, ρ' = [some (.ptr qa), some (.int h), some (lI ns), x] ∧ μ' = μ) ok rfl (.inr rfl) ⟨_, rfl, rfl⟩ (fun j d' ρ' μ' hj ⟨x3, hρ, hμ⟩ => ?_) fun ρ' μ' ⟨x3, hρ, hμ⟩ => ?_)
  · subst hρ hμ
    rw [List.getElem?_map] at hj
    obtain ⟨n, hn, hd⟩ := Option.map_eq_some_iff.mp hj
    subst hd
    have b := G.bnd n (List.mem_of_getElem? hn)
    refine sd_one (s1_expr (ed_call (fd_check_number T) ok (ad_cons (ed_var 3 rfl (ad_cons (ed_neg (ed_cval (d := .int 1000000000) T.c_scl c1 c2 (fun _ => rfl) ⟨_, rfl, ad_cons (ed_cval (d := .int 1000000000) T.c_scl c1 c2 (fun _ => rfl) (ad_nil ⟨_, _, _, rfl, b.1, b.2, ⟨_, rfl, rfl⟩⟩))⟩)))))))
  · subst hρ hμ
    refine sd_cons (s1_expr (ed_call (fd_check_opposite T) ok (ad_cons (ed_var 1 rfl (ad_cons (ed_var 2 rfl (ad_nil ⟨h, ns, rfl, G, ?_⟩)))))))
    refine sd_cons (s1_expr (ed_call (fd_check_rising T) ok (ad_cons (ed_var 1 rfl (ad_cons (ed_var 2 rfl (ad_nil ⟨h, ns, rfl, G, ?_⟩)))))))
    refine sd_cons (s1_fld (ed_var 1 rfl (ed_var 0 rfl ⟨qa, A.scl, dx, _, _, rfl, hμ, T.i_scl, T.n_scl_hands, by decide, ?_⟩)))
    refine sd_one (s1_fld (ed_tuple T.f_tuple (ed_var 2 rfl ⟨_, rfl, ed_var 0 rfl ⟨qa, A.scl, dx, _, _, rfl, mset_same, T.i_scl, T.n_scl_numbers, by decide, ?_⟩⟩)))
    rw [mset_mset]
    exact q
theorem nd_scale (T : Txt P K mg A) : Nd P w K mg base 4 "Scale" A.scl [] (S_scale A) := by
  obtain ⟨f, fd, h1, F⟩ := T.mk_scl
  exact ⟨f, fd, _, [], T.c_scl, h1, F.bindsN (ps := p_Scale_init) bd_Scale_init, .nil, fn_scale T F⟩
theorem vd_scale (T : Txt P K mg A) : Vd P w K mg base 4 A.scl (S_scale A) := by
  obtain ⟨f, fd, h1, F⟩ := T.mk_scl
  exact ⟨f, fd, _, h1, F.bindsN (ps := p_Scale_init) bd_Scale_init, fn_scale T F⟩
def S_nothing (A : Ad) : SpD := fun ds μ Q _ => ∃ h : Nat, ds = [.ptr A.scl, .int h] ∧ 1 ≤ h ∧ h ≤ 7 ∧ Q (scl A h (List.replicate (2 ^ h) 0)) μ
theorem cmd_nothing (T : Txt P K mg A) : CMd P w K mg base 6 A.scl "nothing" (S_nothing A) := by
  obtain ⟨mc, p, g, fd, h1, h2, F⟩ := T.cm_scl
  refine ⟨mc, p, g, h1, h2, fnR_of (fn_d F sc_Scale_nothing (fun ds μ Q ξ ⟨_, hd, _⟩ => by subst hd; rfl) fun cdv B outer s H E G0 ξ ok ds μ Q ⟨h, hd, h1, h7, q⟩ => ?_) (F.bindsN (ps := p_Scale_nothing) bd_Scale_nothing)⟩
  subst hd
  have p7 := pow_le7 h7
  refine sd_cons (s1_expr (ed_call (fd_check_hands T) ok (ad_cons (ed_var 1 rfl (ad_cons (ed_globI T.g_MOST_HANDS (ad_nil ⟨_, _, rfl, fun _ => ?_, fun z => absurd ⟨by omega, by omega⟩ z⟩)))))))
  have key : List.map (fun x : Nat => D.int 0) (List.filter (fun x => true) (List.range (2 ^ h))) = (List.replicate (2 ^ h) 0).map D.int := by
    rw [List.filter_eq_self.mpr (fun _ _ => rfl), List.map_replicate]
    refine List.ext_getElem? fun i => ?_
    rw [List.getElem?_map, List.getElem?_replicate]
    by_cases c : i < 2 ^ h
    · rw [List.getElem?_range c, if_pos c]; rfl
    · rw [List.getElem?_eq_none (by rw [List.length_range]; omega), if_neg c]; rfl
  refine sd_one (s1_ret (ed_freezeI (ed_makeV 0 (vd_scale T) ok rfl (ad_cons (ed_var 1 rfl (ad_cons (ed_lcR 2 (fun _ => true) (fun _ => .int 0) ok T.f_range (ad_cons (ed_shl (ed_int (ed_var 1 rfl ⟨_, _, rfl, rfl, ⟨by omega, by omega, by decide⟩, ad_nil ⟨2 ^ h, by rw [shl1], by omega, fun x _ s H C cl fp μ' hu => ⟨rfl, fun _ => ed_int ⟨rfl, rfl⟩⟩, ad_nil fun qa dx hq => ⟨qa, h, List.replicate (2 ^ h) 0, dx, by rw [key], mset_same, zero_good h1 h7, ?_⟩⟩⟩)))) rfl fun _ _ _ _ _ => pg_name (i := 2) ok.nd rfl (Or.inl rfl))))))))
  rw [mset_mset]
  exact ⟨rfl, qa, A.scl, dx, _, _, rfl, mset_same, by rw [mdel_mset hq]; exact q⟩
def S_get (A : Ad) : SpD := fun ds μ Q _ => ∃ (h : Nat) (ns : List Int) (d : D) (l : List Nat), ds = [scl A h ns, d] ∧ Good h ns ∧ SeqI d (zI l) ∧ l.Nodup ∧ (∀ i ∈ l, i < h) ∧ Q (.int (at_ ns (bs l))) μ
theorem bs_lt_pow {h : Nat} {l : List Nat} (h7 : h ≤ 7) (nd : l.Nodup) (hl : ∀ i ∈ l, i < h) : bs l < 2 ^ h :=
  lt_of_bits _ (bs_lt nd fun i hi => Nat.lt_of_lt_of_le (hl i hi) h7) h h7 fun i _ hi => by
    rw [bs_bit nd fun i hi => Nat.lt_of_lt_of_le (hl i hi) h7]
    exact decide_eq_false fun z => by have := hl i z; omega
theorem md_get (T : Txt P K mg A) : Md P w K mg base 5 A.scl "__getitem__" (S_get A) := T.m_scl_get.md (ps := p_Scale_getitem) bd_Scale_getitem fun f fd F => fn_d F sc_Scale_getitem (fun ds μ Q ξ ⟨_, _, _, _, hd, _⟩ => by subst hd; rfl) fun cdv B outer s H E G0 ξ ok ds μ Q ⟨h, ns, d, l, hd, G, hs, nd, hl, q⟩ => by
  subst hd
  refine sd_one (s1_ret (ed_ixT (ed_fld (ed_var 0 rfl ⟨A.scl, _, _, _, rfl, T.i_scl, T.n_scl_numbers, by rfl, ?_⟩))))
  refine ed_call (fd_mask_of T) ok (ad_cons (ed_fld (ed_var 0 rfl ⟨A.scl, _, _, _, rfl, T.i_scl, T.n_scl_hands, by rfl, ad_cons (ed_var 1 rfl (ad_nil ⟨h, d, l, rfl, hs, nd, hl, G.h7, ?_⟩))⟩)))
  exact ⟨_, _, _, rfl, rfl, atI_int (by rw [G.len]; exact bs_lt_pow G.h7 nd hl), q⟩
theorem it_scale (T : Txt P K mg A) : It1 P w K mg base 1 A.scl := by
  obtain ⟨f, fd, h1, F⟩ := T.it_scl
  refine ⟨f, fd, p_Scale_iter, h1, F.bindsN (ps := p_Scale_iter) bd_Scale_iter, F.ok sc_Scale_iter (fun vs H Q E ⟨_, _, _, _, _, hd, _⟩ => by subst hd; rfl) fun cdv B outer s H vs Q E hr ⟨a, dx, t, fs, ys, hd, ha, hf, ht, q⟩ => ?_⟩
  subst hd
  refine ⟨_, pss_one (ps_ret (pe_callB cr_iterT rfl T.f_iter (by decide +kernel) (pa_cons (pe_fld (pe_var (i := 0) rfl (.inl rfl)) rfl) pa_nil))), ?_⟩
  exact ⟨.ref a, rfl, a, A.scl, dx, fs, .ref t, rfl, ha, T.i_scl, T.n_scl_numbers, hf, t, ys, rfl, SqT.of ht, q⟩
/-! ### deals -/
def S_deals_of : SpD := fun ds μ Q _ => ∃ (h nm fm : Nat), ds = [.int h, .int nm, .int fm] ∧ h ≤ 7 ∧ Q (lI (zI (masks h nm fm))) μ
theorem fd_deals_of (T : Txt P K mg A) : Fd P w K mg base 1 "deals_of" S_deals_of := T.d_deals_of.fd (ps := p_deals_of) bd_deals_of fun f fd F => fn_d F sc_deals_of (fun ds μ Q ξ ⟨_, _, _, hd, _⟩ => by subst hd; rfl) fun cdv B outer s H E G0 ξ ok ds μ Q ⟨h, nm, fm, hd, h7, q⟩ => by
  subst hd
  have p7 := pow_le7 h7
  refine sd_one (s1_ret (ed_lcR 3 (fun m => fits nm fm m) (fun m : Nat => .int m) ok T.f_range (ad_cons (ed_shl (ed_int (ed_var 0 rfl ⟨_, _, rfl, rfl, ⟨by omega, by omega, by decide⟩, ad_nil ⟨2 ^ h, by rw [shl1], by omega, fun x hx s H C cl fp μ' hu => ⟨?_, fun _ => ed_var 3 rfl ⟨rfl, rfl⟩⟩, ?_⟩⟩)))) rfl fun _ _ _ _ _ => pg_name (i := 3) ok.nd rfl (Or.inl rfl)))
  · refine td_and (td_eqI (ed_and (ed_var 3 rfl (ed_var 1 rfl ⟨_, _, rfl, rfl, ed_var 1 rfl ⟨_, _, rfl, rfl, ?_⟩⟩))))
    rw [band]
    have e1 : decide (((x &&& nm : Nat) : Int) = (nm : Int)) = decide (x &&& nm = nm) := by simp only [Int.ofNat_inj, Int.natCast_inj]
    rw [e1]
    refine if_b (fun c => ?_) fun c => ?_
    · refine td_eqI (ed_and (ed_var 3 rfl (ed_var 2 rfl ⟨_, _, rfl, rfl, ed_int ⟨_, _, rfl, rfl, rfl, ?_⟩⟩)))
      rw [band]
      unfold fits
      rw [c, Bool.true_and]
      simp only [Int.natCast_eq_zero]
    · exact ⟨rfl, by unfold fits; rw [c, Bool.false_and]⟩
  · have e : List.map (fun m : Nat => D.int (m : Int)) (List.filter (fun m => fits nm fm m) (List.range (2 ^ h))) = (zI (masks h nm fm)).map D.int := by unfold zI masks; rw [List.map_map]; rfl
    rw [e]
    exact q
def S_deal_numbers (A : Ad) : SpD := fun ds μ Q _ => ∃ (h : Nat) (ns : List Int) (nm fm : Nat), ds = [scl A h ns, .int nm, .int fm] ∧ Good h ns ∧ Q (lI ((masks h nm fm).map (at_ ns))) μ
theorem fd_deal_numbers (T : Txt P K mg A) : Fd P w K mg base 4 "deal_numbers" (S_deal_numbers A) := T.d_deal_numbers.fd (ps := p_deal_numbers) bd_deal_numbers fun f fd F => fn_d F sc_deal_numbers (fun ds μ Q ξ ⟨_, _, _, _, hd, _⟩ => by subst hd; rfl) fun cdv B outer s H E G0 ξ ok ds μ Q ⟨h, ns, nm, fm, hd, G, q⟩ => by
  subst hd
  have p7 := pow_le7 G.h7
  have hl : (masks h nm fm).length ≤ 128 := by
    have : (masks h nm fm).length ≤ (List.range (2 ^ h)).length := List.length_filter_le _ _
    rw [List.length_range] at this
    omega
  refine sd_cons (s1_set 3 (ed_listO (it_scale T) ok T.f_list (ed_var 0 rfl ⟨_, _, _, rfl, by rfl, by rw [List.length_map, G.len]; omega, ?_⟩)) ok.nd)
  refine sd_one (s1_ret (ed_lc 4 (fun i : Nat => .int i) (fun _ => true) (fun m : Nat => .int (at_ ns m)) ok ?_ rfl fun _ _ _ _ _ => pg_name (i := 4) ok.nd rfl (Or.inl rfl)))
  refine ed_call (fd_deals_of T) ok (ad_cons (ed_fld (ed_var 0 rfl ⟨A.scl, _, _, _, rfl, T.i_scl, T.n_scl_hands, by rfl, ?_⟩)))
  refine ad_cons (ed_var 1 rfl (ad_cons (ed_var 2 rfl (ad_nil ⟨h, nm, fm, rfl, G.h7, masks h nm fm, ?_, by omega, fun m hm s H C cl fp μ' hu => ⟨rfl, fun _ => ?_⟩, (fun _ h => nomatch h), ?_⟩))))
  · unfold zI
    show some _ = some _
    rw [List.map_map]; rfl
  · exact ed_ixL (ed_var 3 rfl (ed_var 4 rfl ⟨_, _, _, rfl, rfl, atI_int (by rw [G.len]; exact (mem_masks.mp hm).1), rfl, rfl⟩))
  · rw [List.filter_eq_self.mpr (fun _ _ => rfl)]
    have e : List.map (fun m : Nat => D.int (at_ ns m)) (masks h nm fm) = ((masks h nm fm).map (at_ ns)).map D.int := by rw [List.map_map]; rfl
    rw [e]
    exact q
def S_many_below : SpD := fun ds μ Q _ => ∃ (ns : List Int) (x : Int), ds = [lI ns, .int x] ∧ ns.length ≤ 900 ∧ Q (.int ((ns.filter fun n => decide (n < x)).length : Nat)) μ
theorem fd_many_below (T : Txt P K mg A) : Fd P w K mg base 1 "many_below" S_many_below := T.d_many_below.fd (ps := p_many_below) bd_many_below fun f fd F => fn_d F sc_many_below (fun ds μ Q ξ ⟨_, _, hd, _⟩ => by subst hd; rfl) fun cdv B outer s H E G0 ξ ok ds μ Q ⟨ns, x, hd, hl, q⟩ => by
  subst hd
  refine sd_one (s1_ret (ed_len T.f_len (ed_lc 2 D.int (fun n => decide (n < x)) D.int ok (ed_var 0 rfl ⟨ns, rfl, hl, fun m hm s H C cl fp μ' hu => ⟨td_lt (ed_var 2 rfl (ed_var 1 rfl ⟨_, _, rfl, rfl, rfl, rfl⟩)), fun _ => ed_var 2 rfl ⟨rfl, rfl⟩⟩, (fun _ h => nomatch h), _, rfl, ?_⟩)
    rfl fun _ _ _ _ _ => pg_name (i := 2) ok.nd rfl (Or.inl rfl))))
  rw [List.length_map]
  exact q
theorem below_cnt {ns : List Int} {x : Int} {l : List Nat} : ((l.map (at_ ns)).filter fun n => decide (n < x)).length = PM.cnt ns x l := by
  unfold PM.cnt
  rw [List.filter_map, List.length_map]; rfl
end
end DD
set_option Elab.async false
set_option linter.all false
set_option maxRecDepth 100000
set_option maxHeartbeats 4000000
/-! L0: name = [.. for ..]. -/
namespace DD
open PySem PySem.Spec PyProof.Rows L2
section
variable {Γ : Ctx} {e a b c o value : Expr} {es : List Expr} {st : Stmt} {sts u1 u2 body : List Stmt} {ρ : Rho} {μ : Mu} {Q : D → Mu → Prop} {R : Bool → Mu → Prop} {E : DE} {pos apos : Pos} {k j : Nat} {x f m : Str} {p : Pos} {S : SpD} {C : Addr}
theorem s1_setLc {α : Type} (i : Nat) {ifs : List Expr} {elt it : Expr} {scope : Scope} {pn py spos : Pos} {y : Str} (iy : Nat) (inj : α → D) (pp : α → Bool) (g : α → D) (ok : Γ.Ok k)
    (ha : ED Γ it ρ μ fun l μ1 => ∃ xs : List α, lstOf μ1 l = some (xs.map inj) ∧ xs.length ≤ 900 ∧ (∀ x ∈ xs, LcTurn Γ i ifs elt scope ρ μ1 (inj x) (pp x) (g x)) ∧ (∀ q, l = .ptr q → False) ∧ E.nx (ρ.set iy (some (.lst ((xs.filter pp).map g)))) μ1)
    (bo : blkC Γ.X.N Γ.X.env.scope scope [(x, i)] = true) (hgn : ∀ s H C cl fp, PG (Γ.X.blk s H scope (compEnvC scope cl C Γ.X.env) fp) (.Name x pn) (gName i)) (hy : Γ.X.N[iy]? = some y := by rfl) (hyl : Γ.X.env.scope.names.lookup y = some .local := by rfl)
    (hs : ∀ y, foldedSetIterable it Γ.X.env y = pure y := by intro _; rfl) (hsw : swapsWith (.ListComp elt [⟨.Name x pn, it, ifs, 0⟩] scope pos) (some (.Name y py)) spos.line Γ.X.env = pure true := by first | rfl | exact L2.sw_true rfl rfl rfl (by decide +kernel)) : S1 Γ (.Assign [.Name y py] (.ListComp elt [⟨.Name x pn, it, ifs, 0⟩] scope pos) spos) ρ μ E := by
  refine s1_of (ps_setLc (own := [(x, i)]) (g := gName i) ok.calm ok.nd hy hyl hsw (pi_list pe_w) (blkOk_by bo) hgn pts_u pe_u hs) fun σ H F0 z k0 => ?_
  have kk : KE (mns H μ) (fun d μ' => E.nx (ρ.set iy (some d)) μ') (fun x H1 => gName iy x σ H1 F0.nx) := fun v d μ' H' q i r e => k0.nx _ _ _ _ q ((z.env.mono e).set iy i) r e
  refine one ha z fun l u μ1 H1 ⟨xs, hl, hlen, turn, np, q⟩ iv r e => ?_
  obtain ⟨a, vs, h1, h2, h3⟩ := lst_at r iv hl
  have z1 : At Γ ρ μ1 σ H1 := z.go r e
  have ha1 : μ1 a = none := by
    cases l with
    | lst ys =>
      obtain ⟨a', vs', e1, e2, _⟩ := iv
      rw [e1] at h1
      cases h1
      exact (mns_at e2).1
    | ptr q0 => exact (np q0 rfl).elim
    | _ => cases hl
  refine ⟨a, h1, ⟨vs, SqL.of h2⟩, fun n hn => ?_⟩
  have hn1 := r.fresh hn
  have stay : ∀ {acc : List D} {H' : Hp}, LcInv μ1 (mns H1 μ1) n acc H' → H' a = some (.lst vs) := fun L => (mns_at (L.up _ _ ((mns_none ha1).trans h2))).2
  refine lc_list (K := Γ.X.K) (a := a) (xs := vs) (fun j H' => LcInv μ1 (mns H1 μ1) n (((xs.take j).filter pp).map g) H') ⟨rep_newM r hn ⟨[], rfl, rfl⟩, same_newM hn⟩ (fun j H' _ L => SqL.of (stay L)) (fun j v H' hj L => ?_) fun H' L => ?_
  · obtain ⟨d, hd, hv⟩ := h3.getV hj
    rw [List.getElem?_map] at hd
    obtain ⟨x0, hx0, hd0⟩ := Option.map_eq_some_iff.mp hd
    subst hd0
    refine ⟨wipe1 _ _ _, lc_step (turn x0 (List.mem_of_getElem? hx0)) z1 hn1 L (Nat.lt_of_le_of_lt (take_len pp g xs j) (by omega)) hv fun H2 L2 => ?_⟩
    rw [take_filter_map pp g xs hx0]
    exact L2
  · rw [h3.length, List.length_map, List.take_length] at L
    exact lc_end (Q := fun d μ' => E.nx (ρ.set iy (some d)) μ') (σ := σ) hn1 L (kk.up e) q
theorem s1_setLcT {α : Type} (i : Nat) {ifs : List Expr} {elt it : Expr} {scope : Scope} {pn py spos : Pos} {y : Str} (iy : Nat) (inj : α → D) (pp : α → Bool) (g : α → D) (ok : Γ.Ok k)
    (ha : ED Γ it ρ μ fun l μ1 => ∃ xs : List α, l = .tup (xs.map inj) ∧ xs.length ≤ 900 ∧ (∀ x ∈ xs, LcTurn Γ i ifs elt scope ρ μ1 (inj x) (pp x) (g x)) ∧ E.nx (ρ.set iy (some (.lst ((xs.filter pp).map g)))) μ1)
    (bo : blkC Γ.X.N Γ.X.env.scope scope [(x, i)] = true) (hgn : ∀ s H C cl fp, PG (Γ.X.blk s H scope (compEnvC scope cl C Γ.X.env) fp) (.Name x pn) (gName i)) (hy : Γ.X.N[iy]? = some y := by rfl) (hyl : Γ.X.env.scope.names.lookup y = some .local := by rfl)
    (hs : ∀ y, foldedSetIterable it Γ.X.env y = pure y := by intro _; rfl) (hsw : swapsWith (.ListComp elt [⟨.Name x pn, it, ifs, 0⟩] scope pos) (some (.Name y py)) spos.line Γ.X.env = pure true := by first | rfl | exact L2.sw_true rfl rfl rfl (by decide +kernel)) : S1 Γ (.Assign [.Name y py] (.ListComp elt [⟨.Name x pn, it, ifs, 0⟩] scope pos) spos) ρ μ E := by
  refine s1_of (ps_setLc (own := [(x, i)]) (g := gName i) ok.calm ok.nd hy hyl hsw (pi_tup pe_w) (blkOk_by bo) hgn pts_u pe_u hs) fun σ H F0 z k0 => ?_
  have kk : KE (mns H μ) (fun d μ' => E.nx (ρ.set iy (some d)) μ') (fun x H1 => gName iy x σ H1 F0.nx) := fun v d μ' H' q i r e => k0.nx _ _ _ _ q ((z.env.mono e).set iy i) r e
  refine one ha z fun l u μ1 H1 ⟨xs, hl, hlen, turn, q⟩ iv r e => ?_
  subst hl
  obtain ⟨a, vs, h1, h2, h3⟩ := iv
  have z1 : At Γ ρ μ1 σ H1 := z.go r e
  refine ⟨a, h1, ⟨vs, SqT.of (mns_at h2).2⟩, fun n hn => ?_⟩
  have hn1 := r.fresh hn
  have stay : ∀ {acc : List D} {H' : Hp}, LcInv μ1 (mns H1 μ1) n acc H' → H' a = some (.tup vs) := fun L => (mns_at (L.up _ _ h2)).2
  refine lc_tup (K := Γ.X.K) (a := a) (xs := vs) (fun j H' => LcInv μ1 (mns H1 μ1) n (((xs.take j).filter pp).map g) H') ⟨rep_newM r hn ⟨[], rfl, rfl⟩, same_newM hn⟩ (fun j H' _ L => SqT.of (stay L)) (fun j v H' hj L => ?_) fun H' L => ?_
  · obtain ⟨d, hd, hv⟩ := h3.getV hj
    rw [List.getElem?_map] at hd
    obtain ⟨x0, hx0, hd0⟩ := Option.map_eq_some_iff.mp hd
    subst hd0
    refine ⟨wipe1 _ _ _, lc_step (turn x0 (List.mem_of_getElem? hx0)) z1 hn1 L (Nat.lt_of_le_of_lt (take_len pp g xs j) (by omega)) hv fun H2 L2 => ?_⟩
    rw [take_filter_map pp g xs hx0]
    exact L2
  · rw [h3.length, List.length_map, List.take_length] at L
    exact lc_end (Q := fun d μ' => E.nx (ρ.set iy (some d)) μ') (σ := σ) hn1 L (kk.up e) q
theorem s1_setLcR (i : Nat) {ifs : List Expr} {elt ex : Expr} {scope : Scope} {pn p2 pos2 py spos : Pos} {y : Str} (iy : Nat) (pp : Nat → Bool) (g : Nat → D) (ok : Γ.Ok k) (hm : Γ.X.mg "range" = none)
    (ha : AD Γ [ex] ρ μ fun ds μ1 => ∃ n : Nat, ds = [.int n] ∧ n ≤ 900 ∧ (∀ x < n, LcTurn Γ i ifs elt scope ρ μ1 (.int (x : Nat)) (pp x) (g x)) ∧ E.nx (ρ.set iy (some (.lst (((List.range n).filter pp).map g)))) μ1)
    (bo : blkC Γ.X.N Γ.X.env.scope scope [(x, i)] = true) (hgn : ∀ s H C cl fp, PG (Γ.X.blk s H scope (compEnvC scope cl C Γ.X.env) fp) (.Name x pn) (gName i)) (hy : Γ.X.N[iy]? = some y := by rfl) (hyl : Γ.X.env.scope.names.lookup y = some .local := by rfl) (hg : Gl Γ.X "range" := by rfl)
    (hst : starEach [ex] Γ.X.env = [(false, eval ex Γ.X.env)] := by rfl)
    (hs : ∀ y, foldedSetIterable (.Call (.Name "range" p2) [ex] [] pos2) Γ.X.env y = pure y := by intro _; rfl) (hsw : swapsWith (.ListComp elt [⟨.Name x pn, .Call (.Name "range" p2) [ex] [] pos2, ifs, 0⟩] scope pos) (some (.Name y py)) spos.line Γ.X.env = pure true := by first | rfl | exact L2.sw_true rfl rfl rfl (by decide +kernel)) : S1 Γ (.Assign [.Name y py] (.ListComp elt [⟨.Name x pn, .Call (.Name "range" p2) [ex] [] pos2, ifs, 0⟩] scope pos) spos) ρ μ E := by
  refine s1_of (ps_setLc (own := [(x, i)]) (g := gName i) ok.calm ok.nd hy hyl hsw (pi_range1 hg hm pa_w hst) (blkOk_by bo) hgn pts_u pe_u hs) fun σ H F0 z k0 => ?_
  have kk : KE (mns H μ) (fun d μ' => E.nx (ρ.set iy (some d)) μ') (fun x H1 => gName iy x σ H1 F0.nx) := fun v d μ' H' q i r e => k0.nx _ _ _ _ q ((z.env.mono e).set iy i) r e
  refine ha σ H _ z fun vs ds μ1 H1 ⟨n, hd, hlen, turn, q⟩ iv r e => ?_
  subst hd
  obtain ⟨v, hv1, hv2⟩ := vals1D iv
  have hv3 : v = .int (n : Int) := hv2
  subst hv3
  have z1 : At Γ ρ μ1 σ H1 := z.go r e
  refine ⟨(n : Int), hv1, by omega, by omega, fun m hm => ?_⟩
  have hn1 := r.fresh hm
  refine lc_range (lo := 0) (n := n) (fun j H' => LcInv μ1 (mns H1 μ1) m ((((List.range n).take j).filter pp).map g) H') ⟨rep_newM r hm ⟨[], rfl, rfl⟩, same_newM hm⟩ (fun j H' hj L => ?_) fun H' L => ?_
  · have hx0 : (List.range n)[j]? = some j := by rw [List.getElem?_range hj]
    have hv : Is (mns H1 μ1) (.int (j : Nat)) (.int (0 + (j : Nat))) := by rw [Int.zero_add]; rfl
    refine ⟨wipe1 _ _ _, lc_step (turn j hj) z1 hn1 L (Nat.lt_of_le_of_lt (take_len pp g (List.range n) j) (by rw [List.length_range]; omega)) hv fun H2 L2 => ?_⟩
    rw [take_filter_map pp g _ hx0]
    exact L2
  · rw [List.take_of_length_le (by rw [List.length_range]; exact Nat.le_refl _)] at L
    exact lc_end (Q := fun d μ' => E.nx (ρ.set iy (some d)) μ') (σ := σ) hn1 L (kk.up e) q

end
end DD
set_option Elab.async false
set_option linter.all false
set_option maxRecDepth 100000
set_option maxHeartbeats 4000000
/-! E6: stands, purses. -/
namespace DD
open PySem PySem.Spec PyProof.Rows L2 PM
section
variable {P : Program} {w : World} {K : PySem.W.Frag} {mg : Str → Option Value} {base : Heap} {A : Ad}
/-- lists at a stand -/
structure Lists (h : Nat) (nl fl free : List Nat) : Prop where
  part : Part h nl fl free
  h1 : 1 ≤ h
  h6 : h ≤ 6
  sn : nl.Pairwise (· < ·)
  sf : fl.Pairwise (· < ·)
  sr : free.Pairwise (· < ·)
def S_check_stand (A : Ad) : SpD := fun ds μ Q _ => ∃ (h : Nat) (ns : List Int) (dn df : D) (nl fl nl' fl' free : List Nat), ds = [scl A h ns, dn, df] ∧ SeqI dn (zI nl) ∧ SeqI df (zI fl) ∧ Lists h nl' fl' free ∧ nl.Perm nl' ∧ fl.Perm fl' ∧ Q (.tup [.int (bs nl'), .int (bs fl')]) μ
theorem fd_check_stand (T : Txt P K mg A) : Fd P w K mg base 5 "check_stand" (S_check_stand A) := T.d_check_stand.fd (ps := p_check_stand) bd_check_stand fun f fd F => fn_d F sc_check_stand (fun ds μ Q ξ ⟨_, _, _, _, _, _, _, _, _, hd, _⟩ => by subst hd; rfl) fun cdv B outer s H E G0 ξ ok ds μ Q ⟨h, ns, dn, df, nl, fl, nl', fl', free, hd, s1, s2, L, pn, pf, q⟩ => by
  subst hd
  have p := L.part.congr pn pf
  have ndn := p.ndn
  have hn : ∀ i ∈ nl, i < h := fun i hi => p.mem.mp (.inr (.inl hi))
  have hf : ∀ i ∈ fl, i < h := fun i hi => p.mem.mp (.inr (.inr hi))
  have h1 := L.h1
  have h6 := L.h6
  rw [← bs_perm pn, ← bs_perm pf] at q
  refine sd_cons (s1_expr (ed_call (fd_check_hands T) ok (ad_cons (ed_fld (ed_var 0 rfl ⟨A.scl, _, _, _, rfl, T.i_scl, T.n_scl_hands, by rfl, ad_cons (ed_globI T.g_MOST_HIRED (ad_nil ⟨_, _, rfl, fun _ => ?_, fun z => absurd ⟨by omega, by omega⟩ z⟩))⟩)))))
  refine sd_cons (s1_set 3 (ed_call (fd_mask_of T) ok (ad_cons (ed_fld (ed_var 0 rfl ⟨A.scl, _, _, _, rfl, T.i_scl, T.n_scl_hands, by rfl, ad_cons (ed_var 1 rfl (ad_nil ⟨h, dn, nl, rfl, s1, ndn.1, hn, by omega, ?_⟩))⟩)))) ok.nd)
  refine sd_cons (s1_set 4 (ed_call (fd_mask_of T) ok (ad_cons (ed_fld (ed_var 0 rfl ⟨A.scl, _, _, _, rfl, T.i_scl, T.n_scl_hands, by rfl, ad_cons (ed_var 2 rfl (ad_nil ⟨h, df, fl, rfl, s2, ndn.2.1, hf, by omega, ?_⟩))⟩)))) ok.nd)
  refine sd_cons (s1_forQ 2 5 (fun j ρ' μ' => ∃ x, ρ' = [some (scl A h ns), some dn, some df, some (.int (bs nl)), some (.int (bs fl)), x] ∧ μ' = μ) ok rfl s2 ⟨_, rfl, rfl⟩ (fun j d' ρ' μ' hj ⟨x3, hρ, hμ⟩ => ?_) fun ρ' μ' ⟨x3, hρ, hμ⟩ => ?_)
  · obtain ⟨i, hi, hd'⟩ := zI_get hj
    subst hρ hd'
    subst μ'
    have him := List.mem_of_getElem? hi
    have hb : Nat.testBit (bs nl) i = false := by
      rw [p.bits.1]
      exact decide_eq_false fun z => ndn.2.2.2.1 i z him
    refine sd_one (s1_if (td_val (ed_call (fd_has_hand T) ok (ad_cons (ed_var 3 rfl (ad_cons (ed_var 5 rfl (ad_nil ⟨_, i, rfl, _, rfl, if_f hb (sd_nil ⟨_, rfl, rfl⟩)⟩))))))))
  · subst hρ
    subst μ'
    exact sd_one (s1_ret (ed_tup (ad_cons (ed_var 3 rfl (ad_cons (ed_var 4 rfl (ad_nil ⟨by simp, q⟩)))))))
def S_check_side : SpD := fun ds μ Q _ => ∃ s : Str, ds = [.str s] ∧ (s = "near" ∨ s = "far") ∧ Q .non μ
theorem far_near : decide (V.str ("far" : Str) = V.str ("near" : Str)) = false := by decide +kernel
theorem near_far : decide (V.str ("near" : Str) = V.str ("far" : Str)) = false := by decide +kernel
theorem fd_check_side (T : Txt P K mg A) : Fd P w K mg base 1 "check_side" S_check_side := T.d_check_side.fd (ps := p_check_side) bd_check_side fun f fd F => fn_d F sc_check_side (fun ds μ Q ξ ⟨_, hd, _⟩ => by subst hd; rfl) fun cdv B outer s H E G0 ξ ok ds μ Q ⟨x, hd, hx, q⟩ => by
  subst hd
  refine sd_one (s1_if (td_and (td_ne (ed_var 0 rfl (ed_globS T.g_NEAR ⟨_, _, rfl, rfl, rfl, ?_⟩)))))
  rcases hx with hx | hx
  · subst hx
    rw [decide_eq_true rfl]
    exact if_f rfl (if_f rfl (sd_nil q))
  · subst hx
    rw [far_near]
    refine if_t rfl (td_ne (ed_var 0 rfl (ed_globS T.g_FAR ⟨_, _, rfl, rfl, rfl, ?_⟩)))
    rw [decide_eq_true rfl]
    exact if_f rfl (sd_nil q)
def S_free_hands : SpD := fun ds μ Q _ => ∃ (h : Nat) (nl fl free : List Nat), ds = [.int h, .int (bs nl), .int (bs fl)] ∧ Part h nl fl free ∧ free.Pairwise (· < ·) ∧ Q (tI (zI free)) μ
theorem fd_free_hands (T : Txt P K mg A) : Fd P w K mg base 3 "free_hands" S_free_hands := T.d_free_hands.fd (ps := p_free_hands) bd_free_hands fun f fd F => fn_d F sc_free_hands (fun ds μ Q ξ ⟨_, _, _, _, hd, _⟩ => by subst hd; rfl) fun cdv B outer s H E G0 ξ ok ds μ Q ⟨h, nl, fl, free, hd, p, sr, q⟩ => by
  subst hd
  have h7 := p.h7
  refine sd_one (s1_ret (ed_call (fd_tuple_of T) ok (ad_cons (ed_call (fd_rest_mask T) ok (ad_cons (ed_var 0 rfl (ad_cons (ed_add (ed_var 1 rfl (ed_var 2 rfl ⟨_, _, rfl, rfl, ad_nil ⟨h, _, rfl, by omega, ad_nil ⟨free, ?_, sr, p.sub.2.2, q⟩⟩⟩))))))))))
  have e := p.rest
  have : ((2 ^ h : Nat) : Int) - 1 - ((bs nl : Int) + (bs fl : Int)) = (bs free : Int) := by
    have := Nat.two_pow_pos h
    omega
  rw [this]
def S_some_free : SpD := fun ds μ Q _ => ∃ (h : Nat) (nl fl free : List Nat), ds = [.int h, .int (bs nl), .int (bs fl)] ∧ Part h nl fl free ∧ free.Pairwise (· < ·) ∧ free ≠ [] ∧ Q .non μ
theorem len0 {l : List Nat} (h : l ≠ []) : decide (((((zI l).map D.int).length : Nat) : Int) = 0) = false := by
  rw [zI_len]
  have : l.length ≠ 0 := fun z => h (List.length_eq_zero_iff.mp z)
  exact decide_eq_false (by omega)
theorem fd_check_some_free (T : Txt P K mg A) : Fd P w K mg base 4 "check_some_free" S_some_free := T.d_check_some_free.fd (ps := p_check_some_free) bd_check_some_free fun f fd F => fn_d F sc_check_some_free (fun ds μ Q ξ ⟨_, _, _, _, hd, _⟩ => by subst hd; rfl) fun cdv B outer s H E G0 ξ ok ds μ Q ⟨h, nl, fl, free, hd, p, sr, ne, q⟩ => by
  subst hd
  exact sd_one (s1_if (td_eqI (ed_len T.f_len (ed_call (fd_free_hands T) ok (ad_cons (ed_var 0 rfl (ad_cons (ed_var 1 rfl (ad_cons (ed_var 2 rfl (ad_nil ⟨h, nl, fl, free, rfl, p, sr, _, rfl, ed_int ⟨_, _, rfl, rfl, if_f (len0 ne) (sd_nil q)⟩⟩)))))))))))
def S_free_hand (A : Ad) : SpD := fun ds μ Q ξ => ∃ (h : Nat) (nl fl free : List Nat) (g : Int), ds = [.int h, .int (bs nl), .int (bs fl), .int g] ∧ Part h nl fl free ∧ (¬ (0 ≤ g ∧ g < h) → ξ A.unk ["hand"] [.int g] μ) ∧
  (∀ i : Nat, g = i → i < h → i ∉ free → ξ A.tak ["hand"] [.int g] μ) ∧ (∀ i : Nat, g = i → i ∈ free → Q .non μ)
theorem fd_check_free_hand (T : Txt P K mg A) : Fd P w K mg base 4 "check_free_hand" (S_free_hand A) := T.d_check_free_hand.fd (ps := p_check_free_hand) bd_check_free_hand fun f fd F => fn_dx F sc_check_free_hand (fun ds μ Q ξ ⟨_, _, _, _, _, hd, _⟩ => by subst hd; rfl) fun cdv B outer s H E G0 ξ ok tk hs ds μ Q ⟨h, nl, fl, free, g, hd, p, q1, q2, q3⟩ => by
  subst hd
  refine sd_cons (s1_expr (ed_call (fd_check_hand T) ok (ad_cons (ed_var 0 rfl (ad_cons (ed_var 3 rfl (ad_nil ⟨_, g, rfl, fun hg => ?_, q1⟩)))))))
  obtain ⟨i, hi⟩ : ∃ i : Nat, g = i := ⟨g.toNat, by omega⟩
  subst hi
  have hih : i < h := by omega
  have e : (bs nl : Int) + (bs fl : Int) = ((bs (nl ++ fl) : Nat) : Int) := by rw [bs_append]; push_cast; rfl
  have nd2 : (nl ++ fl).Nodup := (List.nodup_append.mp p.nd).2.1
  have hb := bs_bit nd2 (fun i hi => by
    rcases List.mem_append.mp hi with z | z
    · exact p.sub.1 i z
    · exact p.sub.2.1 i z) i
  refine sd_one (s1_if (td_val (ed_call (fd_has_hand T) ok (ad_cons (ed_add (ed_var 1 rfl (ed_var 2 rfl ⟨_, _, rfl, rfl, ad_cons (ed_var 3 rfl (ad_nil ⟨bs (nl ++ fl), i, by rw [e], _, rfl, ?_⟩))⟩)))))))
  rw [hb]
  by_cases c : i ∈ free
  · have : i ∉ nl ++ fl := fun z => by
      rcases List.mem_append.mp z with z | z
      · exact (p.ndn.2.2.2.2 i c).1 z
      · exact (p.ndn.2.2.2.2 i c).2 z
    exact if_f (decide_eq_false this) (sd_nil (q3 i rfl c))
  · have : i ∈ nl ++ fl := by
      rcases p.mem.mpr hih with z | z | z
      · exact absurd z c
      · exact List.mem_append_left _ z
      · exact List.mem_append_right _ z
    exact if_t (decide_eq_true this) (sd_one (s1_raiseD (xi_hand T T.x_tak) ok tk (ed_var 3 rfl (q2 i rfl hih c))))
/-! ### purses -/
theorem masks_le {h a b : Nat} (h7 : h ≤ 7) : (masks h a b).length ≤ 128 := by
  have : (masks h a b).length ≤ (List.range (2 ^ h)).length := List.length_filter_le _ _
  rw [List.length_range] at this
  have := pow_le7 h7
  omega
def S_least_share (A : Ad) : SpD := fun ds μ Q _ => ∃ (h : Nat) (ns : List Int) (dn df : D) (nl fl free : List Nat) (x : Int), ds = [scl A h ns, dn, df, .int x] ∧ Good h ns ∧ SeqI dn (zI nl) ∧ SeqI df (zI fl) ∧ Lists h nl fl free ∧ (-1000000000 ≤ x ∧ x ≤ 1000000000) ∧
  Q (rat A (rt (many h ns x nl fl) (2 ^ free.length : Nat)) (rb (many h ns x nl fl) (2 ^ free.length : Nat))) μ
theorem fd_least_share (T : Txt P K mg A) : Fd P w K mg base 6 "least_share" (S_least_share A) := T.d_least_share.fd (ps := p_least_share) bd_least_share fun f fd F => fn_d F sc_least_share (fun ds μ Q ξ ⟨_, _, _, _, _, _, _, _, hd, _⟩ => by subst hd; rfl) fun cdv B outer s H E G0 ξ ok ds μ Q ⟨h, ns, dn, df, nl, fl, free, x, hd, G, s1, s2, L, hx, q⟩ => by
  subst hd
  have ml := masks_le (a := bs nl) (b := bs fl) L.part.h7
  refine sd_cons (s1_two (i1 := 4) (i2 := 5) ok (ed_call (fd_check_stand T) ok (ad_cons (ed_var 0 rfl (ad_cons (ed_var 1 rfl (ad_cons (ed_var 2 rfl (ad_nil ⟨h, ns, dn, df, nl, fl, nl, fl, free, rfl, s1, s2, L, .refl _, .refl _, _, _, rfl, ?_⟩)))))))))
  refine sd_cons (s1_expr (ed_call (fd_check_number T) ok (ad_cons (ed_var 3 rfl (ad_cons (ed_neg (ed_globI T.g_MOST_NUMBER ⟨_, rfl, ad_cons (ed_globI T.g_MOST_NUMBER (ad_nil ⟨_, _, _, rfl, hx.1, hx.2, ?_⟩))⟩)))))))
  refine sd_cons (s1_set 6 (ed_call (fd_deal_numbers T) ok (ad_cons (ed_var 0 rfl (ad_cons (ed_var 4 rfl (ad_cons (ed_var 5 rfl (ad_nil ⟨h, ns, _, _, rfl, G, ?_⟩)))))))) ok.nd)
  refine sd_one (s1_ret (ed_call (fd_exact T) ok (ad_cons (ed_call (fd_many_below T) ok (ad_cons (ed_var 6 rfl (ad_cons (ed_var 3 rfl (ad_nil ⟨_, x, rfl, by rw [List.length_map]; omega, ad_cons (ed_len T.f_len (ed_var 6 rfl ⟨_, rfl, ad_nil ⟨_, _, rfl, ?_, ?_, ?_⟩⟩))⟩)))))))))
  · rw [List.length_map, List.length_map, masks_length L.part]; exact_mod_cast Nat.two_pow_pos _
  · rw [List.length_map, List.length_map, masks_length L.part, Int.natAbs_natCast]
    rw [masks_length L.part] at ml
    exact Nat.lt_of_le_of_lt ml (Nat.lt_of_lt_of_le (show 128 < 2 ^ 8 by decide) (Nat.pow_le_pow_right (by omega) (by omega)))
  · rw [List.length_map, List.length_map, masks_length L.part, below_cnt]
    exact q
end
theorem lt_red {a b c d : Int} (hb : 0 < b) (hd : 0 < d) : (rt a b * rb c d < rt c d * rb a b) ↔ a * d < c * b := by
  have g1 := g_pos (t := a) hb
  have g2 := g_pos (t := c) hd
  have e1 : a * d = rt a b * rb c d * ((Int.gcd a b : Int) * (Int.gcd c d : Int)) := by
    calc a * d = (rt a b * (Int.gcd a b : Int)) * (rb c d * (Int.gcd c d : Int)) := by rw [rt_mul, rb_mul]
      _ = _ := by simp only [Int.mul_assoc, Int.mul_comm, Int.mul_left_comm]
  have e2 : c * b = rt c d * rb a b * ((Int.gcd a b : Int) * (Int.gcd c d : Int)) := by
    calc c * b = (rt c d * (Int.gcd c d : Int)) * (rb a b * (Int.gcd a b : Int)) := by rw [rt_mul, rb_mul]
      _ = _ := by simp only [Int.mul_assoc, Int.mul_comm, Int.mul_left_comm]
  have gp := Int.mul_pos g1 g2
  rw [e1, e2]
  exact ⟨fun h => Int.mul_lt_mul_of_pos_right h gp, fun h => Int.lt_of_mul_lt_mul_right h (by omega)⟩
theorem exists_min : ∀ {l : List Int}, l ≠ [] → ∃ m ∈ l, ∀ y ∈ l, m ≤ y
  | [], h => absurd rfl h
  | [a], _ => ⟨a, by simp, fun y hy => by simp at hy; omega⟩
  | a :: b :: l, _ => by
    obtain ⟨m, h1, h2⟩ := exists_min (l := b :: l) (by simp)
    by_cases c : a ≤ m
    · exact ⟨a, by simp, fun y hy => by
        rcases List.mem_cons.mp hy with e | e
        · omega
        · have := h2 y e; omega⟩
    · exact ⟨m, List.mem_cons_of_mem _ h1, fun y hy => by
        rcases List.mem_cons.mp hy with e | e
        · omega
        · exact h2 y e⟩
section
variable {P : Program} {w : World} {K : PySem.W.Frag} {mg : Str → Option Value} {base : Heap} {A : Ad}
def S_purse_lead (A : Ad) : SpD := fun ds μ Q _ => ∃ (h : Nat) (ns : List Int) (dn df d : D) (nl fl free : List Nat) (st sb : Int), ds = [scl A h ns, dn, df, d] ∧ Good h ns ∧ SeqI dn (zI nl) ∧ SeqI df (zI fl) ∧ Lists h nl fl free ∧ isF A d st sb ∧ (0 ≤ st ∧ st ≤ sb ∧ 0 < sb ∧ sb ≤ 1000000) ∧
  ∀ n, (∃ c ∈ masks h (bs nl) (bs fl), at_ ns c = n) → ¬ st * ((masks h (bs nl) (bs fl)).length : Nat) < (PM.cnt ns n (masks h (bs nl) (bs fl)) : Int) * sb → Q (.int n) μ
theorem fd_purse_lead (T : Txt P K mg A) : Fd P w K mg base 6 "purse_lead" (S_purse_lead A) := T.d_purse_lead.fd (ps := p_purse_lead) bd_purse_lead fun f fd F => fn_d F sc_purse_lead (fun ds μ Q ξ ⟨_, _, _, _, _, _, _, _, _, _, hd, _⟩ => by subst hd; rfl) fun cdv B outer s H E G0 ξ ok ds μ Q ⟨h, ns, dn, df, d, nl, fl, free, st, sb, hd, G, s1, s2, L, hf, ⟨c1, c2, c3, c4⟩, q⟩ => by
  subst hd
  have ml := masks_le (a := bs nl) (b := bs fl) L.part.h7
  have mp : 0 < (masks h (bs nl) (bs fl)).length := by rw [masks_length L.part]; exact Nat.two_pow_pos _
  have big : (1000000 : Int) ≤ 10 ^ 200 := by decide
  have nn : -(10 ^ 200 : Int) ≤ 0 := by decide
  have sm : ∀ x : Int, 0 ≤ x → x ≤ 1000000 → Sm x := fun x h1 h2 => sm_of ⟨by omega, by omega⟩
  refine sd_cons (s1_two (i1 := 4) (i2 := 5) ok (ed_call (fd_check_stand T) ok (ad_cons (ed_var 0 rfl (ad_cons (ed_var 1 rfl (ad_cons (ed_var 2 rfl (ad_nil ⟨h, ns, dn, df, nl, fl, nl, fl, free, rfl, s1, s2, L, .refl _, .refl _, _, _, rfl, ?_⟩)))))))))
  refine sd_cons (s1_set 6 (ed_call (fd_taken T) ok (ad_cons (ed_var 3 rfl (ad_cons (ed_int (ad_cons (ed_int (ad_nil ⟨d, _, _, st, sb, 0, 1, 1, 1, rfl, hf, .inl ⟨rfl, rfl⟩, .inl ⟨rfl, rfl⟩, ⟨sm _ c1 (by omega), sm _ (by omega) c4, sm _ (by omega) (by omega), sm _ (by omega) (by omega), sm _ (by omega) (by omega), sm _ (by omega) (by omega)⟩, c3, fun _ _ _ => ?_, fun z => by omega⟩)))))))) ok.nd)
  refine sd_cons (s1_set 7 (ed_call (fd_deal_numbers T) ok (ad_cons (ed_var 0 rfl (ad_cons (ed_var 4 rfl (ad_cons (ed_var 5 rfl (ad_nil ⟨h, ns, _, _, rfl, G, ?_⟩)))))))) ok.nd)
  generalize hm : masks h (bs nl) (bs fl) = ms at *
  refine sd_cons (s1_setLc 9 8 D.int (fun n => !decide (st * (ms.length : Nat) < (PM.cnt ns n ms : Int) * sb)) D.int ok ?_ rfl fun _ _ _ _ _ => pg_name (i := 9) ok.nd rfl (Or.inl rfl))
  refine ed_var 7 rfl ⟨ms.map (at_ ns), rfl, by rw [List.length_map]; omega, fun n hn s H C cl fp μ' hu => ⟨?_, fun _ => ed_var 9 rfl ⟨rfl, rfl⟩⟩, (fun _ h => nomatch h), ?_⟩
  · have cl' : PM.cnt ns n ms ≤ ms.length := cnt_le
    have lp : (0 : Int) < ((ms.length : Nat) : Int) := by omega
    refine td_not (td_val (ed_meth (md_below T) ok.blk (ed_var 6 rfl ⟨_, _, rfl, by decide +kernel, ?_⟩)))
    refine ad_cons (ed_call (fd_exact T) ok.blk (ad_cons (ed_call (fd_many_below T) ok.blk (ad_cons (ed_var 7 rfl (ad_cons (ed_var 9 rfl (ad_nil ⟨_, n, rfl, by rw [List.length_map]; omega, ad_cons (ed_len T.f_len (ed_var 7 rfl ⟨_, rfl, ad_nil ⟨_, _, rfl, ?_, ?_, ad_nil ⟨_, _, _, _, _, rfl, .inr rfl, ⟨sm_rt (sm _ c1 (by omega)), sm_rb c3 (sm _ (by omega) c4), sm_rt (sm _ (by omega) ?_), sm_rb ?_ (sm _ (by omega) ?_)⟩, _, rfl, rfl, ?_⟩⟩⟩))⟩))))))))
    · rw [List.length_map, List.length_map]; exact lp
    · rw [List.length_map, List.length_map, Int.natAbs_natCast]
      exact Nat.lt_of_le_of_lt ml (Nat.lt_of_lt_of_le (show 128 < 2 ^ 8 by decide) (Nat.pow_le_pow_right (by omega) (by omega)))
    · rw [below_cnt]; omega
    · rw [List.length_map, List.length_map]; exact lp
    · rw [List.length_map, List.length_map]; omega
    · rw [List.length_map, List.length_map, below_cnt]
      congr 1
      rw [decide_eq_decide]
      exact lt_red c3 lp
  · refine sd_one (s1_ret (ed_max ok.calm T.f_max (ed_var 8 rfl ⟨_, rfl, ?_, fun m hm' _ => ?_⟩)))
    · obtain ⟨m, h1, h2⟩ := exists_min (l := ms.map (at_ ns)) (fun z => by rw [List.map_eq_nil_iff] at z; rw [z] at mp; simp at mp)
      refine List.length_pos_of_mem (a := m) (List.mem_filter.mpr ⟨h1, ?_⟩)
      have : PM.cnt ns m ms = 0 := lead_ok fun c hc => h2 _ (List.mem_map_of_mem hc)
      rw [this]
      have : 0 ≤ st * ((ms.length : Nat) : Int) := Int.mul_nonneg c1 (by omega)
      simp
      omega
    · obtain ⟨h1, h2⟩ := List.mem_filter.mp hm'
      obtain ⟨c, h3, h4⟩ := List.mem_map.mp h1
      exact q m ⟨c, h3, h4⟩ (by simpa using h2)
end
end DD
set_option Elab.async false
set_option linter.all false
set_option maxRecDepth 100000
set_option maxHeartbeats 4000000
/-! E7: told_bid; the auction's class. -/
namespace DD
open PySem PySem.Spec PyProof.Rows L2 PM
/-- x stands first at the place j of the list -/
def FirstAt (l : List Int) (x : Int) (j : Nat) : Prop := l[j]? = some x ∧ ∀ m z, m < j → l[m]? = some z → z ≠ x
theorem FirstAt.uniq {l : List Int} {x : Int} {i j : Nat} (h : FirstAt l x i) (k : FirstAt l x j) : i = j := by
  rcases Nat.lt_trichotomy i j with c | c | c
  · exact absurd rfl (k.2 i x c h.1)
  · exact c
  · exact absurd rfl (h.2 j x c k.1)
theorem first_of : ∀ {l : List Int} {x : Int}, x ∈ l → ∃ j, FirstAt l x j
  | a :: l, x, h => by
    by_cases c : a = x
    · exact ⟨0, by simp [c], fun m z hm => by omega⟩
    · have : x ∈ l := by
        rcases List.mem_cons.mp h with e | e
        · exact absurd e.symm c
        · exact e
      obtain ⟨j, h1, h2⟩ := first_of this
      refine ⟨j + 1, by simpa using h1, fun m z hm hz => ?_⟩
      cases m with
      | zero => simp at hz; subst hz; exact c
      | succ m => exact h2 m z (by omega) (by simpa using hz)
abbrev hiredL (h : Nat) (ns : List Int) (x : Int) (nl fl free : List Nat) : List Int := free.map fun g => (hired h ns x nl fl g : Int)
abbrev lostL (h : Nat) (ns : List Int) (x : Int) (nl fl free : List Nat) : List Int := free.map fun g => (lost h ns x nl fl g : Int)
/-- the greatest loss and its hand, the least hire and its hand -/
structure Best (h : Nat) (ns : List Int) (x : Int) (nl fl free : List Nat) (L m : Int) (gL gm : Nat) : Prop where
  hL : L ∈ lostL h ns x nl fl free
  hL2 : ∀ y ∈ lostL h ns x nl fl free, y ≤ L
  hm : m ∈ hiredL h ns x nl fl free
  hm2 : ∀ y ∈ hiredL h ns x nl fl free, m ≤ y
  jL : ∃ j, FirstAt (lostL h ns x nl fl free) L j ∧ free[j]? = some gL
  jm : ∃ j, FirstAt (hiredL h ns x nl fl free) m j ∧ free[j]? = some gm
theorem Best.uniq {h : Nat} {ns : List Int} {x : Int} {nl fl free : List Nat} {L m L' m' : Int} {gL gm gL' gm' : Nat} (b : Best h ns x nl fl free L m gL gm) (b' : Best h ns x nl fl free L' m' gL' gm') : L = L' ∧ m = m' ∧ gL = gL' ∧ gm = gm' := by
  have e1 : L = L' := Int.le_antisymm (b'.hL2 _ b.hL) (b.hL2 _ b'.hL)
  have e2 : m = m' := Int.le_antisymm (b.hm2 _ b'.hm) (b'.hm2 _ b.hm)
  subst e1 e2
  obtain ⟨j1, f1, g1⟩ := b.jL
  obtain ⟨j2, f2, g2⟩ := b'.jL
  obtain ⟨j3, f3, g3⟩ := b.jm
  obtain ⟨j4, f4, g4⟩ := b'.jm
  have a := f1.uniq f2
  have a' := f3.uniq f4
  subst a a'
  rw [g1] at g2
  rw [g3] at g4
  exact ⟨rfl, rfl, Option.some.inj g2, Option.some.inj g4⟩
theorem Best.memL {h : Nat} {ns : List Int} {x : Int} {nl fl free : List Nat} {L m : Int} {gL gm : Nat} (b : Best h ns x nl fl free L m gL gm) : gL ∈ free ∧ (lost h ns x nl fl gL : Int) = L := by
  obtain ⟨j, ⟨f1, _⟩, g1⟩ := b.jL
  refine ⟨List.mem_of_getElem? g1, ?_⟩
  rw [List.getElem?_map, g1] at f1
  exact Option.some.inj f1
theorem Best.peak {h : Nat} {ns : List Int} {x : Int} {nl fl free : List Nat} {L m : Int} {gL gm : Nat} (b : Best h ns x nl fl free L m gL gm) (G : Good h ns) (p : Part h nl fl free) : Peak h ns x nl fl free L m := by
  refine peak_of G p ?_ (fun g hg => b.hL2 _ (List.mem_map_of_mem hg)) ?_ (fun g hg => b.hm2 _ (List.mem_map_of_mem hg))
  · obtain ⟨g, h1, h2⟩ := List.mem_map.mp b.hL; exact ⟨g, h1, h2⟩
  · obtain ⟨g, h1, h2⟩ := List.mem_map.mp b.hm; exact ⟨g, h1, h2⟩
section
variable {P : Program} {w : World} {K : PySem.W.Frag} {mg : Str → Option Value} {base : Heap} {A : Ad}
def S_told_bid (A : Ad) : SpD := fun ds μ Q _ => ∃ (h : Nat) (ns : List Int) (dn df : D) (nl fl nl' fl' free : List Nat) (x : Int) (sd : Str), ds = [scl A h ns, dn, df, .int x, .str sd] ∧ Good h ns ∧ SeqI dn (zI nl') ∧ SeqI df (zI fl') ∧ Lists h nl fl free ∧ nl'.Perm nl ∧ fl'.Perm fl ∧ (-1000000000 ≤ x ∧ x ≤ 1000000000) ∧ free ≠ [] ∧ (sd = "near" ∨ sd = "far") ∧
  ∀ L m gL gm, Best h ns x nl fl free L m gL gm → Q (.tup [.int (if sd = "near" then gm else gL : Nat), rat A (rt (L - m) (2 ^ free.length : Nat)) (rb (L - m) (2 ^ free.length : Nat))]) μ
theorem or_bs {h g : Nat} {nl fl free : List Nat} (p : Part h nl fl free) (hg : g ∈ free) : bs nl ||| 2 ^ g = bs (nl ++ [g]) ∧ bs fl ||| 2 ^ g = bs (fl ++ [g]) := by
  have g7 := p.sub.2.2 g hg
  have d := p.ndn.2.2.2.2 g hg
  constructor
  · rw [← bit_in _ (bs_lt p.ndn.1 p.sub.1) g g7 (by rw [p.bits.1]; exact decide_eq_false d.1), bs_append]; simp [bs]
  · rw [← bit_in _ (bs_lt p.ndn.2.1 p.sub.2.1) g g7 (by rw [p.bits.2]; exact decide_eq_false d.2), bs_append]; simp [bs]
theorem map_int {α : Type} {f : α → Nat} {l : List α} : (l.map fun i => D.int (f i : Int)) = (l.map fun i => (f i : Int)).map D.int := by rw [List.map_map]; rfl
theorem fd_told_bid (T : Txt P K mg A) : Fd P w K mg base 6 "told_bid" (S_told_bid A) := T.d_told_bid.fd (ps := p_told_bid) bd_told_bid fun f fd F => fn_d F sc_told_bid (fun ds μ Q ξ ⟨_, _, _, _, _, _, _, _, _, _, _, hd, _⟩ => by subst hd; rfl) fun cdv B outer s H E G0 ξ ok ds μ Q ⟨h, ns, dn, df, nl, fl, nl', fl', free, x, sd, hd, G, s1, s2, L, pn, pf, hx, hne, hsd, q⟩ => by
  subst hd
  have p := L.part
  have h1 := L.h1
  have h6 := L.h6
  have fl0 : 0 < free.length := List.length_pos_iff.mpr hne
  have fl7 : free.length ≤ 7 := by
    have e := p.perm.length_eq
    rw [List.length_append, List.length_range] at e
    omega
  have p7 := pow_le7 fl7
  have hpz : (0 : Int) < ((2 ^ free.length : Nat) : Int) := by exact_mod_cast Nat.two_pow_pos _
  have cb : ∀ nl fl, (masks h nl fl).length ≤ 128 := fun nl fl => masks_le p.h7
  refine sd_cons (s1_two (i1 := 5) (i2 := 6) ok (ed_call (fd_check_stand T) ok (ad_cons (ed_var 0 rfl (ad_cons (ed_var 1 rfl (ad_cons (ed_var 2 rfl (ad_nil ⟨h, ns, dn, df, nl', fl', nl, fl, free, rfl, s1, s2, L, pn, pf, _, _, rfl, ?_⟩)))))))))
  refine sd_cons (s1_expr (ed_call (fd_check_number T) ok (ad_cons (ed_var 3 rfl (ad_cons (ed_neg (ed_globI T.g_MOST_NUMBER ⟨_, rfl, ad_cons (ed_globI T.g_MOST_NUMBER (ad_nil ⟨_, _, _, rfl, hx.1, hx.2, ?_⟩))⟩)))))))
  refine sd_cons (s1_expr (ed_call (fd_check_side T) ok (ad_cons (ed_var 4 rfl (ad_nil ⟨sd, rfl, hsd, ?_⟩)))))
  refine sd_cons (s1_expr (ed_call (fd_check_some_free T) ok (ad_cons (ed_fld (ed_var 0 rfl ⟨A.scl, _, _, _, rfl, T.i_scl, T.n_scl_hands, by rfl, ad_cons (ed_var 5 rfl (ad_cons (ed_var 6 rfl (ad_nil ⟨h, nl, fl, free, rfl, p, L.sr, hne, ?_⟩))))⟩)))))
  refine sd_cons (s1_set 7 (ed_call (fd_free_hands T) ok (ad_cons (ed_fld (ed_var 0 rfl ⟨A.scl, _, _, _, rfl, T.i_scl, T.n_scl_hands, by rfl, ad_cons (ed_var 5 rfl (ad_cons (ed_var 6 rfl (ad_nil ⟨h, nl, fl, free, rfl, p, L.sr, ?_⟩))))⟩)))) ok.nd)
  have zz : (zI free).map D.int = free.map fun i : Nat => D.int (i : Int) := by unfold zI; rw [List.map_map]; rfl
  refine sd_cons (s1_setLcT 11 8 (fun i : Nat => .int i) (fun _ => true) (fun g : Nat => .int (hired h ns x nl fl g : Nat)) ok (ed_var 7 rfl ⟨free, (congrArg D.tup zz : tI (zI free) = _), by omega, fun g hg s H C cl fp μ' hu => ⟨rfl, fun _ => ?_⟩, ?_⟩) rfl fun _ _ _ _ _ => pg_name (i := 11) ok.nd rfl (Or.inl rfl))
  · refine ed_call (fd_many_below T) ok.blk (ad_cons (ed_call (fd_deal_numbers T) ok.blk (ad_cons (ed_var 0 rfl (ad_cons (ed_call (fd_with_hand T) ok.blk (ad_cons (ed_var 5 rfl (ad_cons (ed_var 11 rfl (ad_nil ⟨_, g, rfl, ?_, ad_cons (ed_var 6 rfl (ad_nil ⟨h, ns, _, _, rfl, G, ad_cons (ed_var 3 rfl (ad_nil ⟨_, x, rfl, ?_, rfl, ?_⟩))⟩))⟩)))))))))))
    · have := p.sub.2.2 g hg; omega
    · rw [List.length_map]; have := cb (bs nl ||| 2 ^ g) (bs fl); omega
    · rw [below_cnt, (or_bs p hg).1]; rfl
  rw [List.filter_eq_self.mpr (fun _ _ => rfl), map_int (f := fun g => hired h ns x nl fl g)]
  refine sd_cons (s1_setLcT 11 9 (fun i : Nat => .int i) (fun _ => true) (fun g : Nat => .int (lost h ns x nl fl g : Nat)) ok (ed_var 7 rfl ⟨free, (congrArg D.tup zz : tI (zI free) = _), by omega, fun g hg s H C cl fp μ' hu => ⟨rfl, fun _ => ?_⟩, ?_⟩) rfl fun _ _ _ _ _ => pg_name (i := 11) ok.nd rfl (Or.inl rfl))
  · refine ed_call (fd_many_below T) ok.blk (ad_cons (ed_call (fd_deal_numbers T) ok.blk (ad_cons (ed_var 0 rfl (ad_cons (ed_var 5 rfl (ad_cons (ed_call (fd_with_hand T) ok.blk (ad_cons (ed_var 6 rfl (ad_cons (ed_var 11 rfl (ad_nil ⟨_, g, rfl, ?_, ad_nil ⟨h, ns, _, _, rfl, G, ad_cons (ed_var 3 rfl (ad_nil ⟨_, x, rfl, ?_, rfl, ?_⟩))⟩⟩)))))))))))))
    · have := p.sub.2.2 g hg; omega
    · rw [List.length_map]; have := cb (bs nl) (bs fl ||| 2 ^ g); omega
    · rw [below_cnt, (or_bs p hg).2]; rfl
  rw [List.filter_eq_self.mpr (fun _ _ => rfl), map_int (f := fun g => lost h ns x nl fl g)]
  have l1 : 0 < (lostL h ns x nl fl free).length := by rw [List.length_map]; exact fl0
  have l2 : 0 < (hiredL h ns x nl fl free).length := by rw [List.length_map]; exact fl0
  refine sd_cons (s1_set 10 (ed_call (fd_exact T) ok (ad_cons (ed_sub (ed_max ok.calm T.f_max (ed_var 9 rfl ⟨lostL h ns x nl fl free, rfl, l1, fun Lx hL hL2 => ed_min ok.calm T.f_min (ed_var 8 rfl ⟨hiredL h ns x nl fl free, rfl, l2, fun mx hm hm2 => ?_⟩)⟩))))) ok.nd)
  obtain ⟨jL, fL⟩ := first_of hL
  obtain ⟨jm, fm⟩ := first_of hm
  have jLl : jL < free.length := by
    have := (List.getElem?_eq_some_iff.mp fL.1).1
    rwa [List.length_map] at this
  have jml : jm < free.length := by
    have := (List.getElem?_eq_some_iff.mp fm.1).1
    rwa [List.length_map] at this
  have b : Best h ns x nl fl free Lx mx free[jL] free[jm] := ⟨hL, hL2, hm, hm2, ⟨jL, fL, by simp⟩, ⟨jm, fm, by simp⟩⟩
  refine ⟨_, _, rfl, rfl, ad_cons (ed_shl (ed_int (ed_len T.f_len (ed_var 7 rfl ⟨_, rfl, _, _, rfl, rfl, ⟨by rw [zI_len]; omega, by rw [zI_len]; omega, by decide⟩, ad_nil ⟨_, _, rfl, ?_, ?_, ?_⟩⟩))))⟩
  · rw [shl1, zI_len]; exact hpz
  · rw [shl1, zI_len, Int.natAbs_natCast]
    exact Nat.lt_of_le_of_lt p7 (Nat.lt_of_lt_of_le (show 128 < 2 ^ 8 by decide) (Nat.pow_le_pow_right (by omega) (by omega)))
  rw [shl1, zI_len]
  have ix : ∀ (j : Nat) (hj : j < free.length), atI ((zI free).map D.int) (j : Int) = some (D.int (free[j] : Nat)) := fun j hj => by
    rw [atI_nat (by rw [zI_len]; exact hj), zz, List.getElem?_map, List.getElem?_eq_getElem hj]; rfl
  refine sd_cons (s1_if (td_eq (ed_var 4 rfl (ed_globS T.g_NEAR ⟨_, _, rfl, rfl, rfl, ?_⟩))))
  have qq := q Lx mx _ _ b
  rcases hsd with hsd | hsd
  · subst hsd
    refine if_t (decide_eq_true rfl) (sd_one (s1_ret (ed_tup (ad_cons (ed_ixT (ed_var 7 rfl (ed_index (ed_var 8 rfl ⟨hiredL h ns x nl fl free, rfl, ed_min ok.calm T.f_min (ed_var 8 rfl ⟨hiredL h ns x nl fl free, rfl, l2, fun m2 hm' hm2' => ?_⟩)⟩))))))))
    have e : m2 = mx := Int.le_antisymm (hm2' _ hm) (hm2 _ hm')
    subst e
    refine ⟨_, rfl, rfl, jm, fm.1, fm.2, _, _, _, rfl, rfl, ix jm jml, ad_cons (ed_var 10 rfl (ad_nil ⟨by simp, ?_⟩))⟩
    exact qq
  · subst hsd
    refine if_f far_near (sd_nil (sd_one (s1_ret (ed_tup (ad_cons (ed_ixT (ed_var 7 rfl (ed_index (ed_var 9 rfl ⟨lostL h ns x nl fl free, rfl, ed_max ok.calm T.f_max (ed_var 9 rfl ⟨lostL h ns x nl fl free, rfl, l1, fun m2 hm' hm2' => ?_⟩)⟩)))))))))
    have e : m2 = Lx := Int.le_antisymm (hL2 _ hm') (hm2' _ hL)
    subst e
    refine ⟨_, rfl, rfl, jL, fL.1, fL.2, _, _, _, rfl, rfl, ix jL jLl, ad_cons (ed_var 10 rfl (ad_nil ⟨by simp, ?_⟩))⟩
    exact qq
/-! ### the auction -/
abbrev nAuc : List Str := ["_state", "_past", "_future", "_scale"]
abbrev stD (A : Ad) (nm fm : Nat) (t b : Int) : D := .tup [.int nm, .int fm, rat A t b]
abbrev aucM (A : Ad) (dx : Addr) (h : Nat) (ns : List Int) (nm fm : Nat) (t b : Int) (past : List D) : MO := .ins A.auc dx nAuc [stD A nm fm t b, .tup past, .tup [], scl A h ns]
def S_und_init (A : Ad) : SpD := fun ds μ Q _ => ∃ (q dx : Addr) (d : D), ds = [.ptr q, d] ∧ μ q = some (.ins A.auc dx [] []) ∧ Q .non (mset μ q (.ins A.auc dx ["_state", "_past", "_future"] [d, .tup [], .tup []]))
theorem fn_und_init (T : Txt P K mg A) {f : Addr} {fd : FuncData} (F : FunD K "__init__" "Undoable.__init__" (defArgs s_Undoable_init) (defBody s_Undoable_init) (defScope s_Undoable_init) [] [] f fd) : FnOk P w K mg base (L2.CX P w) 1 f fd p_Undoable_init (spD (S_und_init A)) :=
  fn_d F sc_Undoable_init (fun ds μ Q ξ ⟨_, _, _, hd, _⟩ => by subst hd; rfl) fun cdv B outer s H E G0 ξ ok ds μ Q ⟨qa, dx, d, hd, hμ, q⟩ => by
  subst hd
  refine sd_cons (s1_fld (ed_var 1 rfl (ed_var 0 rfl ⟨qa, A.auc, dx, _, _, rfl, hμ, T.i_auc, T.n_auc_state, by decide, ?_⟩)))
  refine sd_cons (s1_fld (ed_tup (ad_nil ⟨by simp, ed_var 0 rfl ⟨qa, A.auc, dx, _, _, rfl, mset_same, T.i_auc, T.n_auc_past, by decide, ?_⟩⟩)))
  refine sd_one (s1_fld (ed_tup (ad_nil ⟨by simp, ed_var 0 rfl ⟨qa, A.auc, dx, _, _, rfl, mset_same, T.i_auc, T.n_auc_future, by decide, ?_⟩⟩)))
  rw [mset_mset, mset_mset]
  exact q
def S_auc_init (A : Ad) : SpD := fun ds μ Q ξ => ∃ (q dx : Addr) (h : Nat) (ns : List Int) (d : D) (st sb : Int), ds = [.ptr q, scl A h ns, d] ∧ μ q = some (.ins A.auc dx [] []) ∧ isF A d st sb ∧ 1 ≤ h ∧ h ≤ 7 ∧ (Sm st ∧ Sm sb) ∧ 0 < sb ∧
  (6 < h → ξ A.bad ["hands"] [.int h] μ) ∧ (h ≤ 6 → (st < 0 ∨ sb < st ∨ 1000000 < sb) → ξ A.frc [] [] μ) ∧
  (h ≤ 6 → 0 ≤ st → st ≤ sb → sb ≤ 1000000 → Q .non (mset μ q (aucM A dx h ns 0 0 (rt st sb) (rb st sb) [])))
theorem sm1 : Sm 1 := by unfold Sm; decide
theorem sm0 : Sm 0 := by unfold Sm; decide
theorem nd_auction (T : Txt P K mg A) : Nd P w K mg base 6 "Auction" A.auc [] (S_auc_init A) := by
  obtain ⟨f, fd, cc, cda, h1, F⟩ := T.mk_auc
  obtain ⟨f2, fd2, sup, F2⟩ := T.su_auc
  refine ⟨f, fd, p_Auction_init, [], T.c_auc, h1, ?_, .nil, fn_dS F sc_Auction_init (fun ds μ Q ξ ⟨_, _, _, _, _, _, _, hd, _⟩ => by subst hd; rfl) fun B outer s H E G0 ξ ok ds μ Q ⟨qa, dx, h, ns, d, st, sb, hd, hμ, hf, hh1, hh7, ⟨m1, m2⟩, b0, q1, q2, q3⟩ => ?_⟩
  · obtain ⟨oc, od, kV, doc, pm, an, ct, osl, rfl, lk⟩ := F.ex
    exact Binds.all (bd_Auction_init kV doc pm an _ ct cc)
  subst hd
  refine sdat_cons (s1_expr (ed_call (fd_check_hands T) ok (ad_cons (ed_fld (ed_var 1 rfl ⟨A.scl, _, _, _, rfl, T.i_scl, T.n_scl_hands, by rfl, ad_cons (ed_globI T.g_MOST_HIRED (ad_nil ⟨_, _, rfl, fun h6 => ?_, fun z => q1 (by omega)⟩))⟩)))))
  have h6' : h ≤ 6 := by omega
  refine sdat_cons (s1_set 3 (ed_call (fd_taken T) ok (ad_cons (ed_var 2 rfl (ad_cons (ed_int (ad_cons (ed_int (ad_nil ⟨d, _, _, st, sb, 0, 1, 1, 1, rfl, hf, .inl ⟨rfl, rfl⟩, .inl ⟨rfl, rfl⟩, ⟨m1, m2, sm0, sm1, sm1, sm1⟩, b0, fun e1 e2 e3 => ?_, fun z => q2 h6' (by omega)⟩)))))))) ok.nd)
  refine sdat_super (C := A.auc) (m := "__init__") F ok rfl rfl rfl (a := qa) rfl hμ sup (fn_und_init T F2) (F2.bindsN (ps := p_Undoable_init) bd_Undoable_init) (by decide) T.f_super T.t_super rfl rfl rfl (by decide) ?_
  refine ad_cons (ed_tup (ad_cons (ed_int (ad_cons (ed_int (ad_cons (ed_var 3 rfl (ad_nil ⟨by simp, ad_nil ⟨qa, dx, _, rfl, hμ, ?_⟩⟩))))))))
  refine sdat_of (sd_one (s1_fld (ed_var 1 rfl (ed_var 0 rfl ⟨qa, A.auc, dx, _, _, rfl, mset_same, T.i_auc, T.n_auc_scale, by decide, ?_⟩))))
  rw [mset_mset]
  exact q3 h6' (by omega) (by omega) e3
/-- the properties -/
def S_near : SpD := fun ds μ Q _ => ∃ (A : Ad) (a dx : Addr) (h : Nat) (ns : List Int) (nl fl free : List Nat) (t b : Int) (past : List D), ds = [.ptr a] ∧ μ a = some (aucM A dx h ns (bs nl) (bs fl) t b past) ∧ True ∧ Q .non μ
def AucAt (A : Ad) (μ : Mu) (a dx : Addr) (h : Nat) (ns : List Int) (nl fl : List Nat) (t b : Int) (past : List D) : Prop := μ a = some (aucM A dx h ns (bs nl) (bs fl) t b past)
theorem AucAt.ins {A : Ad} {μ : Mu} {a dx : Addr} {h : Nat} {ns : List Int} {nl fl : List Nat} {t b : Int} {past : List D} (x : AucAt A μ a dx h ns nl fl t b past) : insOf μ (.ptr a) = some (A.auc, nAuc, [stD A (bs nl) (bs fl) t b, .tup past, .tup [], scl A h ns]) := insOf_ptr x
def S_prop (A : Ad) (R : (h : Nat) → (ns : List Int) → (nl fl free : List Nat) → (t b : Int) → (past : List D) → D) : SpD := fun ds μ Q _ => ∃ (a dx : Addr) (h : Nat) (ns : List Int) (nl fl free : List Nat) (t b : Int) (past : List D), ds = [.ptr a] ∧ AucAt A μ a dx h ns nl fl t b past ∧ Good h ns ∧ Lists h nl fl free ∧ Q (R h ns nl fl free t b past) μ
theorem pd_near (T : Txt P K mg A) : Pd P w K mg base 3 A.auc "near" (S_prop A fun h ns nl fl free t b past => tI (zI nl)) := T.p_auc_near.pd (ps := p_Auction_near) bd_Auction_near fun f fd F => fn_d F sc_Auction_near (fun ds μ Q ξ ⟨_, _, _, _, _, _, _, _, _, _, hd, _⟩ => by subst hd; rfl) fun cdv B outer s H E G0 ξ ok ds μ Q ⟨a, dx, h, ns, nl, fl, free, t, b, past, hd, au, G, L, q⟩ => by
  subst hd
  exact sd_one (s1_ret (ed_call (fd_tuple_of T) ok (ad_cons (ed_ixT (ed_fld (ed_var 0 rfl ⟨A.auc, _, _, _, au.ins, T.i_auc, T.n_auc_state, by rfl, ed_int ⟨_, 0, _, rfl, rfl, rfl, ad_nil ⟨nl, rfl, L.sn, L.part.sub.1, q⟩⟩⟩))))))
theorem pd_far (T : Txt P K mg A) : Pd P w K mg base 3 A.auc "far" (S_prop A fun h ns nl fl free t b past => tI (zI fl)) := T.p_auc_far.pd (ps := p_Auction_far) bd_Auction_far fun f fd F => fn_d F sc_Auction_far (fun ds μ Q ξ ⟨_, _, _, _, _, _, _, _, _, _, hd, _⟩ => by subst hd; rfl) fun cdv B outer s H E G0 ξ ok ds μ Q ⟨a, dx, h, ns, nl, fl, free, t, b, past, hd, au, G, L, q⟩ => by
  subst hd
  exact sd_one (s1_ret (ed_call (fd_tuple_of T) ok (ad_cons (ed_ixT (ed_fld (ed_var 0 rfl ⟨A.auc, _, _, _, au.ins, T.i_auc, T.n_auc_state, by rfl, ed_int ⟨_, 1, _, rfl, rfl, rfl, ad_nil ⟨fl, rfl, L.sf, L.part.sub.2.1, q⟩⟩⟩))))))
theorem pd_free (T : Txt P K mg A) : Pd P w K mg base 4 A.auc "free" (S_prop A fun h ns nl fl free t b past => tI (zI free)) := T.p_auc_free.pd (ps := p_Auction_free) bd_Auction_free fun f fd F => fn_d F sc_Auction_free (fun ds μ Q ξ ⟨_, _, _, _, _, _, _, _, _, _, hd, _⟩ => by subst hd; rfl) fun cdv B outer s H E G0 ξ ok ds μ Q ⟨a, dx, h, ns, nl, fl, free, t, b, past, hd, au, G, L, q⟩ => by
  subst hd
  refine sd_one (s1_ret (ed_call (fd_free_hands T) ok (ad_cons (ed_fld (ed_fld (ed_var 0 rfl ⟨A.auc, _, _, _, au.ins, T.i_auc, T.n_auc_scale, by rfl, ?_⟩))))))
  refine ⟨A.scl, _, _, _, rfl, T.i_scl, T.n_scl_hands, by rfl, ad_cons (ed_ixT (ed_fld (ed_var 0 rfl ⟨A.auc, _, _, _, au.ins, T.i_auc, T.n_auc_state, by rfl, ed_int ⟨_, 0, _, rfl, rfl, rfl, ?_⟩⟩)))⟩
  exact ad_cons (ed_ixT (ed_fld (ed_var 0 rfl ⟨A.auc, _, _, _, au.ins, T.i_auc, T.n_auc_state, by rfl, ed_int ⟨_, 1, _, rfl, rfl, rfl, ad_nil ⟨h, nl, fl, free, rfl, L.part, L.sr, q⟩⟩⟩)))
theorem pd_purse (T : Txt P K mg A) : Pd P w K mg base 1 A.auc "purse" (S_prop A fun h ns nl fl free t b past => rat A t b) := T.p_auc_purse.pd (ps := p_Auction_purse) bd_Auction_purse fun f fd F => fn_d F sc_Auction_purse (fun ds μ Q ξ ⟨_, _, _, _, _, _, _, _, _, _, hd, _⟩ => by subst hd; rfl) fun cdv B outer s H E G0 ξ ok ds μ Q ⟨a, dx, h, ns, nl, fl, free, t, b, past, hd, au, G, L, q⟩ => by
  subst hd
  exact sd_one (s1_ret (ed_ixT (ed_fld (ed_var 0 rfl ⟨A.auc, _, _, _, au.ins, T.i_auc, T.n_auc_state, by rfl, ed_int ⟨_, 2, _, rfl, rfl, rfl, q⟩⟩))))
theorem pd_deeds (T : Txt P K mg A) : Pd P w K mg base 1 A.auc "deeds" (S_prop A fun h ns nl fl free t b past => .int past.length) := T.p_auc_deeds.pd (ps := p_Undoable_deeds) bd_Undoable_deeds fun f fd F => fn_d F sc_Undoable_deeds (fun ds μ Q ξ ⟨_, _, _, _, _, _, _, _, _, _, hd, _⟩ => by subst hd; rfl) fun cdv B outer s H E G0 ξ ok ds μ Q ⟨a, dx, h, ns, nl, fl, free, t, b, past, hd, au, G, L, q⟩ => by
  subst hd
  exact sd_one (s1_ret (ed_len T.f_len (ed_fld (ed_var 0 rfl ⟨A.auc, _, _, _, au.ins, T.i_auc, T.n_auc_past, by rfl, _, rfl, q⟩))))
end
end DD
set_option Elab.async false
set_option linter.all false
set_option maxRecDepth 100000
set_option maxHeartbeats 4000000
/-! E8: the auction's methods. -/
namespace DD
open PySem PySem.Spec PyProof.Rows L2 PM
/-- x, y, z = a tuple of three -/
theorem s1_three {Γ : Ctx} {ρ : Rho} {μ : Mu} {E : DE} {value : Expr} {x y u : Str} {j i1 i2 i3 : Nat} {px py pu pos : Pos} {kt : Nat} {pt : Pos} (ok : Γ.Ok j) (ha : ED Γ value ρ μ fun d μ1 => ∃ d1 d2 d3, d = .tup [d1, d2, d3] ∧ E.nx (((ρ.set i1 (some d1)).set i2 (some d2)).set i3 (some d3)) μ1)
    (hx : Γ.X.N[i1]? = some x := by rfl) (hy : Γ.X.N[i2]? = some y := by rfl) (hu : Γ.X.N[i3]? = some u := by rfl) (lx : Loc Γ.X.env.scope x := by first | exact Or.inl rfl | exact Or.inr rfl) (ly : Loc Γ.X.env.scope y := by first | exact Or.inl rfl | exact Or.inr rfl) (lu : Loc Γ.X.env.scope u := by first | exact Or.inl rfl | exact Or.inr rfl)
    (hfx : Γ.X.fn x = true ∨ Γ.X.env.scope.names.lookup x = some .local := by exact .inl rfl) (hfy : Γ.X.fn y = true ∨ Γ.X.env.scope.names.lookup y = some .local := by exact .inl rfl) (hfu : Γ.X.fn u = true ∨ Γ.X.env.scope.names.lookup u = some .local := by exact .inl rfl)
    (hn : (assignEach [.Name x px, .Name y py, .Name u pu] Γ.X.env).length = 3 := by rfl) (hst : (assignEach [.Name x px, .Name y py, .Name u pu] Γ.X.env).findIdx? (·.1) = none := by rfl)
    (hs : swapsWithSole [.Tuple [.Name x px, .Name y py, .Name u pu] kt pt] value pos.line Γ.X.env = pure false := by rfl) (hw : swappedStores [.Tuple [.Name x px, .Name y py, .Name u pu] kt pt] value Γ.X.env = pure none := by rfl)
    (h1 : (assignEach [.Tuple [.Name x px, .Name y py, .Name u pu] kt pt] Γ.X.env).map (·.2) = [assign (.Tuple [.Name x px, .Name y py, .Name u pu] kt pt) Γ.X.env] := by rfl)
    (hc0 : (assignEach [.Name x px, .Name y py, .Name u pu] Γ.X.env).map (·.2) = assign (.Name x px) Γ.X.env :: (assignEach [.Name y py, .Name u pu] Γ.X.env).map (·.2) := by rfl)
    (hc1 : (assignEach [.Name y py, .Name u pu] Γ.X.env).map (·.2) = assign (.Name y py) Γ.X.env :: (assignEach [.Name u pu] Γ.X.env).map (·.2) := by rfl) (hc2 : (assignEach [.Name u pu] Γ.X.env).map (·.2) = assign (.Name u pu) Γ.X.env :: (assignEach [] Γ.X.env).map (·.2) := by rfl) : S1 Γ (.Assign [.Tuple [.Name x px, .Name y py, .Name u pu] kt pt] value pos) ρ μ E :=
  s1_unpack [i1, i2, i3] ok.calm (pgs_cons (pg_name ok.nd hx lx hfx) (pgs_cons (pg_name ok.nd hy ly hfy) (pgs_cons (pg_name ok.nd hu lu hfu) pgs_nil hc2) hc1) hc0) hn hst (ha.imp fun d μ1 ⟨d1, d2, d3, hd, q⟩ => ⟨_, hd, rfl, q⟩) hs hw h1
section
variable {P : Program} {w : World} {K : PySem.W.Frag} {mg : Str → Option Value} {base : Heap} {A : Ad}
def resD (ns : List Int) (nl free : List Nat) : D := if free = [] then .int (at_ ns (bs nl)) else .non
theorem pd_result (T : Txt P K mg A) : Pd P w K mg base 7 A.auc "result" (S_prop A fun h ns nl fl free t b past => resD ns nl free) := T.p_auc_result.pd (ps := p_Auction_result) bd_Auction_result fun f fd F => fn_d F sc_Auction_result (fun ds μ Q ξ ⟨_, _, _, _, _, _, _, _, _, _, hd, _⟩ => by subst hd; rfl) fun cdv B outer s H E G0 ξ ok ds μ Q ⟨a, dx, h, ns, nl, fl, free, t, b, past, hd, au, G, L, q⟩ => by
  subst hd
  refine sd_cons (s1_three (i1 := 1) (i2 := 2) (i3 := 3) ok (ed_fld (ed_var 0 rfl ⟨A.auc, _, _, _, au.ins, T.i_auc, T.n_auc_state, by rfl, _, _, _, rfl, ?_⟩)))
  refine sd_cons (s1_if (td_gt (ed_len T.f_len (ed_call (fd_free_hands T) ok (ad_cons (ed_fld (ed_fld (ed_var 0 rfl ⟨A.auc, _, _, _, au.ins, T.i_auc, T.n_auc_scale, by rfl, ?_⟩))))))))
  refine ⟨A.scl, _, _, _, rfl, T.i_scl, T.n_scl_hands, by rfl, ad_cons (ed_var 1 rfl (ad_cons (ed_var 2 rfl (ad_nil ⟨h, nl, fl, free, rfl, L.part, L.sr, _, rfl, ed_int ⟨_, _, rfl, rfl, ?_⟩⟩))))⟩
  rw [zI_len]
  have q : Q (resD ns nl free) μ := q
  unfold resD at q
  by_cases c : free = []
  · rw [if_pos c] at q
    refine if_f (decide_eq_false (by rw [c]; simp)) (sd_nil (sd_one (s1_ret (ed_getO (md_get T) ok T.fi_scl_get (ed_fld (ed_var 0 rfl ⟨A.auc, _, _, _, au.ins, T.i_auc, T.n_auc_scale, by rfl, ?_⟩))))))
    refine ed_call (fd_tuple_of T) ok (ad_cons (ed_var 1 rfl (ad_nil ⟨nl, rfl, L.sn, L.part.sub.1, _, _, rfl, h, ns, _, nl, rfl, G, .inl rfl, L.part.ndn.1, fun i hi => L.part.mem.mp (.inr (.inl hi)), q⟩)))
  · rw [if_neg c] at q
    refine if_t (decide_eq_true ?_) (sd_one (s1_ret (ed_non q)))
    have := List.length_pos_iff.mpr c
    omega
def S_deed (A : Ad) : SpD := fun ds μ Q _ => ∃ (a dx : Addr) (st st' sc : D) (past fut : List D), ds = [.ptr a, st'] ∧ μ a = some (.ins A.auc dx nAuc [st, .tup past, .tup fut, sc]) ∧ past.length ≤ 100 ∧ Q .non (mset μ a (.ins A.auc dx nAuc [st', .tup (past ++ [st]), .tup [], sc]))
theorem md_deed (T : Txt P K mg A) : Md P w K mg base 1 A.auc "_deed" (S_deed A) := T.m_auc_deed.md (ps := p_Undoable_deed) bd_Undoable_deed fun f fd F => fn_d F sc_Undoable_deed (fun ds μ Q ξ ⟨_, _, _, _, _, _, _, hd, _⟩ => by subst hd; rfl) fun cdv B outer s H E G0 ξ ok ds μ Q ⟨a, dx, st, st', sc, past, fut, hd, hμ, hl, q⟩ => by
  subst hd
  refine sd_cons (s1_fld (ed_tup (ad_star (ed_fld (ed_var 0 rfl ⟨A.auc, _, _, _, insOf_ptr hμ, T.i_auc, T.n_auc_past, by rfl, past, rfl, ?_⟩)))))
  refine ad_cons (ed_fld (ed_var 0 rfl ⟨A.auc, _, _, _, insOf_ptr hμ, T.i_auc, T.n_auc_state, by rfl, ad_nil ⟨by simp; omega, ed_var 0 rfl ⟨a, A.auc, dx, _, _, rfl, hμ, T.i_auc, T.n_auc_past, by decide, ?_⟩⟩⟩))
  refine sd_cons (s1_fld (ed_var 1 rfl (ed_var 0 rfl ⟨a, A.auc, dx, _, _, rfl, mset_same, T.i_auc, T.n_auc_state, by decide, ?_⟩)))
  refine sd_one (s1_fld (ed_tup (ad_nil ⟨by simp, ed_var 0 rfl ⟨a, A.auc, dx, _, _, rfl, mset_same, T.i_auc, T.n_auc_future, by decide, ?_⟩⟩)))
  rw [mset_mset, mset_mset]
  exact q
/-- an offer's faults, its success: of one side -/
def BadBid (t b ct cb : Int) : Prop := t < 0 ∨ ct * b < t * cb ∨ 1000000 < b
structure Offer (A : Ad) (d : D) (t b : Int) : Prop where
  f : isF A d t b
  st : Sm t
  sb : Sm b
  b0 : 0 < b
def S_bidding (A : Ad) : SpD := fun ds μ Q ξ => ∃ (a dx : Addr) (h : Nat) (ns : List Int) (nl fl free : List Nat) (pt pb : Int) (past : List D) (g1 g2 : Int) (d1 d2 : D) (t1 b1 t2 b2 : Int),
  ds = [.ptr a, .int g1, d1, .int g2, d2] ∧ AucAt A μ a dx h ns nl fl pt pb past ∧ past.length ≤ 100 ∧ Lists h nl fl free ∧ Offer A d1 t1 b1 ∧ Offer A d2 t2 b2 ∧ (0 ≤ pt ∧ pt ≤ pb ∧ 0 < pb ∧ pb ≤ 10 ^ 100) ∧
  (free = [] → ξ A.fin [] [] μ) ∧ (free ≠ [] → ¬ (0 ≤ g1 ∧ g1 < h) → ξ A.unk ["hand"] [.int g1] μ) ∧ (free ≠ [] → ∀ i : Nat, g1 = i → i < h → i ∉ free → ξ A.tak ["hand"] [.int g1] μ) ∧
  (∀ i : Nat, g1 = i → i ∈ free →
    (BadBid t1 b1 pt pb → ξ A.frc [] [] μ) ∧ (¬ BadBid t1 b1 pt pb →
      (¬ (0 ≤ g2 ∧ g2 < h) → ξ A.unk ["hand"] [.int g2] μ) ∧ (∀ j : Nat, g2 = j → j < h → j ∉ free → ξ A.tak ["hand"] [.int g2] μ) ∧
      (∀ j : Nat, g2 = j → j ∈ free → (BadBid t2 b2 (pb - pt) pb → ξ A.frc [] [] μ) ∧ (¬ BadBid t2 b2 (pb - pt) pb →
        (t1 * b2 < t2 * b1 → Q (.str "far") (mset μ a (aucM A dx h ns (bs nl) (bs fl ||| 2 ^ j) (rt (pt * rb t2 b2 + rt t2 b2 * pb) (pb * rb t2 b2)) (rb (pt * rb t2 b2 + rt t2 b2 * pb) (pb * rb t2 b2)) (past ++ [stD A (bs nl) (bs fl) pt pb])))) ∧
        (¬ t1 * b2 < t2 * b1 → Q (.str "near") (mset μ a (aucM A dx h ns (bs nl ||| 2 ^ i) (bs fl) (rt (pt * rb t1 b1 - rt t1 b1 * pb) (pb * rb t1 b1)) (rb (pt * rb t1 b1 - rt t1 b1 * pb) (pb * rb t1 b1)) (past ++ [stD A (bs nl) (bs fl) pt pb]))))))))
theorem md_bidding (T : Txt P K mg A) : Md P w K mg base 7 A.auc "bidding" (S_bidding A) := T.m_auc_bidding.md (ps := p_Auction_bidding) bd_Auction_bidding fun f fd F => fn_dx F sc_Auction_bidding (fun ds μ Q ξ ⟨_, _, _, _, _, _, _, _, _, _, _, _, _, _, _, _, _, _, hd, _⟩ => by subst hd; rfl) fun cdv B outer s H E G0 ξ ok tk hs ds μ Q
    ⟨a, dx, h, ns, nl, fl, free, pt, pb, past, g1, g2, d1, d2, t1, b1, t2, b2, hd, au, hl, L, o1, o2, ⟨p0, p1, pb0, pbs⟩, q0, q1, q2, q3⟩ => by
  subst hd
  have p := L.part
  have h6 := L.h6
  have e1 : (10 : Int) ^ 100 ≤ 10 ^ 200 := by decide
  have e2 : -(10 ^ 200 : Int) ≤ 0 := by decide
  have smt : Sm pt := sm_of ⟨by omega, by omega⟩
  have smb : Sm pb := sm_of ⟨by omega, by omega⟩
  have au' : μ a = some (aucM A dx h ns (bs nl) (bs fl) pt pb past) := au
  refine sd_cons (s1_three (i1 := 5) (i2 := 6) (i3 := 7) ok (ed_fld (ed_var 0 rfl ⟨A.auc, _, _, _, au.ins, T.i_auc, T.n_auc_state, by rfl, _, _, _, rfl, ?_⟩)))
  refine sd_cons (s1_set 8 (ed_fld (ed_fld (ed_var 0 rfl ⟨A.auc, _, _, _, au.ins, T.i_auc, T.n_auc_scale, by rfl, A.scl, _, _, _, rfl, T.i_scl, T.n_scl_hands, by rfl, ?_⟩))) ok.nd)
  refine sd_cons (s1_if (td_eqI (ed_len T.f_len (ed_call (fd_free_hands T) ok (ad_cons (ed_var 8 rfl (ad_cons (ed_var 5 rfl (ad_cons (ed_var 6 rfl (ad_nil ⟨h, nl, fl, free, rfl, p, L.sr, _, rfl, ed_int ⟨_, _, rfl, rfl, ?_⟩⟩)))))))))))
  by_cases c : free = []
  · refine if_t ?_ (sd_one (s1_raiseE T.x_fin ok tk (q0 c)))
    rw [zI_len, c]; rfl
  refine if_f (len0 c) (sd_nil ?_)
  refine sd_cons (s1_expr (ed_call (fd_check_free_hand T) ok (ad_cons (ed_var 8 rfl (ad_cons (ed_var 5 rfl (ad_cons (ed_var 6 rfl (ad_cons (ed_var 1 rfl (ad_nil ⟨h, nl, fl, free, g1, rfl, p, q1 c, q2 c, fun i hi hif => ?_⟩)))))))))))
  obtain ⟨q4, q5⟩ := q3 i hi hif
  refine sd_cons (s1_set 9 (ed_call (fd_taken T) ok (ad_cons (ed_var 2 rfl (ad_cons (ed_int (ad_cons (ed_var 7 rfl (ad_nil ⟨d1, _, _, t1, b1, 0, 1, pt, pb, rfl, o1.f, .inl ⟨rfl, rfl⟩, .inr rfl, ⟨o1.st, o1.sb, sm0, sm1, smt, smb⟩, o1.b0, fun x1 x2 x3 => ?_, fun z => q4 ?_⟩)))))))) ok.nd)
  rotate_left
  · rcases z with z | z | z
    · exact .inl (by omega)
    · exact .inr (.inl z)
    · exact .inr (.inr z)
  have nb1 : ¬ BadBid t1 b1 pt pb := fun z => by
    rcases z with z | z | z <;> omega
  obtain ⟨q6, q7, q8⟩ := q5 nb1
  refine sd_cons (s1_expr (ed_call (fd_check_free_hand T) ok (ad_cons (ed_var 8 rfl (ad_cons (ed_var 5 rfl (ad_cons (ed_var 6 rfl (ad_cons (ed_var 3 rfl (ad_nil ⟨h, nl, fl, free, g2, rfl, p, q6, q7, fun j hj hjf => ?_⟩)))))))))))
  obtain ⟨q9, qA⟩ := q8 j hj hjf
  have R1 : Md P w K mg base 6 A.rat (PySem.dunderR "sub") (S_rsub A) := by rw [dunderR_sub]; exact md_rsub T
  obtain ⟨fs, fds, hm, _, _⟩ := T.m_rat_sub.ex
  refine sd_cons (s1_set 10 (ed_call (fd_taken T) ok (ad_cons (ed_var 4 rfl (ad_cons (ed_int (ad_cons (ed_rsub (g := fs) R1 T.sf_rat ok (by rw [dunder_sub]; exact hm.at_) T.sub_ri (ed_int (ed_var 7 rfl ⟨_, _, 1, rfl, rfl, pt, pb, 1, rfl, ⟨by omega, by omega, pbs, rfl⟩, pb0, fun x y hy sx sy hxy => ad_nil ⟨d2, _, _, t2, b2, 0, 1, x, y, rfl, o2.f, .inl ⟨rfl, rfl⟩, .inr rfl, ⟨o2.st, o2.sb, sm0, sm1, sx, sy⟩, o2.b0, fun x1 x2 x3 => ?_, fun z => q9 ?_⟩⟩))))))))) ok.nd)
  rotate_left
  · rcases z with z | z | z
    · exact .inl (by omega)
    · refine .inr (.inl ?_)
      have z' : x * b2 * pb < t2 * y * pb := Int.mul_lt_mul_of_pos_right z pb0
      have e1 : x * b2 * pb = (pb - pt) * b2 * y := by rw [Int.mul_right_comm, hxy, Int.one_mul, Int.mul_right_comm]
      have e2 : t2 * y * pb = t2 * pb * y := Int.mul_right_comm ..
      rw [e1, e2] at z'
      exact Int.lt_of_mul_lt_mul_right z' (by omega)
    · exact .inr (.inr z)
  have nb2 : ¬ BadBid t2 b2 (pb - pt) pb := fun z => by
    rcases z with z | z | z
    · omega
    · have z' : (pb - pt) * b2 * y < t2 * pb * y := Int.mul_lt_mul_of_pos_right z hy
      have e1 : x * b2 * pb = (pb - pt) * b2 * y := by rw [Int.mul_right_comm, hxy, Int.one_mul, Int.mul_right_comm]
      have e2 : t2 * y * pb = t2 * pb * y := Int.mul_right_comm ..
      rw [← e1, ← e2] at z'
      exact x2 (Int.lt_of_mul_lt_mul_right z' (by omega))
    · omega
  obtain ⟨qB, qC⟩ := qA nb2
  have A1 : Md P w K mg base 5 A.rat (PySem.dunder (Operator.info .Add).2) (S_add A) := by rw [dunder_addO]; exact md_add T
  have A2 : Md P w K mg base 5 A.rat (PySem.dunder (Operator.info .Sub).2) (S_sub A) := by rw [dunder_subO]; exact md_sub T
  have rb1 := rb_pos (t := t1) o1.b0
  have rb2 := rb_pos (t := t2) o2.b0
  refine sd_cons (s1_if (td_val (ed_meth (md_below T) ok (ed_var 9 rfl ⟨_, _, rfl, by decide +kernel, ad_cons (ed_var 10 rfl (ad_nil ⟨_, _, _, _, _, rfl, .inr rfl, ⟨sm_rt o1.st, sm_rb o1.b0 o1.sb, sm_rt o2.st, sm_rb o2.b0 o2.sb⟩, _, rfl, ?_⟩))⟩))))
  rw [show decide (rt t1 b1 * rb t2 b2 < rt t2 b2 * rb t1 b1) = decide (t1 * b2 < t2 * b1) from decide_eq_decide.mpr (lt_red o1.b0 o2.b0)]
  have i7 := p.sub.2.2 i hif
  have j7 := p.sub.2.2 j hjf
  subst hi hj
  by_cases cc : t1 * b2 < t2 * b1
  · refine if_t (decide_eq_true cc) ?_
    refine sd_cons (s1_expr (ed_meth (md_deed T) ok (ed_var 0 rfl ⟨_, _, au.ins, by decide +kernel, ad_cons (ed_tup (ad_cons (ed_var 5 rfl ?_)))⟩)))
    refine ad_cons (ed_call (fd_with_hand T) ok (ad_cons (ed_var 6 rfl (ad_cons (ed_var 3 rfl (ad_nil ⟨_, j, rfl, by omega, ?_⟩))))))
    refine ad_cons (ed_opO A1 T.sf_rat ok (ed_var 7 rfl (ed_var 10 rfl ⟨_, _, _, _, rfl, rfl, _, pt, pb, rt t2 b2, rb t2 b2, rfl, .inr rfl, ⟨smt, smb, sm_rt o2.st, sm_rb o2.b0 o2.sb⟩, pb0, rb2, ?_⟩)))
    exact ad_nil ⟨by simp, ad_nil ⟨a, dx, _, _, _, past, [], rfl, au', hl, sd_one (s1_ret (ed_globS T.g_FAR (qB cc)))⟩⟩
  · refine if_f (decide_eq_false cc) (sd_nil ?_)
    refine sd_cons (s1_expr (ed_meth (md_deed T) ok (ed_var 0 rfl ⟨_, _, au.ins, by decide +kernel, ad_cons (ed_tup (ad_cons (ed_call (fd_with_hand T) ok (ad_cons (ed_var 5 rfl (ad_cons (ed_var 1 rfl (ad_nil ⟨_, i, rfl, by omega, ?_⟩))))))))⟩)))
    refine ad_cons (ed_var 6 rfl (ad_cons (ed_opO A2 T.sf_rat ok (ed_var 7 rfl (ed_var 9 rfl ⟨_, _, _, _, rfl, rfl, _, pt, pb, rt t1 b1, rb t1 b1, rfl, .inr rfl, ⟨smt, smb, sm_rt o1.st, sm_rb o1.b0 o1.sb⟩, pb0, rb1, ?_⟩)))))
    exact ad_nil ⟨by simp, ad_nil ⟨a, dx, _, _, _, past, [], rfl, au', hl, sd_one (s1_ret (ed_globS T.g_NEAR (qC cc)))⟩⟩
end
end DD
set_option Elab.async false
set_option linter.all false
set_option maxRecDepth 100000
set_option maxHeartbeats 4000000
/-! E9: the law's helpers: digits, pushes, reduction, deals. -/
namespace DD
open PySem PySem.Spec PyProof.Rows L2 PM
abbrev bxM (k v : Int) : MO := .lst [.int k, .int v]
/-- the box at b over the store μ0 -/
def Bx (μ0 : Mu) (b : Addr) (μ : Mu) : Prop := ∃ k v : Int, 0 ≤ k ∧ μ = mset μ0 b (bxM k v)
theorem Bx.at {μ0 μ : Mu} {b : Addr} (h : Bx μ0 b μ) : ∃ k v : Int, 0 ≤ k ∧ μ b = some (bxM k v) := by
  obtain ⟨k, v, h1, h2⟩ := h
  exact ⟨k, v, h1, by rw [h2]; exact mset_same⟩
section
variable {P : Program} {w : World} {K : PySem.W.Frag} {mg : Str → Option Value} {base : Heap} {A : Ad}
def S_digit : SpD := fun ds μ Q _ => ∃ (cs : List Int) (b : Addr) (m : Int) (μ0 : Mu), ds = [lI cs, .ptr b, .int m] ∧ Bx μ0 b μ ∧ 0 < m ∧ m < 2 ^ 62 ∧ ∀ d μ', 0 ≤ d → d < m → Bx μ0 b μ' → Q (.int d) μ'
theorem atI_pos {ns : List Int} {i : Int} (h0 : 0 ≤ i) (h : i < ns.length) : ∃ z, atI (ns.map D.int) i = some (.int z) := by
  obtain ⟨j, rfl⟩ : ∃ j : Nat, i = j := ⟨i.toNat, by omega⟩
  exact ⟨_, atI_int (by omega)⟩
theorem fd_digit (T : Txt P K mg A) : Fd P w K mg base 1 "_law_digit" S_digit := T.d_law_digit.fd (ps := p_law_digit) bd_law_digit fun f fd F => fn_d F sc_law_digit (fun ds μ Q ξ ⟨_, _, _, _, hd, _⟩ => by subst hd; rfl) fun cdv B outer s H E G0 ξ ok ds μ Q ⟨cs, b, m, μ0, hd, ⟨k, v, k0, hμ⟩, m0, m1, q⟩ => by
  subst hd
  subst hμ
  have hb : ∀ k v : Int, lstOf (mset μ0 b (bxM k v)) (.ptr b) = some [.int k, .int v] := fun k v => lstOf_ptr mset_same
  have m8 : m.natAbs < 2 ^ 8000 := by
    have : m.natAbs < 2 ^ 62 := by omega
    exact Nat.lt_of_lt_of_le this (Nat.pow_le_pow_right (by omega) (by omega))
  refine sd_join (fun ρ' μ' => ∃ x3 k v, 0 ≤ k ∧ ρ' = [some (lI cs), some (.ptr b), some (.int m), x3, none] ∧ μ' = mset μ0 b (bxM k v)) (s1_if (td_and (td_eqI (ed_ixL (ed_var 1 rfl (ed_int ⟨_, 1, _, hb k v, rfl, rfl, ed_int ⟨_, _, rfl, rfl, ?_⟩⟩)))))) fun ρ' μ' ⟨x3, k, v, hk, hρ, hμ⟩ => ?_
  · refine if_b (fun e1 => td_lt (ed_ixL (ed_var 1 rfl (ed_int ⟨_, 0, _, hb k v, rfl, rfl, ed_len T.f_len (ed_var 0 rfl ⟨_, rfl, _, _, rfl, rfl, if_b (fun e2 => ?_) fun _ => ?_⟩)⟩)))) fun _ => ?_
    · have e2 := of_decide_eq_true e2
      rw [List.length_map] at e2
      obtain ⟨z, hz⟩ := atI_pos k0 e2
      refine sd_cons (s1_set 3 (ed_ixL (ed_var 0 rfl (ed_ixL (ed_var 1 rfl (ed_int ⟨_, 0, _, hb k v, rfl, rfl, _, _, _, rfl, rfl, hz, ?_⟩))))) ok.nd)
      refine sd_cons (s1_sub (ed_add (ed_ixL (ed_var 1 rfl (ed_int ⟨_, 0, _, hb k v, rfl, rfl, ed_int ⟨_, _, rfl, rfl, ed_var 1 rfl (ed_int ⟨b, _, 0, 0, rfl, mset_same, rfl, rfl, ?_⟩)⟩⟩)))))
      rw [mset_mset]
      refine sd_cons (s1_sub (ed_mul (ed_int (ed_var 3 rfl ⟨_, _, rfl, rfl, .inl ⟨by decide, by decide⟩, ed_var 1 rfl (ed_int ⟨b, _, 1, 1, rfl, mset_same, rfl, rfl, ?_⟩)⟩))))
      rw [mset_mset]
      refine sd_one (s1_if (td_lt (ed_var 3 rfl (ed_int ⟨_, _, rfl, rfl, if_b (fun _ => ?_) fun _ => sd_nil ⟨_, _, _, by omega, rfl, rfl⟩⟩))))
      refine sd_one (s1_sub (ed_sub (ed_mul (ed_neg (ed_int ⟨_, rfl, ed_var 3 rfl ⟨_, _, rfl, rfl, .inl ⟨by decide, by decide⟩, ed_int ⟨_, _, rfl, rfl, ed_var 1 rfl (ed_int ⟨b, _, 1, 1, rfl, mset_same, rfl, rfl, ?_⟩)⟩⟩⟩)))))
      rw [mset_mset]
      exact ⟨_, _, _, by omega, rfl, rfl⟩
    · exact sd_nil ⟨_, _, _, k0, rfl, rfl⟩
    · exact if_f rfl (sd_nil ⟨_, _, _, k0, rfl, rfl⟩)
  · subst hρ hμ
    refine sd_cons (s1_set 4 (ed_mod (ed_int1 T.f_int (ed_ixL (ed_var 1 rfl (ed_int ⟨_, 1, _, hb k v, rfl, rfl, .inl ⟨_, rfl, ed_var 2 rfl ⟨_, _, rfl, rfl, m0, ?_⟩⟩⟩))))) ok.nd)
    refine sd_cons (s1_sub (ed_fdivW (ed_int1 T.f_int (ed_ixL (ed_var 1 rfl (ed_int ⟨_, 1, _, hb k v, rfl, rfl, .inl ⟨_, rfl, ed_var 2 rfl ⟨_, _, rfl, rfl, div_ok m0 m8, ed_var 1 rfl (ed_int ⟨b, _, 1, 1, rfl, mset_same, rfl, rfl, ?_⟩)⟩⟩⟩))))))
    rw [mset_mset]
    exact sd_one (s1_ret (ed_var 4 rfl (q _ _ (Int.emod_nonneg _ (by omega)) (Int.emod_lt_of_pos _ m0) ⟨_, _, hk, rfl⟩)))
theorem ixN_nat {n j : Nat} (h : j < n) : ixN n (j : Int) = some j := by
  unfold ixN
  have h1 : (0 : Int) ≤ j := by omega
  have h2 : (j : Int) < n := by omega
  rw [if_pos h1, if_pos h2, Int.toNat_natCast]
theorem pw_lt {h : Nat} (h6 : h ≤ 6) : 2 ^ h ≤ 64 := Nat.pow_le_pow_right (n := 2) (by omega) h6
theorem set_int {ns : List Int} {j : Nat} {n : Int} : (ns.map D.int).set j (.int n) = (ns.set j n).map D.int := by rw [List.map_set]
def S_push : SpD := fun ds μ Q _ => ∃ (p : Addr) (m h : Nat) (number : Int) (old : List Int) (μ0 : Mu), ds = [.ptr p, .int m, .int number] ∧ μ = mset μ0 p (.lst (old.map D.int)) ∧ Good h old ∧ h ≤ 6 ∧ 0 < m ∧ m < 2 ^ h ∧ Q .non (mset μ0 p (.lst ((pshL h m number old (2 ^ h)).map D.int)))
theorem fd_push (T : Txt P K mg A) : Fd P w K mg base 1 "_law_push" S_push := T.d_law_push.fd (ps := p_law_push) bd_law_push fun f fd F => fn_d F sc_law_push (fun ds μ Q ξ ⟨_, _, _, _, _, _, hd, _⟩ => by subst hd; rfl) fun cdv B outer s H E G0 ξ ok ds μ Q ⟨p, m, h, number, old, μ0, hd, hμ, G, h6, m0, mh, q⟩ => by
  subst hd
  subst hμ
  have p6 := pw_lt h6
  have pp := Nat.two_pow_pos h
  refine sd_cons (s1_set 3 (ed_sub (ed_len T.f_len (ed_var 0 rfl ⟨old.length, by show (lstOf _ _).map _ = _; rw [lstOf_ptr mset_same]; simp, ed_int ⟨_, _, rfl, rfl, ?_⟩⟩))) ok.nd)
  have fe : ((old.length : Nat) : Int) - 1 = ((2 ^ h - 1 : Nat) : Int) := by rw [G.len]; omega
  rw [fe]
  refine sd_one (s1_forR 4 (fun j ρ' μ' => ∃ x, ρ' = [some (.ptr p), some (.int m), some (.int number), some (.int ((2 ^ h - 1 : Nat) : Int)), x] ∧ μ' = mset μ0 p (.lst ((pshL h m number old j).map D.int))) ok T.f_range (ad_cons (ed_add (ed_var 3 rfl (ed_int ⟨_, _, rfl, rfl, ad_nil ⟨_, rfl, by omega, by omega, ⟨_, rfl, by rw [pshL_zero G]⟩, ?_, ?_⟩⟩)))))
  · intro j ρ' μ' hj ⟨x, hρ, hμ⟩
    subst hρ hμ
    have hj' : j < 2 ^ h := by omega
    have gl : lstOf (mset μ0 p (.lst ((pshL h m number old j).map D.int))) (.ptr p) = some ((pshL h m number old j).map D.int) := lstOf_ptr mset_same
    refine sd_one (s1_if (td_and (td_eqI (ed_and (ed_var 4 rfl (ed_var 1 rfl ⟨_, _, rfl, rfl, ed_var 1 rfl ⟨_, _, rfl, rfl, ?_⟩⟩))))))
    rw [band]
    have e1 : decide (((j &&& m : Nat) : Int) = (m : Int)) = decide (j &&& m = m) := by simp only [Int.ofNat_inj, Int.natCast_inj]
    rw [e1]
    refine if_b (fun c => ?_) fun c => ?_
    · have c := of_decide_eq_true c
      refine td_lt (ed_ixL (ed_var 0 rfl (ed_var 4 rfl ⟨_, _, _, gl, rfl, atI_int (by rw [pshL_length]; exact hj'), ed_var 2 rfl ⟨_, _, rfl, rfl, ?_⟩⟩)))
      rw [psh_read hj' c]
      refine if_b (fun c2 => ?_) fun c2 => ?_
      · have c2 := of_decide_eq_true c2
        refine sd_cons (s1_sub (ed_var 2 rfl (ed_var 0 rfl (ed_var 4 rfl ⟨p, _, j, j, rfl, mset_same, rfl, ?_, ?_⟩))))
        · exact ixN_nat (by rw [List.length_map, pshL_length]; exact hj')
        rw [mset_mset, set_int]
        refine sd_one (s1_sub (ed_neg (ed_var 2 rfl ⟨_, rfl, ed_var 0 rfl (ed_sub (ed_var 3 rfl (ed_var 4 rfl ⟨_, _, rfl, rfl, p, _, _, 2 ^ h - 1 - j, rfl, mset_same, rfl, ?_, ?_⟩)))⟩)))
        · have : ((2 ^ h - 1 : Nat) : Int) - (j : Int) = ((2 ^ h - 1 - j : Nat) : Int) := by omega
          rw [this]
          exact ixN_nat (by rw [List.length_map, List.length_set, pshL_length]; omega)
        rw [mset_mset, set_int, psh_set h6 m0 mh hj' c c2]
        exact ⟨_, rfl, rfl⟩
      · have c2 := of_decide_eq_false c2
        exact sd_nil ⟨_, rfl, by rw [← psh_skip h6 mh hj' fun z => c2 z.2]⟩
    · have c := of_decide_eq_false c
      exact if_f rfl (sd_nil ⟨_, rfl, by rw [← psh_skip h6 mh hj' fun z => c z.1]⟩)
  · intro ρ' μ' ⟨x, hρ, hμ⟩
    subst hρ hμ
    have : (((2 ^ h - 1 : Nat) : Int) + 1).toNat = 2 ^ h := by omega
    rw [this]
    exact q
end
end DD
set_option Elab.async false
set_option linter.all false
set_option maxRecDepth 100000
set_option maxHeartbeats 4000000
/-! E10: the law's helpers, further. -/
namespace DD
open PySem PySem.Spec PyProof.Rows L2 PM
theorem s1_put {Γ : Ctx} {value : Expr} {ρ : Rho} {μ : Mu} {E : DE} {x : Str} {pos pos' : Pos} {j : Nat} (ok : Γ.Ok j) (i : Nat) (ha : ED Γ value ρ μ fun d μ1 => E.nx (ρ.set i (some d)) μ1) (hi : Γ.X.N[i]? = some x := by rfl) (hx : Loc Γ.X.env.scope x := by first | exact Or.inl rfl | exact Or.inr rfl)
    (hs : swapsWith value (some (.Name x pos')) pos.line Γ.X.env = pure false := by rfl) (hf : Γ.X.fn x = true ∨ Γ.X.env.scope.names.lookup x = some .local := by exact .inl rfl) : S1 Γ (.Assign [.Name x pos'] value pos) ρ μ E := s1_set i ha ok.nd hi hx hs hf
/-- a display of ints -/
def litsOf : List Expr → Option (List Int)
  | [] => some []
  | .Constant (.int i) _ _ :: r => (litsOf r).map (i :: ·)
  | .UnaryOp .USub (.Constant (.int i) _ _) _ :: r => (litsOf r).map (-i :: ·)
  | _ :: _ => none
theorem ad_lits {Γ : Ctx} {ρ : Rho} {μ : Mu} : ∀ {es : List Expr} {zs : List Int} {Q : List D → Mu → Prop}, litsOf es = some zs → Q (zs.map D.int) μ → AD Γ es ρ μ Q
  | [], zs, Q, h, q => by cases h; exact ad_nil q
  | .Constant (.int i) _ _ :: r, zs, Q, h, q => by
    obtain ⟨z, h1, h2⟩ := Option.map_eq_some_iff.mp (show (litsOf r).map (i :: ·) = some zs from h)
    subst h2
    exact ad_cons (ed_int (ad_lits h1 q))
  | .UnaryOp .USub (.Constant (.int i) _ _) _ :: r, zs, Q, h, q => by
    obtain ⟨z, h1, h2⟩ := Option.map_eq_some_iff.mp (show (litsOf r).map (-i :: ·) = some zs from h)
    subst h2
    exact ad_cons (ed_neg (ed_int ⟨_, rfl, ad_lits h1 q⟩))
theorem ed_lits {Γ : Ctx} {ρ : Rho} {μ : Mu} {es : List Expr} {pos : Pos} {zs : List Int} {Q : D → Mu → Prop} (h : litsOf es = some zs) (hl : zs.length ≤ 1000) (q : Q (lI zs) μ) : ED Γ (.List es pos) ρ μ Q :=
  ed_lst (ad_lits h ⟨by rw [List.length_map]; exact hl, q⟩)
/-- the box beside another changing object -/
theorem Bx.swap {μ0 μ : Mu} {b p : Addr} {m : MO} (h : Bx (mset μ0 p m) b μ) (n : p ≠ b) : ∃ μ1, μ = mset μ1 p m ∧ (∀ m', Bx (mset μ0 p m') b (mset μ1 p m')) ∧ ∃ k v : Int, 0 ≤ k ∧ μ1 = mset μ0 b (bxM k v) := by
  obtain ⟨k, v, h1, h2⟩ := h
  exact ⟨mset μ0 b (bxM k v), by rw [h2, mset_comm n], fun m' => ⟨k, v, h1, by rw [mset_comm (Ne.symm n)]⟩, k, v, h1, rfl⟩
section
variable {P : Program} {w : World} {K : PySem.W.Frag} {mg : Str → Option Value} {base : Heap} {A : Ad}
theorem lit_get {ds : List D} {i : Int} {n : Nat} (h0 : 0 ≤ i) (h : i < n) (hn : n = ds.length) : ∃ d, atI ds i = some d ∧ d ∈ ds := by
  obtain ⟨j, rfl⟩ : ∃ j : Nat, i = j := ⟨i.toNat, by omega⟩
  have hj : j < ds.length := by omega
  refine ⟨ds[j], by rw [atI_nat hj, List.getElem?_eq_getElem hj], List.getElem_mem hj⟩
/-- an int read from a list of ints in the text -/
theorem lit_int {zs : List Int} {i : Int} (h0 : 0 ≤ i) (h : i < zs.length) : ∃ z, atI (zs.map D.int) i = some (.int z) ∧ z ∈ zs := by
  obtain ⟨j, rfl⟩ : ∃ j : Nat, i = j := ⟨i.toNat, by omega⟩
  have hj : j < zs.length := by omega
  exact ⟨_, atI_int hj, at_mem hj⟩
def S_pushed : SpD := fun ds μ Q _ => ∃ (cs : List Int) (b : Addr) (h : Nat) (μ0 : Mu), ds = [lI cs, .ptr b, .int h] ∧ Bx μ0 b μ ∧ 1 ≤ h ∧ h ≤ 6 ∧ ∀ ns μ', Good h ns → Bnd 63 ns → Bx μ0 b μ' → Q (lI ns) μ'
theorem fd_pushed (T : Txt P K mg A) : Fd P w K mg base 2 "_law_pushed" S_pushed := T.d_law_pushed.fd (ps := p_law_pushed) bd_law_pushed fun f fd F => fn_d F sc_law_pushed (fun ds μ Q ξ ⟨_, _, _, _, hd, _⟩ => by subst hd; rfl) fun cdv B outer s H E G0 ξ ok ds μ Q ⟨cs, b, h, μ0, hd, hμ, h1, h6, q⟩ => by
  subst hd
  have p6 := pw_lt h6
  have pp := Nat.two_pow_pos h
  have p2 : 2 ≤ 2 ^ h := Nat.le_trans (show 2 ≤ 2 ^ 1 by decide) (Nat.pow_le_pow_right (by omega) h1)
  refine sd_cons (s1_put ok 3 (ed_sub (ed_shl (ed_int (ed_var 2 rfl ⟨_, _, rfl, rfl, ⟨by omega, by omega, by decide⟩, ed_int ⟨_, _, rfl, rfl, ?_⟩⟩)))))
  rw [shl1, show ((2 ^ h : Nat) : Int) - 1 = ((2 ^ h - 1 : Nat) : Int) by omega]
  refine sd_cons (s1_put ok 4 (ed_repM (ed_lst (ad_cons (ed_int (ad_nil ⟨by simp, ed_add (ed_var 3 rfl (ed_int ⟨_, _, rfl, rfl, _, _, rfl, rfl, by omega, by omega, fun p hp => ?_⟩))⟩))))))
  have e0 : List.replicate ((((2 ^ h - 1 : Nat) : Int) + 1).toNat) (D.int 0) = (List.replicate (2 ^ h) 0).map D.int := by
    rw [show (((2 ^ h - 1 : Nat) : Int) + 1).toNat = 2 ^ h by omega, List.map_replicate]
  rw [e0]
  obtain ⟨k0, v0, hk0, hμ1⟩ := hμ
  subst hμ1
  have npb : p ≠ b := fun z => by rw [z, mset_same] at hp; cases hp
  have hp0 : μ0 p = none := by rw [mset_ne npb] at hp; exact hp
  refine sd_cons (s1_forR 5 (fun j ρ' μ' => ∃ cur x y z u, ρ' = [some (lI cs), some (.ptr b), some (.int h), some (.int ((2 ^ h - 1 : Nat) : Int)), some (.ptr p), x, y, z, u] ∧ Bx (mset μ0 p (.lst (cur.map D.int))) b μ' ∧ Good h cur ∧ Bnd (7 * j) cur) ok T.f_range ?_)
  refine ad_cons (ed_ixL (ed_lits (zs := [4, 3, 2, 1, 0, 5, 6, 9]) rfl (by decide) ?_))
  refine ed_call (fd_digit T) ok (ad_cons (ed_var 0 rfl (ad_cons (ed_var 1 rfl (ad_cons (ed_int (ad_nil ⟨cs, b, 8, mset μ0 p (.lst ((List.replicate (2 ^ h) 0).map D.int)), rfl, ⟨k0, v0, hk0, by rw [mset_comm (Ne.symm npb)]⟩, by omega, by omega, fun d μ2 d0 d8 hB => ?_⟩)))))))
  obtain ⟨z, hz, hzm⟩ := lit_int (zs := [4, 3, 2, 1, 0, 5, 6, 9]) d0 (by simpa using d8)
  refine ⟨_, d, _, rfl, rfl, hz, ad_nil ⟨z, rfl, by simp at hzm; omega, by simp at hzm; omega, ⟨_, _, _, _, _, rfl, hB, zero_good h1 (by omega), fun n hn => by have := List.eq_of_mem_replicate hn; omega⟩, ?_, ?_⟩⟩
  · intro j ρ' μ' hj ⟨cur, x, y, zz, u, hρ, hB, G, bn⟩
    subst hρ
    have j9 : j < 9 := by simp at hzm; omega
    refine sd_cons (s1_put ok 6 (ed_add (ed_call (fd_digit T) ok (ad_cons (ed_var 0 rfl (ad_cons (ed_var 1 rfl (ad_cons (ed_var 3 rfl (ad_nil ⟨cs, b, _, _, rfl, hB, by omega, by omega, fun d μ2 d0 d1 hB => ?_⟩))))))))))
    obtain ⟨z2, hz2, hzm2⟩ := lit_int (zs := [2, 4, 5, 6, 0, 3, 1, 2, 4]) (i := (j : Int)) (by omega) (by simp; omega)
    refine ed_ixL (ed_lits (zs := [2, 4, 5, 6, 0, 3, 1, 2, 4]) rfl (by decide) (ed_var 5 rfl ⟨_, _, _, rfl, rfl, hz2, _, _, rfl, rfl, ?_⟩))
    refine sd_cons (s1_put ok 7 (ed_add (ed_int (ed_mod (ed_int1 T.f_int (ed_var 6 rfl (.inl ⟨_, rfl, ed_var 3 rfl ⟨_, _, rfl, rfl, by omega, _, _, rfl, rfl, ?_⟩⟩)))))))
    generalize hms : (d + z2) % ((2 ^ h - 1 : Nat) : Int) = ms
    have ms0 : 0 ≤ ms := by rw [← hms]; exact Int.emod_nonneg _ (by omega)
    have ms1 : ms < ((2 ^ h - 1 : Nat) : Int) := by rw [← hms]; exact Int.emod_lt_of_pos _ (by omega)
    obtain ⟨mm, rfl⟩ : ∃ mm : Nat, ms = mm := ⟨ms.toNat, by omega⟩
    have mk : (1 : Int) + (mm : Int) = ((1 + mm : Nat) : Int) := by omega
    rw [mk]
    have mlt : 1 + mm < 2 ^ h := by omega
    refine sd_cons (s1_put ok 8 (ed_ixL (ed_lits (zs := [1, 2, 1, 3, 7]) rfl (by decide) ?_)))
    refine ed_mod (ed_int1 T.f_int (ed_add (ed_call (fd_digit T) ok (ad_cons (ed_var 0 rfl (ad_cons (ed_var 1 rfl (ad_cons (ed_int (ad_nil ⟨cs, b, 5, _, rfl, hB, by omega, by omega, fun d2 μ3 d20 d21 hB => ed_var 5 rfl ⟨_, _, rfl, rfl, .inl ⟨_, rfl, ed_int ⟨_, _, rfl, rfl, by omega, ?_⟩⟩⟩⟩))))))))))
    obtain ⟨z3, hz3, hzm3⟩ := lit_int (zs := [1, 2, 1, 3, 7]) (i := (d2 + (j : Int)) % 5) (Int.emod_nonneg _ (by omega)) (by simp; exact Int.emod_lt_of_pos _ (by omega))
    refine ⟨_, _, _, rfl, rfl, hz3, ?_⟩
    obtain ⟨μ4, hμ4, hB4, k4, v4, hk4, hμ4'⟩ := hB.swap npb
    subst hμ4
    have gl : lstOf (mset μ4 p (.lst (cur.map D.int))) (.ptr p) = some (cur.map D.int) := lstOf_ptr mset_same
    have bm := bn _ (at_mem (ns := cur) (c := 1 + mm) (by rw [G.len]; exact mlt))
    have z3b : 1 ≤ z3 ∧ z3 ≤ 7 := by simp at hzm3; omega
    refine sd_one (s1_expr (ed_call (fd_push T) ok (ad_cons (ed_var 4 rfl (ad_cons (ed_var 7 rfl (ad_cons (ed_add (ed_ixL (ed_var 4 rfl (ed_var 7 rfl ⟨_, _, _, gl, rfl, atI_int (by rw [G.len]; exact mlt), ed_var 8 rfl ⟨_, _, rfl, rfl, ad_nil ⟨p, 1 + mm, h, _, cur, μ4, rfl, rfl, G, h6, by omega, mlt, ?_⟩⟩⟩)))))))))))
    have nb : -(7 * (j : Int) + 7) ≤ at_ cur (1 + mm) + z3 ∧ at_ cur (1 + mm) + z3 ≤ 7 * (j : Int) + 7 := by omega
    refine ⟨_, _, _, _, _, rfl, hB4 _, psh_good h6 G bn (by omega) (by omega) mlt nb, ?_⟩
    have := psh_bnd (m := 1 + mm) G bn nb
    intro n hn
    have := this n hn
    push_cast
    omega
  · intro ρ' μ' ⟨cur, x, y, zz, u, hρ, hB, G, bn⟩
    subst hρ
    obtain ⟨μ4, hμ4, hB4, k4, v4, hk4, hμ4'⟩ := hB.swap npb
    subst hμ4
    refine sd_one (s1_ret (ed_freeze (ed_var 4 rfl ⟨p, _, rfl, mset_same, ?_⟩)))
    have h4p : μ4 p = none := by rw [hμ4', mset_ne npb]; exact hp0
    rw [mdel_mset h4p]
    refine q cur μ4 G (fun n hn => ?_) ⟨k4, v4, hk4, hμ4'⟩
    have := bn n hn
    have z9 : z.toNat ≤ 9 := by simp at hzm; omega
    omega
def n200 : Int := 200
def S_reduced : SpD := fun ds μ Q _ => ∃ t b : Int, ds = [.int t, .int b] ∧ 0 < b ∧ b.natAbs < 2 ^ 8000 ∧ t.natAbs < 2 ^ 100 ∧ Q (.tup [.int (rt t b), .int (rb t b)]) μ
theorem fd_reduced (T : Txt P K mg A) : Fd P w K mg base 1 "_law_reduced" S_reduced := T.d_law_reduced.fd (ps := p_law_reduced) bd_law_reduced fun f fd F => fn_d F sc_law_reduced (fun ds μ Q ξ ⟨_, _, hd, _⟩ => by subst hd; rfl) fun cdv B outer s H E G0 ξ ok ds μ Q ⟨t, b, hd, b0, b8, t1, q⟩ => by
  subst hd
  refine sd_cons (s1_put ok 2 (ed_var 1 rfl ?_))
  refine sd_cons (s1_put ok 3 (ed_abs T.f_abs (ed_var 0 rfl ⟨_, rfl, ?_⟩)))
  have ea : (if t < 0 then -t else t) = ((t.natAbs : Nat) : Int) := by split <;> omega
  have eb : b = ((b.natAbs : Nat) : Int) := by omega
  rw [ea]
  refine sd_cons (s1_forR 4 (fun j ρ' μ' => ∃ x, ρ' = [some (.int t), some (.int b), some (.int ((eu (b.natAbs, t.natAbs) j).1 : Nat)), some (.int ((eu (b.natAbs, t.natAbs) j).2 : Nat)), x] ∧ μ' = μ) ok T.f_range (ad_cons (ed_int (ad_nil ⟨n200, rfl, by unfold n200; omega, by unfold n200; omega, ⟨none, ?_, rfl⟩, ?_, ?_⟩))))
  · show _ = [some (D.int t), some (D.int b), some (D.int (b.natAbs : Nat)), some (D.int (t.natAbs : Nat)), none]
    rw [← eb]; rfl
  · intro j ρ' μ' hj ⟨x, hρ, hμ⟩
    subst hρ
    subst μ'
    refine sd_one (s1_if (td_gt (ed_var 3 rfl (ed_int ⟨_, _, rfl, rfl, if_b (fun c => ?_) fun c => ?_⟩))))
    · have c := of_decide_eq_true c
      refine sd_one (s1_par 2 3 ok.calm ok.nd (ad_cons (ed_var 3 rfl (ad_cons (ed_mod (ed_int1 T.f_int (ed_var 2 rfl (.inl ⟨_, rfl, ed_var 3 rfl ⟨_, _, rfl, rfl, c, ad_nil ⟨_, _, rfl, ?_⟩⟩⟩))))))))
      refine ⟨some (.int j), ?_, rfl⟩
      show _ = [_, _, some (D.int ((stp (eu (b.natAbs, t.natAbs) j)).1 : Nat)), some (D.int ((stp (eu (b.natAbs, t.natAbs) j)).2 : Nat)), _]
      unfold stp
      rw [if_pos (by omega)]
      rfl
    · have c := of_decide_eq_false c
      refine sd_nil ⟨some (.int j), ?_, rfl⟩
      show _ = [_, _, some (D.int ((stp (eu (b.natAbs, t.natAbs) j)).1 : Nat)), some (D.int ((stp (eu (b.natAbs, t.natAbs) j)).2 : Nat)), _]
      unfold stp
      rw [if_neg (by omega)]
      rfl
  · intro ρ' μ' ⟨x, hρ, hμ⟩
    subst hρ
    subst μ'
    have el : (eu (b.natAbs, t.natAbs) n200.toNat).1 = Int.gcd t b := by
      rw [show n200.toNat = 200 from rfl, eu_low t1, Nat.gcd_comm]; rfl
    have gp := g_pos (t := t) b0
    have gle : Int.gcd t b ≤ b.natAbs := Nat.le_of_dvd (by omega) (Int.gcd_dvd_natAbs_right ..)
    have gd : ((Int.gcd t b : Nat) : Int).natAbs < 2 ^ 8000 := by rw [Int.natAbs_natCast]; omega
    rw [el]
    exact sd_one (s1_ret (ed_tup (ad_cons (ed_fdivW (ed_var 0 rfl (ed_var 2 rfl ⟨_, _, rfl, rfl, div_ok gp gd, ad_cons (ed_fdivW (ed_var 1 rfl (ed_var 2 rfl ⟨_, _, rfl, rfl, div_ok gp gd, ad_nil ⟨by simp, q⟩⟩)))⟩))))))
end
end DD
set_option Elab.async false
set_option linter.all false
set_option maxRecDepth 100000
set_option maxHeartbeats 4000000
/-! E11: the law's deals, bids, fractions. -/
namespace DD
open PySem PySem.Spec PyProof.Rows L2 PM
section
variable {P : Program} {w : World} {K : PySem.W.Frag} {mg : Str → Option Value} {base : Heap} {A : Ad}
theorem deals_snoc : ∀ (fr ds : List Nat) (a : Nat), deals ds (fr ++ [a]) = deals ds fr ++ (deals ds fr).map (· + 2 ^ a)
  | [], ds, a => rfl
  | h :: r, ds, a => by show deals (ds ++ ds.map (· + 2 ^ h)) (r ++ [a]) = _; rw [deals_snoc r]; rfl
theorem zI_more (l : List Nat) (c : Nat) : (zI (l ++ l.map (· + c))).map D.int = (zI l).map D.int ++ l.map (fun m : Nat => D.int ((m + c : Nat) : Int)) := by
  unfold zI
  rw [List.map_append, List.map_append, List.map_map, List.map_map, List.map_map]; rfl
def S_deals : SpD := fun ds μ Q _ => ∃ (nm : Nat) (free : List Nat), ds = [.int nm, lI (zI free)] ∧ free.length ≤ 7 ∧ (∀ i ∈ free, i < 7) ∧ Q (lI (zI (deals [nm] free))) μ
theorem fd_deals (T : Txt P K mg A) : Fd P w K mg base 1 "_law_deals" S_deals := T.d_law_deals.fd (ps := p_law_deals) bd_law_deals fun f fd F => fn_d F sc_law_deals (fun ds μ Q ξ ⟨_, _, hd, _⟩ => by subst hd; rfl) fun cdv B outer s H E G0 ξ ok ds μ Q ⟨nm, free, hd, h7, hf, q⟩ => by
  subst hd
  have zz : ∀ l : List Nat, (zI l).map D.int = l.map fun i : Nat => D.int (i : Int) := fun l => by unfold zI; rw [List.map_map]; rfl
  refine sd_cons (s1_put ok 2 (ed_lst (ad_cons (ed_var 0 rfl (ad_nil ⟨by simp, ?_⟩)))))
  refine sd_cons (s1_forQ 1 3 (fun j ρ' μ' => ∃ x3 x4, ρ' = [some (.int nm), some (lI (zI free)), some (lI (zI (deals [nm] (free.take j)))), x3, x4] ∧ μ' = μ) ok rfl (.inr rfl) ⟨none, none, rfl, rfl⟩ (fun j d' ρ' μ' hj ⟨x3, x4, hρ, hμ⟩ => ?_) fun ρ' μ' ⟨x3, x4, hρ, hμ⟩ => ?_)
  · obtain ⟨i, hi, hd'⟩ := zI_get hj
    subst hρ hd'
    subst μ'
    have i7 := hf i (List.mem_of_getElem? hi)
    have len : (deals [nm] (free.take j)).length ≤ 128 := by
      rw [deals_length, List.length_singleton, Nat.one_mul]
      exact pow_le7 (by rw [List.length_take]; omega)
    refine sd_one (s1_put ok 2 (ed_cat (ed_var 2 rfl (ed_lc 4 (fun m : Nat => .int m) (fun _ => true) (fun m : Nat => .int ((m + 2 ^ i : Nat) : Int)) ok (ed_var 2 rfl ⟨deals [nm] (free.take j), ?_, by omega, fun m hm s H C cl fp μ' hu => ⟨rfl, fun _ => ?_⟩, (fun _ h => nomatch h), ?_⟩) rfl fun _ _ _ _ _ => pg_name (i := 4) ok.nd rfl (Or.inl rfl)))))
    · exact congrArg some (zz _)
    · refine ed_add (ed_var 4 rfl (ed_shl (ed_int (ed_var 3 rfl ⟨_, _, rfl, rfl, ⟨by omega, by omega, by decide⟩, _, _, rfl, rfl, rfl, ?_⟩))))
      rw [shl1]; push_cast; rfl
    · rw [List.filter_eq_self.mpr (fun _ _ => rfl)]
      refine ⟨_, _, rfl, rfl, ?_, ?_⟩
      · rw [zI_len, List.length_map]; omega
      · refine ⟨some (.int i), x4, ?_, rfl⟩
        have tk : free.take (j + 1) = free.take j ++ [i] := by rw [List.take_succ, hi]; rfl
        rw [tk, deals_snoc]
        show [_, _, some (D.lst ((zI (deals [nm] (free.take j))).map D.int ++ _)), _, _] = _
        rw [← zI_more]
  · subst hρ
    subst μ'
    rw [zI_len, List.take_length]
    exact sd_one (s1_ret (ed_var 2 rfl q))
def S_lbelow : SpD := fun ds μ Q _ => ∃ (h : Nat) (ns : List Int) (nl fl free : List Nat) (x : Int), ds = [lI ns, .int (bs nl), lI (zI free), .int x] ∧ Good h ns ∧ Part h nl fl free ∧ Q (.int (many h ns x nl fl : Nat)) μ
theorem fd_below (T : Txt P K mg A) : Fd P w K mg base 2 "_law_below" S_lbelow := T.d_law_below.fd (ps := p_law_below) bd_law_below fun f fd F => fn_d F sc_law_below (fun ds μ Q ξ ⟨_, _, _, _, _, _, hd, _⟩ => by subst hd; rfl) fun cdv B outer s H E G0 ξ ok ds μ Q ⟨h, ns, nl, fl, free, x, hd, G, p, q⟩ => by
  subst hd
  have fl7 : free.length ≤ 7 := by
    have e := p.perm.length_eq
    have := p.h7
    rw [List.length_append, List.length_range] at e
    omega
  have zz : ∀ l : List Nat, (zI l).map D.int = l.map fun i : Nat => D.int (i : Int) := fun l => by unfold zI; rw [List.map_map]; rfl
  have ml : (deals [bs nl] free).length ≤ 128 := by rw [deals_length, List.length_singleton, Nat.one_mul]; exact pow_le7 fl7
  refine sd_cons (s1_put ok 4 (ed_call (fd_deals T) ok (ad_cons (ed_var 1 rfl (ad_cons (ed_var 2 rfl (ad_nil ⟨_, free, rfl, fl7, p.sub.2.2, ?_⟩)))))))
  refine sd_one (s1_ret (ed_len T.f_len (ed_lc 5 (fun m : Nat => .int m) (fun m => decide (at_ ns m < x)) (fun m : Nat => .int m) ok (ed_var 4 rfl ⟨deals [bs nl] free, congrArg some (zz _), by omega, fun m hm s H C cl fp μ' hu => ⟨?_, fun _ => ed_var 5 rfl ⟨rfl, rfl⟩⟩, (fun _ h => nomatch h), _, rfl, ?_⟩) rfl fun _ _ _ _ _ => pg_name (i := 5) ok.nd rfl (Or.inl rfl))))
  · have hm' := mem_masks.mp ((deals_masks p).mem_iff.mp hm)
    exact td_lt (ed_ixL (ed_var 0 rfl (ed_var 5 rfl ⟨_, _, _, rfl, rfl, atI_int (by rw [G.len]; exact hm'.1), ed_var 3 rfl ⟨_, _, rfl, rfl, rfl, rfl⟩⟩)))
  · rw [List.length_map]
    have e : ((deals [bs nl] free).filter fun m => decide (at_ ns m < x)).length = many h ns x nl fl := cnt_perm (deals_masks p)
    rw [e]
    exact q
/-! ### fractions -/
abbrev pr (t b : Int) : D := .tup [.int t, .int b]
def S_pair (A : Ad) : SpD := fun ds μ Q _ => ∃ t b : Int, ds = [rat A t b] ∧ Q (pr t b) μ
theorem fd_pair (T : Txt P K mg A) : Fd P w K mg base 1 "_law_pair" (S_pair A) := T.d_law_pair.fd (ps := p_law_pair) bd_law_pair fun f fd F => fn_d F sc_law_pair (fun ds μ Q ξ ⟨_, _, hd, _⟩ => by subst hd; rfl) fun cdv B outer s H E G0 ξ ok ds μ Q ⟨t, b, hd, q⟩ => by
  subst hd
  refine sd_cons (s1_if (td_val (ed_isiC T.f_isinstance T.c_rat (ed_var 0 rfl ⟨_, true, .ins rfl T.i_rat, T.k_rr, _, rfl, if_t rfl ?_⟩))))
  exact sd_one (s1_ret (ed_tup (ad_cons (ed_fld (ed_var 0 rfl ⟨A.rat, _, _, _, rfl, T.i_rat.cl, T.n_rat_top, by rfl, ad_cons (ed_fld (ed_var 0 rfl ⟨A.rat, _, _, _, rfl, T.i_rat.cl, T.n_rat_bottom, by rfl, ad_nil ⟨by simp, q⟩⟩))⟩)))))
def S_no_more : SpD := fun ds μ Q _ => ∃ a b c d : Int, ds = [pr a b, pr c d] ∧ (Sm a ∧ Sm b ∧ Sm c ∧ Sm d) ∧ Q (.bl (decide (a * d ≤ c * b))) μ
theorem ix0 {a b : D} : atI [a, b] 0 = some a := rfl
theorem ix1 {a b : D} : atI [a, b] 1 = some b := rfl
theorem fd_no_more (T : Txt P K mg A) : Fd P w K mg base 1 "_law_no_more" S_no_more := T.d_law_no_more.fd (ps := p_law_no_more) bd_law_no_more fun f fd F => fn_d F sc_law_no_more (fun ds μ Q ξ ⟨_, _, _, _, hd, _⟩ => by subst hd; rfl) fun cdv B outer s H E G0 ξ ok ds μ Q ⟨a, b, c, d, hd, ⟨m1, m2, m3, m4⟩, q⟩ => by
  subst hd
  refine sd_one (s1_ret (ed_le (ed_mulW (ed_ixT (ed_var 0 rfl (ed_int ⟨_, 0, _, rfl, rfl, ix0, ed_ixT (ed_var 1 rfl (ed_int ⟨_, 1, _, rfl, rfl, ix1, _, _, rfl, rfl, m1.mul m4, ?_⟩))⟩))))))
  exact ed_mulW (ed_ixT (ed_var 1 rfl (ed_int ⟨_, 0, _, rfl, rfl, ix0, ed_ixT (ed_var 0 rfl (ed_int ⟨_, 1, _, rfl, rfl, ix1, _, _, rfl, rfl, m3.mul m2, _, _, rfl, rfl, q⟩))⟩)))
/-- sizes: a, b at most X; c, d at most Y -/
structure Fit (a b c d : Int) (X Y : Nat) : Prop where
  a : a.natAbs ≤ X
  b : b.natAbs ≤ X
  c : c.natAbs ≤ Y
  d : d.natAbs ≤ Y
  xy : 2 * (X * Y) < 2 ^ 100
def S_sum : SpD := fun ds μ Q _ => ∃ (a b c d s : Int) (X Y : Nat), ds = [pr a b, pr c d, .int s] ∧ Fit a b c d X Y ∧ 0 < b ∧ 0 < d ∧ (s = 1 ∨ s = -1) ∧ Q (pr (rt (a * d + s * c * b) (b * d)) (rb (a * d + s * c * b) (b * d))) μ
theorem fit_sm {x : Int} {X : Nat} (h : x.natAbs ≤ X) (hX : X < 2 ^ 100) : Sm x := Nat.lt_of_le_of_lt h (Nat.lt_of_lt_of_le hX (Nat.pow_le_pow_right (by omega) (by omega)))
theorem Fit.lt {a b c d : Int} {X Y : Nat} (f : Fit a b c d X Y) (hb : 0 < b) (hd : 0 < d) : X < 2 ^ 100 ∧ Y < 2 ^ 100 := by
  have h1 : 1 ≤ X := by have := f.b; omega
  have h2 : 1 ≤ Y := by have := f.d; omega
  have h3 : X ≤ X * Y := Nat.le_mul_of_pos_right _ h2
  have h4 : Y ≤ X * Y := Nat.le_mul_of_pos_left _ h1
  have := f.xy
  generalize (2 : Nat) ^ 100 = N at *
  omega
theorem Fit.top {a b c d s : Int} {X Y : Nat} (f : Fit a b c d X Y) (hs : s = 1 ∨ s = -1) : (a * d + s * c * b).natAbs < 2 ^ 100 := by
  have h1 : (a * d).natAbs ≤ X * Y := by rw [Int.natAbs_mul]; exact Nat.mul_le_mul f.a f.d
  have h2 : (s * c * b).natAbs ≤ X * Y := by
    rw [Int.natAbs_mul, Int.natAbs_mul, Nat.mul_comm X Y]
    have : s.natAbs = 1 := by rcases hs with e | e <;> subst e <;> rfl
    rw [this, Nat.one_mul]
    exact Nat.mul_le_mul f.c f.b
  have h3 := Int.natAbs_add_le (a * d) (s * c * b)
  have := f.xy
  generalize (2 : Nat) ^ 100 = N at *
  omega
theorem Fit.bot {a b c d : Int} {X Y : Nat} (f : Fit a b c d X Y) : (b * d).natAbs < 2 ^ 8000 := by
  have h1 : (b * d).natAbs ≤ X * Y := by rw [Int.natAbs_mul]; exact Nat.mul_le_mul f.b f.d
  have := f.xy
  have e : (2 : Nat) ^ 100 ≤ 2 ^ 8000 := Nat.pow_le_pow_right (by omega) (by omega)
  generalize (2 : Nat) ^ 100 = N at *
  omega
theorem sm_s {s : Int} (hs : s = 1 ∨ s = -1) : Sm s := by rcases hs with e | e <;> subst e <;> (unfold Sm; decide)
theorem fd_sum (T : Txt P K mg A) : Fd P w K mg base 2 "_law_sum" S_sum := T.d_law_sum.fd (ps := p_law_sum) bd_law_sum fun f fd F => fn_d F sc_law_sum (fun ds μ Q ξ ⟨_, _, _, _, _, _, _, hd, _⟩ => by subst hd; rfl) fun cdv B outer s H E G0 ξ ok ds μ Q ⟨a, b, c, d, sg, X, Y, hd, f, b0, d0, hs, q⟩ => by
  subst hd
  obtain ⟨x1, y1⟩ := f.lt b0 d0
  have m1 := fit_sm f.a x1
  have m2 := fit_sm f.b x1
  have m3 := fit_sm f.c y1
  have m4 := fit_sm f.d y1
  have m5 : CMulW sg c := (sm_s hs).mul m3
  have m6 : Sm (sg * c) := by
    unfold Sm
    rw [Int.natAbs_mul]
    have : sg.natAbs = 1 := by rcases hs with e | e <;> subst e <;> rfl
    rw [this, Nat.one_mul]
    exact m3
  refine sd_cons (s1_put ok 3 (ed_add (ed_mulW (ed_ixT (ed_var 0 rfl (ed_int ⟨_, 0, _, rfl, rfl, ix0, ed_ixT (ed_var 1 rfl (ed_int ⟨_, 1, _, rfl, rfl, ix1, _, _, rfl, rfl, m1.mul m4, ?_⟩))⟩))))))
  refine ed_mulW (ed_mulW (ed_var 2 rfl (ed_ixT (ed_var 1 rfl (ed_int ⟨_, 0, _, rfl, rfl, ix0, _, _, rfl, rfl, m5, ed_ixT (ed_var 0 rfl (ed_int ⟨_, 1, _, rfl, rfl, ix1, _, _, rfl, rfl, m6.mul m2, _, _, rfl, rfl, ?_⟩))⟩)))))
  refine sd_one (s1_ret (ed_call (fd_reduced T) ok (ad_cons (ed_var 3 rfl (ad_cons (ed_mulW (ed_ixT (ed_var 0 rfl (ed_int ⟨_, 1, _, rfl, rfl, ix1, ed_ixT (ed_var 1 rfl (ed_int ⟨_, 1, _, rfl, rfl, ix1, _, _, rfl, rfl, m2.mul m4, ad_nil ⟨_, _, rfl, Int.mul_pos b0 d0, f.bot, f.top hs, q⟩⟩))⟩)))))))))
def S_value (A : Ad) : SpD := fun ds μ Q _ => ∃ (t b : Int) (c : Bool), ds = [pr t b, .bl c] ∧ 0 < b ∧ (-(10 ^ 60) ≤ t ∧ t ≤ 10 ^ 60 ∧ b ≤ 10 ^ 60) ∧ Rdc t b ∧ (∀ d, (c = false → d = rat A t b) → isF A d t b → Q d μ)
theorem p60 : (10 : Int) ^ 60 < 2 ^ 8000 := by decide +kernel
theorem fd_value (T : Txt P K mg A) : Fd P w K mg base 4 "_law_value" (S_value A) := T.d_law_value.fd (ps := p_law_value) bd_law_value fun f fd F => fn_d F sc_law_value (fun ds μ Q ξ ⟨_, _, _, hd, _⟩ => by subst hd; rfl) fun cdv B outer s H E G0 ξ ok ds μ Q ⟨t, b, c, hd, b0, ⟨t1, t2, t3⟩, hr, q⟩ => by
  subst hd
  have b8 : b.natAbs < 2 ^ 8000 := by
    have e : (10 : Nat) ^ 60 < 2 ^ 8000 := by decide +kernel
    have e2 : ((10 ^ 60 : Nat) : Int) = (10 : Int) ^ 60 := Int.natCast_pow 10 60
    generalize (10 : Int) ^ 60 = z at *
    generalize (10 : Nat) ^ 60 = n at *
    omega
  have go : SD (gam P w K mg base n_law_value "_law_value" (defScope s_law_value) f cdv B outer s H E G0 ξ) ((defBody s_law_value).drop 1) [some (pr t b), some (.bl c)] μ { nx := fun _ μ' => Q .non μ', rt := Q } := by
    refine sd_one (s1_ret (ed_freezeI (ed_make (nd_ratio T) ok (dds := [.bl true]) (fun G => ⟨_, _, rfl, rfl, rfl⟩) (ad_cons (ed_ixT (ed_var 0 rfl (ed_int ⟨_, 0, _, rfl, rfl, ix0, ad_cons (ed_ixT (ed_var 0 rfl (ed_int ⟨_, 1, _, rfl, rfl, ix1, ad_nil fun p dx hp => ⟨p, t, b, true, dx, rfl, mset_same, b0, b8, fun _ => ⟨t1, t2, t3⟩, ?_⟩⟩)))⟩)))))))
    rw [mset_mset, hr.rt, hr.rb]
    exact ⟨rfl, p, A.rat, dx, _, _, rfl, mset_same, by rw [mdel_mset hp]; exact q _ (fun _ => rfl) (.inr rfl)⟩
  refine sd_cons (s1_if (td_and (td_eqI (ed_ixT (ed_var 0 rfl (ed_int ⟨_, 1, _, rfl, rfl, ix1, ed_int ⟨_, _, rfl, rfl, if_b (fun e1 => td_val (ed_var 1 rfl ⟨c, rfl, if_b (fun e2 => ?_) fun _ => sd_nil go⟩)) fun _ => if_f rfl (sd_nil go)⟩⟩))))))
  have e1 := of_decide_eq_true e1
  refine sd_one (s1_ret (ed_ixT (ed_var 0 rfl (ed_int ⟨_, 0, _, rfl, rfl, ix0, q _ (fun z => by rw [e2] at z; cases z) (.inl ⟨rfl, e1⟩)⟩))))
end
end DD
set_option Elab.async false
set_option linter.all false
set_option maxRecDepth 100000
set_option maxHeartbeats 4000000
/-! E12: bids due, drawn bids, the wished number, the share. -/
namespace DD
open PySem PySem.Spec PyProof.Rows L2 PM
theorem lt_scale {t b m p : Int} (hb : 0 < b) (h : t * p < m * b) : rt t b * p < m * rb t b := by
  have g := g_pos (t := t) hb
  have e1 : rt t b * p * (Int.gcd t b : Int) = t * p := by rw [Int.mul_right_comm, rt_mul]
  have e2 : m * rb t b * (Int.gcd t b : Int) = m * b := by rw [Int.mul_assoc, rb_mul]
  exact Int.lt_of_mul_lt_mul_right (by rw [e1, e2]; exact h) (by omega)
theorem le_scale {t b m p : Int} (hb : 0 < b) (h : t * p ≤ m * b) : rt t b * p ≤ m * rb t b := by
  have g := g_pos (t := t) hb
  have e1 : rt t b * p * (Int.gcd t b : Int) = t * p := by rw [Int.mul_right_comm, rt_mul]
  have e2 : m * rb t b * (Int.gcd t b : Int) = m * b := by rw [Int.mul_assoc, rb_mul]
  exact Int.le_of_mul_le_mul_right (by rw [e1, e2]; exact h) g
section
variable {P : Program} {w : World} {K : PySem.W.Frag} {mg : Str → Option Value} {base : Heap} {A : Ad}
theorem zzI (l : List Nat) : (zI l).map D.int = l.map fun i : Nat => D.int (i : Int) := by unfold zI; rw [List.map_map]; rfl
theorem filt_ne (free : List Nat) (g : Nat) : free.filter (fun m : Nat => !decide ((m : Int) = (g : Int))) = free.filter (fun x => x != g) := by
  congr 1
  funext m
  by_cases e : m = g
  · subst e; simp
  · have : ¬ (m : Int) = (g : Int) := by omega
    simp [e, this]
def S_bid_due : SpD := fun ds μ Q _ => ∃ (h : Nat) (ns : List Int) (nl fl free : List Nat) (x : Int), ds = [lI ns, .int (bs nl), lI (zI free), .int x] ∧ Good h ns ∧ Part h nl fl free ∧ free ≠ [] ∧
  ∀ L m gL gm, Best h ns x nl fl free L m gL gm → Q (.tup [.int (gm : Nat), .int (gL : Nat), pr (rt (L - m) (2 ^ free.length : Nat)) (rb (L - m) (2 ^ free.length : Nat))]) μ
theorem fd_bid_due (T : Txt P K mg A) : Fd P w K mg base 3 "_law_bid_due" S_bid_due := T.d_law_bid_due.fd (ps := p_law_bid_due) bd_law_bid_due fun f fd F => fn_d F sc_law_bid_due (fun ds μ Q ξ ⟨_, _, _, _, _, _, hd, _⟩ => by subst hd; rfl) fun cdv B outer s H E G0 ξ ok ds μ Q ⟨h, ns, nl, fl, free, x, hd, G, p, hne, q⟩ => by
  subst hd
  have h7 := p.h7
  have fl0 : 0 < free.length := List.length_pos_iff.mpr hne
  have fl7 : free.length ≤ 7 := by
    have e := p.perm.length_eq
    rw [List.length_append, List.length_range] at e
    omega
  have p7 := pow_le7 fl7
  have hpz : (0 : Int) < ((2 ^ free.length : Nat) : Int) := by exact_mod_cast Nat.two_pow_pos _
  refine sd_cons (s1_put ok 4 (ed_lstM (ad_nil ⟨by simp, fun p1 hp1 => ?_⟩)))
  refine sd_cons (s1_put ok 5 (ed_lstM (ad_nil ⟨by simp, fun p2 hp2 => ?_⟩)))
  have n21 : p2 ≠ p1 := fun z => by rw [z, mset_same] at hp2; cases hp2
  have hp2' : μ p2 = none := by rw [mset_ne n21] at hp2; exact hp2
  refine sd_cons (s1_forQ 2 6 (fun j ρ' μ' => ∃ x6 x7 x9, ρ' = [some (lI ns), some (.int (bs nl)), some (lI (zI free)), some (.int x), some (.ptr p1), some (.ptr p2), x6, x7, none, x9] ∧
      μ' = mset (mset μ p1 (.lst (((hiredL h ns x nl fl free).take j).map D.int))) p2 (.lst (((lostL h ns x nl fl free).take j).map D.int))) ok rfl (.inr rfl) ⟨none, none, none, rfl, rfl⟩ (fun j d' ρ' μ' hj ⟨x6, x7, x9, hρ, hμ⟩ => ?_) fun ρ' μ' ⟨x6, x7, x9, hρ, hμ⟩ => ?_)
  · obtain ⟨g, hg, hd'⟩ := zI_get hj
    subst hρ hd'
    subst hμ
    have hgm := List.mem_of_getElem? hg
    have g7 := p.sub.2.2 g hgm
    have jl : j < free.length := (List.getElem?_eq_some_iff.mp hg).1
    have tk1 : ((hiredL h ns x nl fl free).take (j + 1)).map D.int = ((hiredL h ns x nl fl free).take j).map D.int ++ [.int (hired h ns x nl fl g : Nat)] := by
      rw [List.take_succ, List.getElem?_map, hg, List.map_append]; rfl
    have tk2 : ((lostL h ns x nl fl free).take (j + 1)).map D.int = ((lostL h ns x nl fl free).take j).map D.int ++ [.int (lost h ns x nl fl g : Nat)] := by
      rw [List.take_succ, List.getElem?_map, hg, List.map_append]; rfl
    generalize hX : ((hiredL h ns x nl fl free).take j).map D.int = X at *
    generalize hY : ((lostL h ns x nl fl free).take j).map D.int = Y at *
    have lX : X.length < 1000 := by rw [← hX, List.length_map, List.length_take]; omega
    have lY : Y.length < 1000 := by rw [← hY, List.length_map, List.length_take]; omega
    refine sd_cons (s1_setLc 9 7 (fun m : Nat => .int m) (fun m => !decide ((m : Int) = (g : Int))) (fun m : Nat => .int m) ok (ed_var 2 rfl ⟨free, congrArg some (zzI _), by omega, fun m hm s H C cl fp μ' hu => ⟨td_neI (ed_var 9 rfl (ed_var 6 rfl ⟨_, _, rfl, rfl, rfl, rfl⟩)), fun _ => ed_var 9 rfl ⟨rfl, rfl⟩⟩, (fun _ h => nomatch h), ?_⟩) rfl fun _ _ _ _ _ => pg_name (i := 9) ok.nd rfl (Or.inl rfl))
    rw [filt_ne, ← zzI]
    have hb1 : (bs nl : Int) + ((2 ^ g : Nat) : Int) = ((bs (nl ++ [g]) : Nat) : Int) := by rw [bs_append]; simp [bs]
    refine sd_cons (s1_expr (ed_append (ed_var 4 rfl ⟨p1, X, rfl, by rw [mset_ne (Ne.symm n21)]; exact mset_same, ?_⟩)))
    refine ed_call (fd_below T) ok (ad_cons (ed_var 0 rfl (ad_cons (ed_add (ed_var 1 rfl (ed_shl (ed_int (ed_var 6 rfl ⟨_, _, rfl, rfl, ⟨by omega, by omega, by decide⟩, ?_⟩))))))))
    rw [shl1]
    refine ⟨_, _, rfl, rfl, ad_cons (ed_var 7 rfl (ad_cons (ed_var 3 rfl (ad_nil ⟨h, ns, nl ++ [g], fl, _, x, by rw [hb1], G, p.hire hgm, ?_⟩))))⟩
    refine ⟨by rw [mset_ne (Ne.symm n21)]; exact mset_same, lX, ?_⟩
    refine sd_one (s1_expr (ed_append (ed_var 5 rfl ⟨p2, Y, rfl, by rw [mset_ne n21]; exact mset_same, ?_⟩)))
    refine ed_call (fd_below T) ok (ad_cons (ed_var 0 rfl (ad_cons (ed_var 1 rfl (ad_cons (ed_var 7 rfl (ad_cons (ed_var 3 rfl (ad_nil ⟨h, ns, nl, fl ++ [g], _, x, rfl, G, p.lose hgm, ?_⟩)))))))))
    refine ⟨by rw [mset_ne n21]; exact mset_same, lY, some (.int g), some (lI (zI (free.filter fun x => x != g))), x9, rfl, ?_⟩
    rw [tk1, tk2, mset_comm (a := p2) (b := p1) n21, mset_mset, mset_mset]
    rfl
  · subst hρ
    rw [zI_len, List.take_of_length_le (by rw [List.length_map]; exact Nat.le_refl _), List.take_of_length_le (by rw [List.length_map]; exact Nat.le_refl _)] at hμ
    subst hμ
    have gl1 : lstOf (mset (mset μ p1 (.lst ((hiredL h ns x nl fl free).map D.int))) p2 (.lst ((lostL h ns x nl fl free).map D.int))) (.ptr p1) = some ((hiredL h ns x nl fl free).map D.int) := lstOf_ptr (by rw [mset_ne (Ne.symm n21)]; exact mset_same)
    have gl2 : lstOf (mset (mset μ p1 (.lst ((hiredL h ns x nl fl free).map D.int))) p2 (.lst ((lostL h ns x nl fl free).map D.int))) (.ptr p2) = some ((lostL h ns x nl fl free).map D.int) := lstOf_ptr mset_same
    have l1 : 0 < (lostL h ns x nl fl free).length := by rw [List.length_map]; exact fl0
    have l2 : 0 < (hiredL h ns x nl fl free).length := by rw [List.length_map]; exact fl0
    have del : mdel (mdel (mset (mset μ p1 (.lst ((hiredL h ns x nl fl free).map D.int))) p2 (.lst ((lostL h ns x nl fl free).map D.int))) p2) p1 = μ := by
      rw [mdel_mset (by rw [mset_ne n21]; exact hp2'), mdel_mset hp1]
    generalize mset (mset μ p1 (.lst ((hiredL h ns x nl fl free).map D.int))) p2 (.lst ((lostL h ns x nl fl free).map D.int)) = μ2 at *
    have bnd : ∀ y, (y ∈ lostL h ns x nl fl free ∨ y ∈ hiredL h ns x nl fl free) → 0 ≤ y ∧ y ≤ 128 := fun y hy => by
      rcases hy with hy | hy
      · obtain ⟨g, hg, e⟩ := List.mem_map.mp hy
        have := hired_le (ns := ns) (x := x) p hg
        omega
      · obtain ⟨g, hg, e⟩ := List.mem_map.mp hy
        have := hired_le (ns := ns) (x := x) p hg
        omega
    refine sd_cons (s1_put ok 8 (ed_call (fd_reduced T) ok (ad_cons (ed_sub (ed_max ok.calm T.f_max (ed_var 5 rfl ⟨lostL h ns x nl fl free, gl2, l1, fun Lx hL hL2 => ed_min ok.calm T.f_min (ed_var 4 rfl ⟨hiredL h ns x nl fl free, gl1, l2, fun mx hm hm2 => ?_⟩)⟩))))))
    have bL := bnd Lx (.inl hL)
    have bm := bnd mx (.inr hm)
    refine ⟨_, _, rfl, rfl, ad_cons (ed_shl (ed_int (ed_len T.f_len (ed_var 2 rfl ⟨_, rfl, _, _, rfl, rfl, ⟨by rw [zI_len]; omega, by rw [zI_len]; omega, by decide⟩, ad_nil ⟨_, _, rfl, ?_, ?_, ?_, ?_⟩⟩))))⟩
    · rw [shl1, zI_len]; exact hpz
    · rw [shl1, zI_len, Int.natAbs_natCast]
      exact Nat.lt_of_le_of_lt p7 (Nat.lt_of_lt_of_le (show 128 < 2 ^ 8 by decide) (Nat.pow_le_pow_right (by omega) (by omega)))
    · exact Nat.lt_of_le_of_lt (show (Lx - mx).natAbs ≤ 128 by omega) (by decide)
    rw [shl1, zI_len]
    obtain ⟨jL, fL⟩ := first_of hL
    obtain ⟨jm, fm⟩ := first_of hm
    have jLl : jL < free.length := by
      have := (List.getElem?_eq_some_iff.mp fL.1).1
      rwa [List.length_map] at this
    have jml : jm < free.length := by
      have := (List.getElem?_eq_some_iff.mp fm.1).1
      rwa [List.length_map] at this
    have b : Best h ns x nl fl free Lx mx free[jL] free[jm] := ⟨hL, hL2, hm, hm2, ⟨jL, fL, by simp⟩, ⟨jm, fm, by simp⟩⟩
    have ix : ∀ (j : Nat) (hj : j < free.length), atI ((zI free).map D.int) (j : Int) = some (D.int (free[j] : Nat)) := fun j hj => by
      rw [atI_nat (by rw [zI_len]; exact hj), zzI, List.getElem?_map, List.getElem?_eq_getElem hj]; rfl
    refine sd_one (s1_ret (ed_drop (ed_drop (ed_tup (ad_cons (ed_ixL (ed_var 2 rfl (ed_index (ed_var 4 rfl ⟨hiredL h ns x nl fl free, gl1, ed_min ok.calm T.f_min (ed_var 4 rfl ⟨hiredL h ns x nl fl free, gl1, l2, fun m2 hm' hm2' => ?_⟩)⟩)))))))))
    have e : m2 = mx := Int.le_antisymm (hm2' _ hm) (hm2 _ hm')
    subst e
    refine ⟨_, rfl, gl1, jm, fm.1, fm.2, _, _, _, rfl, rfl, ix jm jml, ?_⟩
    refine ad_cons (ed_ixL (ed_var 2 rfl (ed_index (ed_var 5 rfl ⟨lostL h ns x nl fl free, gl2, ed_max ok.calm T.f_max (ed_var 5 rfl ⟨lostL h ns x nl fl free, gl2, l1, fun m3 hm' hm3' => ?_⟩)⟩))))
    have e : m3 = Lx := Int.le_antisymm (hL2 _ hm') (hm3' _ hL)
    subst e
    refine ⟨_, rfl, gl2, jL, fL.1, fL.2, _, _, _, rfl, rfl, ix jL jLl, ad_cons (ed_var 8 rfl (ad_nil ⟨by simp, p2, p1, ?_⟩))⟩
    rw [del]
    exact q _ _ _ _ b
/-- a bid that its side may make -/
structure Bid (pt pb W t b : Int) : Prop where
  t0 : 0 ≤ t
  b0 : 0 < b
  b6 : b ≤ 1000000
  le : t * pb ≤ pt * b
  dv : b ∣ W
  rd : Rdc t b
/-- coins -/
structure Coins (pt pb W : Int) : Prop where
  t0 : 0 ≤ pt
  t1 : pt ≤ pb
  b0 : 0 < pb
  dv : pb ∣ W
  w0 : 0 < W
  w1 : W ≤ 3000000000000000
  wd : 2037000000 ∣ W
  rd : Rdc pt pb
theorem Coins.b1 {pt pb W : Int} (c : Coins pt pb W) : pb ≤ 3000000000000000 := Int.le_trans (Int.le_of_dvd c.w0 c.dv) c.w1
theorem Coins.sm {pt pb W : Int} (c : Coins pt pb W) : Sm pt ∧ Sm pb := by
  have h1 := c.b1
  have h2 := c.t0
  have h3 := c.t1
  have e1 : (3000000000000000 : Int) ≤ 10 ^ 200 := by decide
  have e2 : -(10 ^ 200 : Int) ≤ 0 := by decide
  exact ⟨sm_of ⟨by omega, by omega⟩, sm_of ⟨by omega, by omega⟩⟩
theorem Coins.d6 {pt pb W : Int} (c : Coins pt pb W) : 1000000 ∣ W := Int.dvd_trans (by decide) c.wd
theorem ed_1e6 {Γ : Ctx} {ρ : Rho} {μ : Mu} {Q : D → Mu → Prop} {j1 j2 : Nat} {p1 p2 pos : Pos} (q : Q (.int 1000000) μ) : ED Γ (.BinOp (.Constant (.int 10) j1 p1) .Pow (.Constant (.int 6) j2 p2) pos) ρ μ Q :=
  ed_pow (ed_int (ed_int ⟨_, _, rfl, rfl, ⟨by decide, by decide, by decide⟩, q⟩))
theorem ed_1e9 {Γ : Ctx} {ρ : Rho} {μ : Mu} {Q : D → Mu → Prop} {j1 j2 : Nat} {p1 p2 pos : Pos} (q : Q (.int 1000000000) μ) : ED Γ (.BinOp (.Constant (.int 10) j1 p1) .Pow (.Constant (.int 9) j2 p2) pos) ρ μ Q :=
  ed_pow (ed_int (ed_int ⟨_, _, rfl, rfl, ⟨by decide, by decide, by decide⟩, q⟩))
def S_all_of : SpD := fun ds μ Q _ => ∃ pt pb W : Int, ds = [pr pt pb] ∧ Coins pt pb W ∧ ∀ t b, Bid pt pb W t b → Q (pr t b) μ
theorem fd_all_of (T : Txt P K mg A) : Fd P w K mg base 2 "_law_all_of" S_all_of := T.d_law_all_of.fd (ps := p_law_all_of) bd_law_all_of fun f fd F => fn_d F sc_law_all_of (fun ds μ Q ξ ⟨_, _, _, hd, _⟩ => by subst hd; rfl) fun cdv B outer s H E G0 ξ ok ds μ Q ⟨pt, pb, W, hd, c, q⟩ => by
  subst hd
  have c0 := c.t0
  have c1 := c.t1
  have cb := c.b0
  have cb1 := c.b1
  refine sd_cons (s1_if (td_le (ed_ixT (ed_var 0 rfl (ed_int ⟨_, 1, _, rfl, rfl, ix1, ed_1e6 ⟨_, _, rfl, rfl, if_b (fun e => ?_) fun e => sd_nil ?_⟩⟩)))))
  · exact sd_one (s1_ret (ed_var 0 rfl (q _ _ ⟨c0, cb, of_decide_eq_true e, Int.le_refl _, c.dv, c.rd⟩)))
  · refine sd_one (s1_ret (ed_call (fd_reduced T) ok (ad_cons (ed_fdivW (ed_mulW (ed_ixT (ed_var 0 rfl (ed_int ⟨_, 0, _, rfl, rfl, ix0, ed_1e6 ⟨_, _, rfl, rfl, c.sm.1.mul (by unfold Sm; decide), ed_ixT (ed_var 0 rfl (ed_int ⟨_, 1, _, rfl, rfl, ix1, _, _, rfl, rfl, div_ok cb ?_, ad_cons (ed_1e6 (ad_nil ⟨_, _, rfl, by decide, ?_, ?_, q _ _ ?_⟩))⟩))⟩⟩))))))))
    · exact Nat.lt_of_lt_of_le c.sm.2 (Nat.pow_le_pow_right (by omega) (by omega))
    · have : (1000000 : Int).natAbs < 2 ^ 20 := by decide
      exact Nat.lt_of_lt_of_le this (Nat.pow_le_pow_right (by omega) (by omega))
    · have h1 : pt * 1000000 / pb ≤ 1000000 := Int.ediv_le_of_le_mul cb (by rw [Int.mul_comm 1000000]; exact Int.mul_le_mul_of_nonneg_right c1 (by omega))
      have h0 : 0 ≤ pt * 1000000 / pb := Int.ediv_nonneg (by omega) (by omega)
      exact Nat.lt_of_le_of_lt (show (pt * 1000000 / pb).natAbs ≤ 1000000 by omega) (by decide)
    · have h0 : 0 ≤ pt * 1000000 / pb := Int.ediv_nonneg (by omega) (by omega)
      have h2 : pt * 1000000 / pb * pb ≤ pt * 1000000 := Int.ediv_mul_le _ (by omega)
      exact ⟨rt_nonneg h0, rb_pos (by decide), rb_le (by decide), le_scale (by decide) h2, Int.dvd_trans (rb_dvd_b _ _) c.d6, rdc_red (by decide)⟩
end
end DD
set_option Elab.async false
set_option linter.all false
set_option maxRecDepth 100000
set_option maxHeartbeats 4000000
/-! E13: drawn bids, the wished number, the share, equality of data. -/
namespace DD
open PySem PySem.Spec PyProof.Rows L2 PM
section
variable {P : Program} {w : World} {K : PySem.W.Frag} {mg : Str → Option Value} {base : Heap} {A : Ad}
theorem sm1e6 : Sm 1000000 := by unfold Sm; decide
theorem big8 : (2 : Nat) ^ 1000 ≤ 2 ^ 8000 := Nat.pow_le_pow_right (by omega) (by omega)
def S_any_bid : SpD := fun ds μ Q _ => ∃ (cs : List Int) (b : Addr) (μ0 : Mu) (pt pb W dt db o : Int), ds = [lI cs, .ptr b, pr pt pb, pr dt db, .int o] ∧ Bx μ0 b μ ∧ Coins pt pb W ∧ (0 ≤ dt ∧ dt ≤ 128 ∧ 0 < db ∧ db ≤ 1000000 ∧ db ∣ 1000000 ∧ Rdc dt db) ∧ ∀ t bb μ', Bid pt pb W t bb → Bx μ0 b μ' → Q (pr t bb) μ'
theorem fd_any_bid (T : Txt P K mg A) : Fd P w K mg base 3 "_law_any_bid" S_any_bid := T.d_law_any_bid.fd (ps := p_law_any_bid) bd_law_any_bid fun f fd F => fn_d F sc_law_any_bid (fun ds μ Q ξ ⟨_, _, _, _, _, _, _, _, _, hd, _⟩ => by subst hd; rfl) fun cdv B outer s H E G0 ξ ok ds μ Q ⟨cs, b, μ0, pt, pb, W, dt, db, o, hd, hB, c, ⟨d0, d1, b0, b1, dv, rd⟩, q⟩ => by
  subst hd
  have c0 := c.t0
  have c1 := c.t1
  have cb := c.b0
  have cb1 := c.b1
  have sdt : Sm dt := sm_of ⟨by have : -(10 ^ 200 : Int) ≤ 0 := by decide
                                omega, by have : (1000000 : Int) ≤ 10 ^ 200 := by decide
                                          omega⟩
  have sdb : Sm db := sm_of ⟨by have : -(10 ^ 200 : Int) ≤ 0 := by decide
                                omega, by have : (1000000 : Int) ≤ 10 ^ 200 := by decide
                                          omega⟩
  -- what is behind the first if
  have fit : Fit dt db 1 1000000 1000000 1000000 := ⟨by omega, by omega, by decide, by decide, by decide⟩
  have pos : (0 : Int) < db * 1000000 := by omega
  refine sd_cons (s1_if (td_eqI (ed_var 4 rfl (ed_int ⟨_, _, rfl, rfl, if_b (fun e => ?_) fun e => sd_nil ?_⟩))))
  · refine sd_cons (s1_put ok 5 (ed_ixL (ed_lst (ad_cons (ed_1e6 (ad_lits (zs := [1, 2, 3, 7, 64, 97]) rfl ⟨by simp, ?_⟩))))))
    refine ed_call (fd_digit T) ok (ad_cons (ed_var 0 rfl (ad_cons (ed_var 1 rfl (ad_cons (ed_int (ad_nil ⟨cs, b, 7, μ0, rfl, hB, by omega, by omega, fun d μ2 hd0 hd1 hB2 => ?_⟩)))))))
    obtain ⟨z, hz, hzm⟩ := lit_int (zs := [1000000, 1, 2, 3, 7, 64, 97]) hd0 (by simpa using hd1)
    refine ⟨_, _, _, rfl, rfl, hz, ?_⟩
    have z1 : 1 ≤ z ∧ z ≤ 1000000 ∧ z ∣ 2037000000 := by
      simp at hzm
      rcases hzm with e | e | e | e | e | e | e <;> subst e <;> decide
    have sz : Sm z := sm_of ⟨by have : -(10 ^ 200 : Int) ≤ 0 := by decide
                                omega, by have : (1000000 : Int) ≤ 10 ^ 200 := by decide
                                          omega⟩
    refine sd_cons (s1_put ok 6 (ed_fdivW (ed_mulW (ed_ixT (ed_var 2 rfl (ed_int ⟨_, 0, _, rfl, rfl, ix0, ed_var 5 rfl ⟨_, _, rfl, rfl, c.sm.1.mul sz, ed_ixT (ed_var 2 rfl (ed_int ⟨_, 1, _, rfl, rfl, ix1, _, _, rfl, rfl, div_ok cb (Nat.lt_of_lt_of_le c.sm.2 big8), ?_⟩))⟩⟩))))))
    have m0 : 0 ≤ pt * z / pb := Int.ediv_nonneg (Int.mul_nonneg c0 (by omega)) (by omega)
    have m1 : pt * z / pb ≤ z := Int.ediv_le_of_le_mul cb (by rw [Int.mul_comm z]; exact Int.mul_le_mul_of_nonneg_right c1 (by omega))
    refine sd_one (s1_ret (ed_call (fd_reduced T) ok (ad_cons (ed_call (fd_digit T) ok (ad_cons (ed_var 0 rfl (ad_cons (ed_var 1 rfl (ad_cons (ed_add (ed_var 6 rfl (ed_int ⟨_, _, rfl, rfl, ad_nil ⟨cs, b, _, μ0, rfl, hB2, by omega, by omega, fun d2 μ3 hd20 hd21 hB3 => ?_⟩⟩))))))))))))
    refine ad_cons (ed_var 5 rfl (ad_nil ⟨_, _, rfl, by omega, Nat.lt_of_lt_of_le sz big8, ?_, q _ _ _ ?_ hB3⟩))
    · exact Nat.lt_of_le_of_lt (show d2.natAbs ≤ 1000000 by omega) (by decide)
    · have h2 : d2 * pb ≤ pt * z := Int.le_trans (Int.mul_le_mul_of_nonneg_right (show d2 ≤ pt * z / pb by omega) (by omega)) (Int.ediv_mul_le _ (by omega))
      exact ⟨rt_nonneg hd20, rb_pos (by omega), Int.le_trans (rb_le (by omega)) z1.2.1, le_scale (by omega) h2, Int.dvd_trans (rb_dvd_b _ _) (Int.dvd_trans z1.2.2 c.wd), rdc_red (by omega)⟩
  refine sd_stay (s1_if (td_and (td_eqI (ed_var 4 rfl (ed_int ⟨_, _, rfl, rfl, if_b (fun e => td_val (ed_call (fd_no_more T) ok (ad_cons (ed_var 3 rfl (ad_cons (ed_var 2 rfl (ad_nil ⟨dt, db, pt, pb, rfl, ⟨sdt, sdb, c.sm.1, c.sm.2⟩, _, rfl, if_b (fun e2 => ?_) fun _ => sd_nil ⟨rfl, rfl⟩⟩))))))) fun _ => if_f rfl (sd_nil ⟨rfl, rfl⟩)⟩))))) ?_
  · exact sd_one (s1_ret (ed_var 3 rfl (q _ _ _ ⟨d0, b0, b1, of_decide_eq_true e2, Int.dvd_trans dv c.d6, rd⟩ hB)))
  refine sd_cons (s1_put ok 7 (ed_call (fd_sum T) ok (ad_cons (ed_var 3 rfl (ad_cons (ed_tup (ad_cons (ed_int (ad_cons (ed_1e6 (ad_nil ⟨by simp, ad_cons (ed_neg (ed_int ⟨_, rfl, ad_nil ⟨dt, db, 1, 1000000, -1, _, _, rfl, fit, b0, by decide, .inr rfl, ?_⟩⟩))⟩)))))))))))
  have e1 : dt * 1000000 + -1 * 1 * db = dt * 1000000 - db := by omega
  rw [e1]
  generalize hx : dt * 1000000 - db = x
  have xs : Sm x := sm_of ⟨by have : -(10 ^ 200 : Int) ≤ -1000000 := by decide
                              omega, by have : (128000000 : Int) ≤ 10 ^ 200 := by decide
                                        omega⟩
  have sb1 : Sm (db * 1000000) := sm_of ⟨by have : -(10 ^ 200 : Int) ≤ 0 := by decide
                                            omega, by have : (1000000000000 : Int) ≤ 10 ^ 200 := by decide
                                                      omega⟩
  have fin : ∀ ρ', (ρ'[2]? = some (some (pr pt pb)) ∧ ρ'[4]? = some (some (.int o))) → SD (gam P w K mg base n_law_any_bid "_law_any_bid" (defScope s_law_any_bid) f cdv B outer s H E G0 ξ) ((defBody s_law_any_bid).drop 4) ρ' μ { nx := fun _ μ' => Q .non μ', rt := Q } := fun ρ' ⟨h2, h4⟩ => by
    refine sd_cons (s1_if (td_eqI (ed_var 4 h4 (ed_int ⟨_, _, rfl, rfl, if_b (fun e => ?_) fun _ => sd_nil ?_⟩))))
    · exact sd_one (s1_ret (ed_tup (ad_cons (ed_int (ad_cons (ed_int (ad_nil ⟨by simp, q 0 1 _ ⟨by omega, by omega, by omega, by rw [Int.zero_mul]; omega, Int.one_dvd _, rdc_one 0⟩ hB⟩)))))))
    · exact sd_one (s1_ret (ed_call (fd_all_of T) ok (ad_cons (ed_var 2 h2 (ad_nil ⟨pt, pb, W, rfl, c, fun t bb h => q _ _ _ h hB⟩)))))
  have rbp := rb_pos (t := x) pos
  refine sd_cons (s1_if (td_and3 (td_eqI (ed_var 4 rfl (ed_int ⟨_, _, rfl, rfl, if_b (fun e => ?_) fun _ => if_f rfl (sd_nil (fin _ ⟨rfl, rfl⟩))⟩)))))
  refine td_ge (ed_ixT (ed_var 7 rfl (ed_int ⟨_, 0, _, rfl, rfl, ix0, ed_int ⟨_, _, rfl, rfl, if_b (fun e2 => ?_) fun _ => if_f rfl (sd_nil (fin _ ⟨rfl, rfl⟩))⟩⟩)))
  have e2 := of_decide_eq_true e2
  refine td_val (ed_call (fd_no_more T) ok (ad_cons (ed_var 7 rfl (ad_cons (ed_var 2 rfl (ad_nil ⟨_, _, pt, pb, rfl, ⟨sm_rt xs, sm_rb pos sb1, c.sm.1, c.sm.2⟩, _, rfl, if_b (fun e3 => ?_) fun _ => sd_nil (fin _ ⟨rfl, rfl⟩)⟩))))))
  have e3 := of_decide_eq_true e3
  refine sd_one (s1_ret (ed_var 7 rfl (q _ _ _ ⟨e2, rbp, ?_, e3, ?_, rdc_red pos⟩ hB)))
  · have hd : rb x (db * 1000000) ∣ 1000000 := by
      have := rb_sum (t1 := dt) (b1 := db) (t2 := 1) (b2 := 1000000) (s := -1) (W := 1000000) b0 (by decide) dv ⟨1, by decide⟩
      rw [e1, hx] at this
      exact this
    exact Int.le_of_dvd (by decide) hd
  · have hd : rb x (db * 1000000) ∣ 1000000 := by
      have := rb_sum (t1 := dt) (b1 := db) (t2 := 1) (b2 := 1000000) (s := -1) (W := 1000000) b0 (by decide) dv ⟨1, by decide⟩
      rw [e1, hx] at this
      exact this
    exact Int.dvd_trans hd c.d6
def S_wished : SpD := fun ds μ Q _ => ∃ (cs : List Int) (b : Addr) (μ0 : Mu) (h : Nat) (ns : List Int), ds = [lI cs, .ptr b, lI ns, lI (zI (List.range h))] ∧ Bx μ0 b μ ∧ Good h ns ∧ ∀ x μ', -1000000000 ≤ x → x ≤ 1000000000 → 0 < many h ns x [] [] → Bx μ0 b μ' → Q (.int x) μ'
theorem fd_wished (T : Txt P K mg A) : Fd P w K mg base 3 "_law_wished" S_wished := T.d_law_wished.fd (ps := p_law_wished) bd_law_wished fun f fd F => fn_d F sc_law_wished (fun ds μ Q ξ ⟨_, _, _, _, _, hd, _⟩ => by subst hd; rfl) fun cdv B outer s H E G0 ξ ok ds μ Q ⟨cs, b, μ0, h, ns, hd, hB, G, q⟩ => by
  subst hd
  have h7 := G.h7
  have p7 := pow_le7 h7
  have pp := Nat.two_pow_pos h
  have fe : ((ns.length : Nat) : Int) - 1 = ((2 ^ h - 1 : Nat) : Int) := by rw [G.len]; omega
  refine sd_cons (s1_put ok 4 (ed_sub (ed_len T.f_len (ed_var 2 rfl ⟨_, rfl, ed_int ⟨_, _, rfl, rfl, ?_⟩⟩))))
  rw [List.length_map, fe]
  refine sd_cons (s1_put ok 5 (ed_mod (ed_int1 T.f_int (ed_add (ed_call (fd_digit T) ok (ad_cons (ed_var 0 rfl (ad_cons (ed_var 1 rfl (ad_cons (ed_add (ed_var 4 rfl (ed_int ⟨_, _, rfl, rfl, ad_nil ⟨cs, b, _, μ0, rfl, hB, by omega, by omega, fun d μ2 d0 d1 hB => ?_⟩⟩)))))))))))))
  refine ed_int ⟨_, _, rfl, rfl, .inl ⟨_, rfl, ed_add (ed_var 4 rfl (ed_int ⟨_, _, rfl, rfl, _, _, rfl, rfl, by omega, ?_⟩))⟩⟩
  generalize hc : (d + 5) % (((2 ^ h - 1 : Nat) : Int) + 1) = c
  have c0 : 0 ≤ c := by rw [← hc]; exact Int.emod_nonneg _ (by omega)
  have c1 : c < ((2 ^ h - 1 : Nat) : Int) + 1 := by rw [← hc]; exact Int.emod_lt_of_pos _ (by omega)
  obtain ⟨cn, rfl⟩ : ∃ cn : Nat, c = cn := ⟨c.toNat, by omega⟩
  have hcn : cn < 2 ^ h := by omega
  refine sd_cons (s1_put ok 6 (ed_add (ed_ixL (ed_var 2 rfl (ed_var 5 rfl ⟨_, _, _, rfl, rfl, atI_int (by rw [G.len]; exact hcn), ?_⟩)))))
  refine ed_ixL (ed_lits (zs := [0, 1, -1]) rfl (by decide) (ed_call (fd_digit T) ok (ad_cons (ed_var 0 rfl (ad_cons (ed_var 1 rfl (ad_cons (ed_int (ad_nil ⟨cs, b, 3, μ0, rfl, hB, by omega, by omega, fun d2 μ3 d20 d21 hB => ?_⟩)))))))))
  obtain ⟨z, hz, hzm⟩ := lit_int (zs := [0, 1, -1]) d20 (by simpa using d21)
  refine ⟨_, _, _, rfl, rfl, hz, _, _, rfl, rfl, ?_⟩
  refine sd_cons (s1_put ok 6 (ed_max2 ok.calm T.f_max (ed_neg (ed_1e9 ⟨_, rfl, ed_min2 ok.calm T.f_min (ed_1e9 (ed_var 6 rfl ⟨_, _, rfl, rfl, _, _, rfl, rfl, ?_⟩))⟩))))
  generalize hy : (if (if at_ ns cn + z < 1000000000 then at_ ns cn + z else 1000000000) > -1000000000 then (if at_ ns cn + z < 1000000000 then at_ ns cn + z else 1000000000) else -1000000000 : Int) = y
  have y0 : -1000000000 ≤ y ∧ y ≤ 1000000000 := by rw [← hy]; constructor <;> (repeat (first | split | omega))
  refine sd_cons (s1_if (td_eqI (ed_call (fd_below T) ok (ad_cons (ed_var 2 rfl (ad_cons (ed_int (ad_cons (ed_var 3 rfl (ad_cons (ed_var 6 rfl (ad_nil ⟨h, ns, [], [], List.range h, y, rfl, G, part0 h7, ed_int ⟨_, _, rfl, rfl, if_b (fun e => ?_) fun e => sd_nil ?_⟩⟩))))))))))))
  · obtain ⟨f0, f1⟩ := full_nonneg G
    have fb := G.bnd _ (at_mem (ns := ns) (c := 2 ^ h - 1) (by rw [G.len]; omega))
    refine sd_cons (s1_put ok 6 (ed_min2 ok.calm T.f_min (ed_1e9 (ed_add (ed_ixL (ed_var 2 rfl (ed_var 4 rfl ⟨_, _, _, rfl, rfl, atI_int (by rw [G.len]; omega), ed_int ⟨_, _, rfl, rfl, _, _, rfl, rfl, sd_nil ?_⟩⟩)))))))
    refine sd_one (s1_ret (ed_var 6 rfl (q _ _ ?_ ?_ ?_ hB)))
    · split <;> omega
    · split <;> omega
    · have hw := wish_pos G (y := if at_ ns (2 ^ h - 1) + 1 < 1000000000 then at_ ns (2 ^ h - 1) + 1 else 1000000000) (by split; exact .inr rfl; exact .inl rfl)
      have e : many h ns (if at_ ns (2 ^ h - 1) + 1 < 1000000000 then at_ ns (2 ^ h - 1) + 1 else 1000000000) [] [] = _ := (cnt_perm (deals_masks (part0 h7))).symm
      rw [e]
      exact hw
  · have e := of_decide_eq_false e
    exact sd_one (s1_ret (ed_var 6 rfl (q _ _ y0.1 y0.2 (by omega) hB)))
end
end DD
set_option Elab.async false
set_option linter.all false
set_option maxRecDepth 100000
set_option maxHeartbeats 4000000
/-! E14: the share, equality of data. -/
namespace DD
open PySem PySem.Spec PyProof.Rows L2 PM
section
variable {P : Program} {w : World} {K : PySem.W.Frag} {mg : Str → Option Value} {base : Heap} {A : Ad}
theorem ceil_lt {m n p d : Int} (hp : 0 < p) (h0 : 0 ≤ d) (h : d < -(-m * n / p)) : d * p < m * n := by
  have h1 : -m * n / p < -d := by omega
  have h2 := (Int.ediv_lt_iff_lt_mul hp).mp h1
  rw [Int.neg_mul] at h2
  have e : -d * p = -(d * p) := Int.neg_mul ..
  omega
theorem ceil_pos {m n p : Int} (hp : 0 < p) (hm : 0 < m * n) : 0 < -(-m * n / p) := by
  have h1 : -m * n / p < 0 := (Int.ediv_lt_iff_lt_mul hp).mpr (by rw [Int.neg_mul]; omega)
  omega
theorem ceil_le {m n p : Int} (hp : 0 < p) (hm : m ≤ p) (hn : 0 ≤ n) : -(-m * n / p) ≤ n := by
  have h1 : -n ≤ -m * n / p := (Int.le_ediv_iff_mul_le hp).mpr (by
    have := Int.mul_le_mul_of_nonneg_left hm hn
    rw [Int.neg_mul, Int.neg_mul, Int.mul_comm m n]
    omega)
  omega
def S_share : SpD := fun ds μ Q _ => ∃ (cs : List Int) (b : Addr) (μ0 : Mu) (many parts : Int), ds = [lI cs, .ptr b, .int many, .int parts] ∧ Bx μ0 b μ ∧ (0 < many ∧ many ≤ parts ∧ parts ≤ 64 ∧ parts ∣ 1000000) ∧
  ∀ st sb μ', 0 ≤ st → st ≤ sb → 0 < sb → sb ≤ 1000000 → Rdc st sb → (many = parts ∨ st * parts < many * sb) → Bx μ0 b μ' → Q (pr st sb) μ'
theorem fd_share (T : Txt P K mg A) : Fd P w K mg base 3 "_law_share" S_share := T.d_law_share.fd (ps := p_law_share) bd_law_share fun f fd F => fn_d F sc_law_share (fun ds μ Q ξ ⟨_, _, _, _, _, hd, _⟩ => by subst hd; rfl) fun cdv B outer s H E G0 ξ ok ds μ Q ⟨cs, b, μ0, many, parts, hd, hB, ⟨m0, mp, p64, pd⟩, q⟩ => by
  subst hd
  have p0 : 0 < parts := by omega
  have red : ∀ {t u : Int} {μ'}, 0 < u → 0 ≤ t → t * parts < many * u → rb t u ≤ 1000000 → Bx μ0 b μ' → Q (pr (rt t u) (rb t u)) μ' := fun {t u μ'} hu ht hlt hle hB => by
    have h1 := lt_scale hu hlt
    have h2 := rb_pos (t := t) hu
    have h3 : many * rb t u ≤ parts * rb t u := Int.mul_le_mul_of_nonneg_right mp (by omega)
    refine q _ _ _ (rt_nonneg ht) ?_ h2 hle (rdc_red hu) (.inr h1) hB
    have h4 : rt t u * parts < rb t u * parts := by rw [Int.mul_comm (rb t u)]; omega
    exact Int.le_of_lt (Int.lt_of_mul_lt_mul_right h4 (by omega))
  have k8 : ∀ {z : Int} {k : Nat}, z.natAbs ≤ 1000000000 → 1000000000 < 2 ^ k → z.natAbs < 2 ^ k := fun h1 h2 => Nat.lt_of_le_of_lt h1 h2
  have b8 : (1000000000 : Nat) < 2 ^ 8000 := Nat.lt_of_lt_of_le (show 1000000000 < 2 ^ 30 by decide) (Nat.pow_le_pow_right (by omega) (by omega))
  refine sd_cons (s1_put ok 4 (ed_call (fd_digit T) ok (ad_cons (ed_var 0 rfl (ad_cons (ed_var 1 rfl (ad_cons (ed_int (ad_nil ⟨cs, b, 6, μ0, rfl, hB, by omega, by omega, fun k μ2 k0 k6 hB => ?_⟩)))))))))
  have last : SD (gam P w K mg base n_law_share "_law_share" (defScope s_law_share) f cdv B outer s H E G0 ξ) ((defBody s_law_share).drop 5) [some (lI cs), some (.ptr b), some (.int many), some (.int parts), some (.int k), none, none] μ2 { nx := fun _ μ' => Q .non μ', rt := Q } := by
    refine sd_one (s1_ret (ed_call (fd_sum T) ok (ad_cons (ed_tup (ad_cons (ed_var 2 rfl (ad_cons (ed_var 3 rfl (ad_nil ⟨by simp, ad_cons (ed_tup (ad_cons (ed_int (ad_cons (ed_1e6 (ad_nil ⟨by simp, ad_cons (ed_neg (ed_int ⟨_, rfl, ad_nil ⟨many, parts, 1, 1000000, -1, 1000000, 1000000, rfl, ⟨by omega, by omega, by decide, by decide, by decide⟩, p0, by decide, .inr rfl, ?_⟩⟩))⟩))))))⟩)))))))))
    have hd : rb (many * 1000000 + -1 * 1 * parts) (parts * 1000000) ∣ 1000000 := rb_sum p0 (by decide) pd ⟨1, by decide⟩
    refine red (by omega) (by omega) ?_ (Int.le_of_dvd (by decide) hd) hB
    have e1 : (many * 1000000 + -1 * 1 * parts) * parts = many * (parts * 1000000) - parts * parts := by
      rw [Int.add_mul, Int.mul_assoc many 1000000 parts, Int.mul_comm 1000000 parts]
      have : -1 * 1 * parts * parts = -(parts * parts) := by rw [show (-1 * 1 : Int) = -1 by decide, Int.mul_assoc, Int.neg_one_mul]
      omega
    have := Int.mul_pos p0 p0
    omega
  have go : SD (gam P w K mg base n_law_share "_law_share" (defScope s_law_share) f cdv B outer s H E G0 ξ) ((defBody s_law_share).drop 2) [some (lI cs), some (.ptr b), some (.int many), some (.int parts), some (.int k), none, none] μ2 { nx := fun _ μ' => Q .non μ', rt := Q } := by
    refine sd_cons (s1_if (td_eqI (ed_var 4 rfl (ed_int ⟨_, _, rfl, rfl, if_b (fun e => ?_) fun _ => sd_nil ?_⟩))))
    · exact sd_one (s1_ret (ed_tup (ad_cons (ed_int (ad_cons (ed_int (ad_nil ⟨by simp, q 0 1 _ (by omega) (by omega) (by omega) (by omega) (rdc_one 0) (.inr (by rw [Int.zero_mul]; omega)) hB⟩)))))))
    refine sd_cons (s1_if (td_eqI (ed_var 4 rfl (ed_int ⟨_, _, rfl, rfl, if_b (fun e => ?_) fun _ => sd_nil ?_⟩))))
    · refine sd_one (s1_ret (ed_call (fd_reduced T) ok (ad_cons (ed_mulW (ed_call (fd_digit T) ok (ad_cons (ed_var 0 rfl (ad_cons (ed_var 1 rfl (ad_cons (ed_int (ad_nil ⟨cs, b, 8, μ0, rfl, hB, by omega, by omega, fun d μ3 d0 d8 hB => ed_var 2 rfl ⟨_, _, rfl, rfl, ?_, ad_cons (ed_mulW (ed_int (ed_var 3 rfl ⟨_, _, rfl, rfl, ?_, ad_nil ⟨_, _, rfl, by omega, ?_, ?_, ?_⟩⟩)))⟩⟩))))))))))))
      · exact (sm_of ⟨by have : -(10 ^ 200 : Int) ≤ 0 := by decide
                         omega, by have : (1000000 : Int) ≤ 10 ^ 200 := by decide
                                   omega⟩ : Sm d).mul (sm_of ⟨by have : -(10 ^ 200 : Int) ≤ 0 := by decide
                                                                 omega, by have : (1000000 : Int) ≤ 10 ^ 200 := by decide
                                                                           omega⟩)
      · exact (by unfold Sm; decide : Sm 8).mul (sm_of ⟨by have : -(10 ^ 200 : Int) ≤ 0 := by decide
                                                           omega, by have : (1000000 : Int) ≤ 10 ^ 200 := by decide
                                                                     omega⟩)
      · exact k8 (by omega) b8
      · have h1 : d * many ≤ 8 * 64 := Int.mul_le_mul (by omega) (by omega) (by omega) (by omega)
        have h0 : 0 ≤ d * many := Int.mul_nonneg d0 (by omega)
        exact k8 (by omega) (by decide)
      · have h0 : 0 ≤ d * many := Int.mul_nonneg d0 (by omega)
        refine red (by omega) h0 ?_ (Int.le_trans (rb_le (by omega)) (by omega)) hB
        have hx : 0 < many * parts := Int.mul_pos m0 p0
        have e1 : d * many * parts = d * (many * parts) := Int.mul_assoc ..
        have e2 : many * (8 * parts) = 8 * (many * parts) := by rw [← Int.mul_assoc, Int.mul_comm many 8, Int.mul_assoc]
        rw [e1, e2]
        exact Int.mul_lt_mul_of_pos_right d8 hx
    refine sd_cons (s1_if (td_eqI (ed_var 4 rfl (ed_int ⟨_, _, rfl, rfl, if_b (fun e => ?_) fun _ => sd_nil last⟩))))
    refine sd_cons (s1_put ok 5 (ed_add (ed_int (ed_call (fd_digit T) ok (ad_cons (ed_var 0 rfl (ad_cons (ed_var 1 rfl (ad_cons (ed_int (ad_nil ⟨cs, b, 1000, μ0, rfl, hB, by omega, by omega, fun d μ3 d0 d8 hB => ⟨_, _, rfl, rfl, ?_⟩⟩)))))))))))
    have sd : Sm (1 + d) := sm_of ⟨by have : -(10 ^ 200 : Int) ≤ 0 := by decide
                                      omega, by have : (1000000 : Int) ≤ 10 ^ 200 := by decide
                                                omega⟩
    have sm : Sm (-many) := sm_of ⟨by have : -(10 ^ 200 : Int) ≤ -64 := by decide
                                      omega, by have : (1000000 : Int) ≤ 10 ^ 200 := by decide
                                                omega⟩
    refine sd_cons (s1_put ok 6 (ed_neg (ed_fdivW (ed_mulW (ed_neg (ed_var 2 rfl ⟨_, rfl, ed_var 5 rfl ⟨_, _, rfl, rfl, sm.mul sd, ed_var 3 rfl ⟨_, _, rfl, rfl, div_ok p0 (k8 (by omega) b8), _, rfl, ?_⟩⟩⟩))))))
    have hmn : 0 < many * (1 + d) := Int.mul_pos m0 (by omega)
    have c0 := ceil_pos p0 hmn
    have c1 := ceil_le (n := 1 + d) p0 mp (by omega)
    refine sd_one (s1_ret (ed_call (fd_reduced T) ok (ad_cons (ed_call (fd_digit T) ok (ad_cons (ed_var 0 rfl (ad_cons (ed_var 1 rfl (ad_cons (ed_var 6 rfl (ad_nil ⟨cs, b, _, μ0, rfl, hB, c0, by omega, fun d2 μ4 d20 d28 hB => ad_cons (ed_var 5 rfl (ad_nil ⟨_, _, rfl, by omega, k8 (by omega) b8, k8 (by omega) (by decide), ?_⟩))⟩)))))))))))
    exact red (by omega) d20 (ceil_lt p0 d20 d28) (Int.le_trans (rb_le (by omega)) (by omega)) hB
  refine sd_cons (s1_if (td_and (td_eqI (ed_var 2 rfl (ed_var 3 rfl ⟨_, _, rfl, rfl, if_b (fun e => td_eqI (ed_var 4 rfl (ed_int ⟨_, _, rfl, rfl, if_b (fun e2 => ?_) fun _ => sd_nil go⟩))) fun _ => if_f rfl (sd_nil go)⟩)))))
  exact sd_one (s1_ret (ed_tup (ad_cons (ed_int (ad_cons (ed_int (ad_nil ⟨by simp, q 1 1 _ (by omega) (by omega) (by omega) (by omega) (rdc_one 1) (.inl (of_decide_eq_true e)) hB⟩)))))))
end
end DD
set_option Elab.async false
set_option linter.all false
set_option maxRecDepth 100000
set_option maxHeartbeats 4000000
/-! E15: equality of data. -/
namespace DD
open PySem PySem.Spec PyProof.Rows L2 PM
/-- plain data of depth n -/
inductive Pl : Nat → D → Prop
  | non {n : Nat} : Pl n .non
  | bl {n : Nat} {b : Bool} : Pl n (.bl b)
  | int {n : Nat} {i : Int} : Pl n (.int i)
  | str {n : Nat} {s : Str} : Pl n (.str s)
  | tup {n : Nat} {xs : List D} (h : ∀ x ∈ xs, Pl n x) (hl : xs.length ≤ 900) : Pl (n + 1) (.tup xs)
  | lst {n : Nat} {xs : List D} (h : ∀ x ∈ xs, Pl n x) (hl : xs.length ≤ 900) : Pl (n + 1) (.lst xs)
section
variable {P : Program} {w : World} {K : PySem.W.Frag} {mg : Str → Option Value} {base : Heap} {A : Ad}
def S_same (n : Nat) : SpD := fun ds μ Q _ => ∃ d, ds = [d, d] ∧ Pl n d ∧ Q (.bl true) μ
theorem all_true : ∀ n : Nat, ((List.range n).map fun _ => true).all id = true := fun n => by rw [List.all_eq_true]; intro x hx; obtain ⟨_, _, e⟩ := List.mem_map.mp hx; subst e; rfl
theorem map_true (n : Nat) : (((List.range n).filter fun _ => true).map fun _ => D.bl true) = ((List.range n).map fun _ => true).map D.bl := by
  rw [List.filter_eq_self.mpr (fun _ _ => rfl), List.map_map]; rfl
theorem fd_same1 (T : Txt P K mg A) (n : Nat) (ih : ∀ m, n = m + 1 → Fd P w K mg base (m + 1) "_law_same" (S_same m)) : Fd P w K mg base (n + 1) "_law_same" (S_same n) := T.d_law_same.fd (ps := p_law_same) bd_law_same fun f fd F => fn_d F sc_law_same (fun ds μ Q ξ ⟨_, hd, _⟩ => by subst hd; rfl) fun cdv B outer s H E G0 ξ ok ds μ Q ⟨d, hd, hp, q⟩ => by
  subst hd
  cases hp with
  | non => exact sd_cons (s1_if (td_isN (ed_var 1 rfl (if_t rfl (sd_one (s1_ret (ed_isN (ed_var 0 rfl q))))))))
  | bl =>
    refine sd_cons (s1_if (td_isN (ed_var 1 rfl (if_f rfl (sd_nil ?_)))))
    refine sd_cons (s1_if (td_val (ed_isiB (n := "bool") T.f_isinstance T.f_bool (ed_var 1 rfl ⟨_, true, .flat rfl, rfl, _, rfl, if_t rfl ?_⟩) (by decide +kernel))))
    refine sd_one (s1_ret (ed_and2 (ed_isiB (n := "bool") T.f_isinstance T.f_bool (ed_var 0 rfl ⟨_, true, .flat rfl, rfl, _, rfl, if_t rfl ?_⟩) (by decide +kernel))))
    exact ed_eq (ed_var 0 rfl (ed_var 1 rfl ⟨_, _, rfl, rfl, rfl, by rw [decide_eq_true rfl]; exact q⟩))
  | int =>
    refine sd_cons (s1_if (td_isN (ed_var 1 rfl (if_f rfl (sd_nil ?_)))))
    refine sd_cons (s1_if (td_val (ed_isiB (n := "bool") T.f_isinstance T.f_bool (ed_var 1 rfl ⟨_, false, .flat rfl, rfl, _, rfl, if_f rfl (sd_nil ?_)⟩) (by decide +kernel))))
    refine sd_cons (s1_if (td_val (ed_isiB (n := "int") T.f_isinstance T.f_int (ed_var 1 rfl ⟨_, true, .flat rfl, rfl, _, rfl, if_t rfl ?_⟩) (by decide +kernel))))
    refine sd_one (s1_ret (ed_and3 (ed_isiB (n := "int") T.f_isinstance T.f_int (ed_var 0 rfl ⟨_, true, .flat rfl, rfl, _, rfl, if_t rfl ?_⟩) (by decide +kernel))))
    refine ed_and2 (ed_not (ed_isiB (n := "bool") T.f_isinstance T.f_bool (ed_var 0 rfl ⟨_, false, .flat rfl, rfl, _, rfl, _, rfl, if_t rfl ?_⟩) (by decide +kernel)))
    exact ed_eqI (ed_var 0 rfl (ed_var 1 rfl ⟨_, _, rfl, rfl, by rw [decide_eq_true rfl]; exact q⟩))
  | str =>
    refine sd_cons (s1_if (td_isN (ed_var 1 rfl (if_f rfl (sd_nil ?_)))))
    refine sd_cons (s1_if (td_val (ed_isiB (n := "bool") T.f_isinstance T.f_bool (ed_var 1 rfl ⟨_, false, .flat rfl, rfl, _, rfl, if_f rfl (sd_nil ?_)⟩) (by decide +kernel))))
    refine sd_cons (s1_if (td_val (ed_isiB (n := "int") T.f_isinstance T.f_int (ed_var 1 rfl ⟨_, false, .flat rfl, rfl, _, rfl, if_f rfl (sd_nil ?_)⟩) (by decide +kernel))))
    refine sd_cons (s1_if (td_val (ed_isiB (n := "str") T.f_isinstance T.f_str (ed_var 1 rfl ⟨_, true, .flat rfl, rfl, _, rfl, if_t rfl ?_⟩) (by decide +kernel))))
    refine sd_one (s1_ret (ed_and2 (ed_isiB (n := "str") T.f_isinstance T.f_str (ed_var 0 rfl ⟨_, true, .flat rfl, rfl, _, rfl, if_t rfl ?_⟩) (by decide +kernel))))
    exact ed_eq (ed_var 0 rfl (ed_var 1 rfl ⟨_, _, rfl, rfl, rfl, by rw [decide_eq_true rfl]; exact q⟩))
  | tup hx hl =>
    rename_i m xs _hE
    refine sd_cons (s1_if (td_isN (ed_var 1 rfl (if_f rfl (sd_nil ?_)))))
    refine sd_cons (s1_if (td_val (ed_isiB (n := "bool") T.f_isinstance T.f_bool (ed_var 1 rfl ⟨_, false, .flat rfl, rfl, _, rfl, if_f rfl (sd_nil ?_)⟩) (by decide +kernel))))
    refine sd_cons (s1_if (td_val (ed_isiB (n := "int") T.f_isinstance T.f_int (ed_var 1 rfl ⟨_, false, .flat rfl, rfl, _, rfl, if_f rfl (sd_nil ?_)⟩) (by decide +kernel))))
    refine sd_cons (s1_if (td_val (ed_isiB (n := "str") T.f_isinstance T.f_str (ed_var 1 rfl ⟨_, false, .flat rfl, rfl, _, rfl, if_f rfl (sd_nil ?_)⟩) (by decide +kernel))))
    refine sd_cons (s1_if (td_ne (ed_isiB (n := "list") T.f_isinstance T.f_list (ed_var 0 rfl ⟨_, false, .flat rfl, rfl, ed_isiB (n := "list") T.f_isinstance T.f_list (ed_var 1 rfl ⟨_, false, .flat rfl, rfl, _, _, rfl, rfl, rfl, if_f (by simp) (sd_nil ?_)⟩) (by decide +kernel)⟩) (by decide +kernel))))
    refine sd_cons (s1_if (td_or (td_ne (ed_isiB (n := "tuple") T.f_isinstance T.f_tuple (ed_var 0 rfl ⟨_, true, .flat rfl, rfl, ed_isiB (n := "tuple") T.f_isinstance T.f_tuple (ed_var 1 rfl ⟨_, true, .flat rfl, rfl, _, _, rfl, rfl, rfl, if_f (by simp) ?_⟩) (by decide +kernel)⟩) (by decide +kernel)))))
    refine td_neI (ed_len T.f_len (ed_var 0 rfl ⟨_, rfl, ed_len T.f_len (ed_var 1 rfl ⟨_, rfl, _, _, rfl, rfl, if_f (by simp) (sd_nil ?_)⟩)⟩))
    refine sd_one (s1_ret (ed_all ok.calm T.f_all (ed_lcR 2 (fun _ => true) (fun _ => .bl true) ok T.f_range (ad_cons (ed_len T.f_len (ed_var 1 rfl ⟨_, rfl, ad_nil ⟨xs.length, rfl, hl, fun k hk s H C cl fp μ' hu => ⟨rfl, fun _ => ?_⟩, (List.range xs.length).map (fun _ => true), by rw [map_true]; rfl, by rw [all_true]; exact q⟩⟩))) rfl fun _ _ _ _ _ => pg_name (i := 2) ok.nd rfl (Or.inl rfl))))
    have hk' : atI xs (k : Int) = some xs[k] := by rw [atI_nat hk, List.getElem?_eq_getElem hk]
    exact ed_call (ih m rfl) ok.blk (ad_cons (ed_ixT (ed_var 0 rfl (ed_var 2 rfl ⟨_, _, _, rfl, rfl, hk', ad_cons (ed_ixT (ed_var 1 rfl (ed_var 2 rfl ⟨_, _, _, rfl, rfl, hk', ad_nil ⟨_, rfl, hx _ (List.getElem_mem hk), rfl, rfl⟩⟩)))⟩)))) (Nat.le_refl _)
  | lst hx hl =>
    rename_i m xs _hE
    refine sd_cons (s1_if (td_isN (ed_var 1 rfl (if_f rfl (sd_nil ?_)))))
    refine sd_cons (s1_if (td_val (ed_isiB (n := "bool") T.f_isinstance T.f_bool (ed_var 1 rfl ⟨_, false, .flat rfl, rfl, _, rfl, if_f rfl (sd_nil ?_)⟩) (by decide +kernel))))
    refine sd_cons (s1_if (td_val (ed_isiB (n := "int") T.f_isinstance T.f_int (ed_var 1 rfl ⟨_, false, .flat rfl, rfl, _, rfl, if_f rfl (sd_nil ?_)⟩) (by decide +kernel))))
    refine sd_cons (s1_if (td_val (ed_isiB (n := "str") T.f_isinstance T.f_str (ed_var 1 rfl ⟨_, false, .flat rfl, rfl, _, rfl, if_f rfl (sd_nil ?_)⟩) (by decide +kernel))))
    refine sd_cons (s1_if (td_ne (ed_isiB (n := "list") T.f_isinstance T.f_list (ed_var 0 rfl ⟨_, true, .flat rfl, rfl, ed_isiB (n := "list") T.f_isinstance T.f_list (ed_var 1 rfl ⟨_, true, .flat rfl, rfl, _, _, rfl, rfl, rfl, if_f (by simp) (sd_nil ?_)⟩) (by decide +kernel)⟩) (by decide +kernel))))
    refine sd_cons (s1_if (td_or (td_ne (ed_isiB (n := "tuple") T.f_isinstance T.f_tuple (ed_var 0 rfl ⟨_, false, .flat rfl, rfl, ed_isiB (n := "tuple") T.f_isinstance T.f_tuple (ed_var 1 rfl ⟨_, false, .flat rfl, rfl, _, _, rfl, rfl, rfl, if_f (by simp) ?_⟩) (by decide +kernel)⟩) (by decide +kernel)))))
    refine td_neI (ed_len T.f_len (ed_var 0 rfl ⟨_, rfl, ed_len T.f_len (ed_var 1 rfl ⟨_, rfl, _, _, rfl, rfl, if_f (by simp) (sd_nil ?_)⟩)⟩))
    refine sd_one (s1_ret (ed_all ok.calm T.f_all (ed_lcR 2 (fun _ => true) (fun _ => .bl true) ok T.f_range (ad_cons (ed_len T.f_len (ed_var 1 rfl ⟨_, rfl, ad_nil ⟨xs.length, rfl, hl, fun k hk s H C cl fp μ' hu => ⟨rfl, fun _ => ?_⟩, (List.range xs.length).map (fun _ => true), by rw [map_true]; rfl, by rw [all_true]; exact q⟩⟩))) rfl fun _ _ _ _ _ => pg_name (i := 2) ok.nd rfl (Or.inl rfl))))
    have hk' : atI xs (k : Int) = some xs[k] := by rw [atI_nat hk, List.getElem?_eq_getElem hk]
    exact ed_call (ih m rfl) ok.blk (ad_cons (ed_ixL (ed_var 0 rfl (ed_var 2 rfl ⟨_, _, _, rfl, rfl, hk', ad_cons (ed_ixL (ed_var 1 rfl (ed_var 2 rfl ⟨_, _, _, rfl, rfl, hk', ad_nil ⟨_, rfl, hx _ (List.getElem_mem hk), rfl, rfl⟩⟩)))⟩)))) (Nat.le_refl _)
theorem fd_same (T : Txt P K mg A) : ∀ n : Nat, Fd P w K mg base (n + 1) "_law_same" (S_same n)
  | 0 => fd_same1 T 0 fun m e => nomatch e
  | n + 1 => fd_same1 T (n + 1) fun m e => by cases e; exact fd_same T n
end
end DD
set_option Elab.async false
set_option linter.all false
set_option maxRecDepth 100000
set_option maxHeartbeats 4000000
/-! E16: what the law makes of a caught exception. -/
namespace DD
open PySem PySem.Spec PyProof.Rows L2 PM
/-- what the law returns for a refusal -/
abbrev refD (hnd : Bool) (x : List D) : D := .tup [.str "refused", .lst [.bl true, .bl hnd, .tup x]]
abbrev gamH (P : Program) (w : World) (K : PySem.W.Frag) (mg : Str → Option Value) (base : Heap) (N : List Str) (qual : Str) (scope : Scope) (f : Addr) (cd : Value) (A : Around) (outer : List Env) (s : Shared) (H : Hp) (E : XK) (p : Addr × Obj) (G0 : Hp) : Ctx :=
  ⟨L2H.cxH CX0 P w K mg base N qual scope f cd A outer s H E p, G0, X0, L2.E0⟩
section
variable {P : Program} {w : World} {K : PySem.W.Frag} {mg : Str → Option Value} {base : Heap} {A : Ad}
theorem fault_at {x qual : Str} {params : Arguments} {body : List Stmt} {scope : Scope} {f : Addr} {fd : FuncData} {N : List Str} {k : Nat} {C : Addr} {ns : List Str} {es : List D} {r : D} {y : Str} (F : FunD K x qual params body scope [] [] f fd) (Sc : FnScope N [y] scope) (ec : ExcC K C)
    (hbody : ∀ cdv B outer s H E (p : Addr × Obj) G0, Caught (gamH P w K mg base N qual scope f cdv B outer s H E p G0) p.1 p.2 C ns es → N.Nodup → ∀ μ, SD (gamH P w K mg base N qual scope f cdv B outer s H E p G0) body (startD N [.ptr p.1]) μ { nx := fun _ _ => False, rt := fun d μ' => d = r ∧ μ' = μ }) :
    FaultAt P w K mg base (k + 1) f fd [y] C ns es r := fun p d hz hv => fn_ofHp F Sc (fun vs H Q E ⟨μ, h, _⟩ => by rw [h]; rfl) fun cdv B outer s H vs Q E hr ⟨μ, h1, h2, h3, h4⟩ => by
  subst h1
  refine ⟨_, pss_w, ?_⟩
  have c : Caught (gamH P w K mg base N qual scope f cdv B outer s H E p (mns H μ)) p.1 p.2 C ns es := ⟨List.mem_cons_self .., hv, ⟨d, hz, by cases ns <;> exact h3⟩, ec⟩
  refine hbody cdv B outer s H E p (mns H μ) c Sc.nd μ (L2.start N [.ref p.1]) H _ ⟨env_start (IsL.cons rfl rfl), h2, Same.refl _⟩ ⟨fun ρ' μ' σ' H' q en r e => q.elim, fun v d μ' H' q i r e => ?_, fun _ _ _ _ q => q.elim, fun _ _ _ _ q => q.elim⟩
  obtain ⟨q1, q2⟩ := q
  subst q1
  subst q2
  exact h4 _ _ i r e
theorem fault_fin (T : Txt P K mg A) {f : Addr} {fd : FuncData} (F : FunD K "_law_fault" "_law_fault" (defArgs s_law_fault) (defBody s_law_fault) (defScope s_law_fault) [] [] f fd) : FaultAt P w K mg base 1 f fd p_law_fault A.fin [] [] (refD false [.str "Ended"]) := fault_at F sc_law_fault T.q_fin.ec fun cdv B outer s H E p G0 c nd μ => by
  refine sd_cons (s1_set 1 (ed_lstM (ad_cons (ed_isEB (n := "ValueError") c T.f_isinstance T.f_ValueError (ed_var 0 rfl ⟨rfl, true, T.q_fin.v, ad_cons (ed_isEC c T.f_isinstance T.c_hnd (ed_var 0 rfl ⟨rfl, false, T.q_fin.h, ad_nil ⟨by simp, fun q hq => ?_⟩⟩))⟩) (by decide +kernel)))) nd)
  refine sd_cons (s1_if (td_val (ed_isEC c T.f_isinstance T.x_fin.g (ed_var 0 rfl ⟨rfl, true, T.q_fin.f, _, rfl, if_t rfl ?_⟩))))
  refine sd_one (s1_expr (ed_append (ed_var 1 rfl ⟨q, _, rfl, mset_same, ed_tup (ad_cons (ed_str (ad_nil ⟨by simp, mset_same, by simp, ?_⟩)))⟩)))
  rw [mset_mset]
  refine sd_cons (s1_if (td_val (ed_isEC c T.f_isinstance T.x_unk.g (ed_var 0 rfl ⟨rfl, false, T.q_fin.u, _, rfl, if_f rfl (sd_nil ?_)⟩))))
  refine sd_cons (s1_if (td_val (ed_isEC c T.f_isinstance T.x_tak.g (ed_var 0 rfl ⟨rfl, false, T.q_fin.t, _, rfl, if_f rfl (sd_nil ?_)⟩))))
  refine sd_cons (s1_if (td_val (ed_isEC c T.f_isinstance T.x_frc.g (ed_var 0 rfl ⟨rfl, false, T.q_fin.r, _, rfl, if_f rfl (sd_nil ?_)⟩))))
  refine sd_cons (s1_if (td_val (ed_isEC c T.f_isinstance T.x_bad.g (ed_var 0 rfl ⟨rfl, false, T.q_fin.b, _, rfl, if_f rfl (sd_nil ?_)⟩))))
  refine sd_cons (s1_if (td_val (ed_isEC c T.f_isinstance T.c_non (ed_var 0 rfl ⟨rfl, false, T.q_fin.n, _, rfl, if_f rfl (sd_nil ?_)⟩))))
  refine sd_one (s1_ret (ed_tup (ad_cons (ed_str (ad_cons (ed_freeze (ed_var 1 rfl ⟨q, _, rfl, mset_same, ad_nil ⟨by simp, rfl, ?_⟩⟩)))))))
  exact mdel_mset hq
theorem fault_unk (T : Txt P K mg A) {d0 : D} {f : Addr} {fd : FuncData} (F : FunD K "_law_fault" "_law_fault" (defArgs s_law_fault) (defBody s_law_fault) (defScope s_law_fault) [] [] f fd) : FaultAt P w K mg base 1 f fd p_law_fault A.unk ["hand"] [d0] (refD true [.str "UnknownHand", d0]) := fault_at F sc_law_fault T.q_unk.ec fun cdv B outer s H E p G0 c nd μ => by
  refine sd_cons (s1_set 1 (ed_lstM (ad_cons (ed_isEB (n := "ValueError") c T.f_isinstance T.f_ValueError (ed_var 0 rfl ⟨rfl, true, T.q_unk.v, ad_cons (ed_isEC c T.f_isinstance T.c_hnd (ed_var 0 rfl ⟨rfl, true, T.q_unk.h, ad_nil ⟨by simp, fun q hq => ?_⟩⟩))⟩) (by decide +kernel)))) nd)
  refine sd_cons (s1_if (td_val (ed_isEC c T.f_isinstance T.x_fin.g (ed_var 0 rfl ⟨rfl, false, T.q_unk.f, _, rfl, if_f rfl (sd_nil ?_)⟩))))
  refine sd_cons (s1_if (td_val (ed_isEC c T.f_isinstance T.x_unk.g (ed_var 0 rfl ⟨rfl, true, T.q_unk.u, _, rfl, if_t rfl ?_⟩))))
  refine sd_one (s1_expr (ed_append (ed_var 1 rfl ⟨q, _, rfl, mset_same, ed_tup (ad_cons (ed_str (ad_cons (ed_xf c T.x_unk.xi.no (ed_var 0 rfl ⟨rfl, ad_nil ⟨by simp, mset_same, by simp, ?_⟩⟩)))))⟩)))
  rw [mset_mset]
  refine sd_cons (s1_if (td_val (ed_isEC c T.f_isinstance T.x_tak.g (ed_var 0 rfl ⟨rfl, false, T.q_unk.t, _, rfl, if_f rfl (sd_nil ?_)⟩))))
  refine sd_cons (s1_if (td_val (ed_isEC c T.f_isinstance T.x_frc.g (ed_var 0 rfl ⟨rfl, false, T.q_unk.r, _, rfl, if_f rfl (sd_nil ?_)⟩))))
  refine sd_cons (s1_if (td_val (ed_isEC c T.f_isinstance T.x_bad.g (ed_var 0 rfl ⟨rfl, false, T.q_unk.b, _, rfl, if_f rfl (sd_nil ?_)⟩))))
  refine sd_cons (s1_if (td_val (ed_isEC c T.f_isinstance T.c_non (ed_var 0 rfl ⟨rfl, false, T.q_unk.n, _, rfl, if_f rfl (sd_nil ?_)⟩))))
  refine sd_one (s1_ret (ed_tup (ad_cons (ed_str (ad_cons (ed_freeze (ed_var 1 rfl ⟨q, _, rfl, mset_same, ad_nil ⟨by simp, rfl, ?_⟩⟩)))))))
  exact mdel_mset hq
theorem fault_tak (T : Txt P K mg A) {d0 : D} {f : Addr} {fd : FuncData} (F : FunD K "_law_fault" "_law_fault" (defArgs s_law_fault) (defBody s_law_fault) (defScope s_law_fault) [] [] f fd) : FaultAt P w K mg base 1 f fd p_law_fault A.tak ["hand"] [d0] (refD true [.str "TakenHand", d0]) := fault_at F sc_law_fault T.q_tak.ec fun cdv B outer s H E p G0 c nd μ => by
  refine sd_cons (s1_set 1 (ed_lstM (ad_cons (ed_isEB (n := "ValueError") c T.f_isinstance T.f_ValueError (ed_var 0 rfl ⟨rfl, true, T.q_tak.v, ad_cons (ed_isEC c T.f_isinstance T.c_hnd (ed_var 0 rfl ⟨rfl, true, T.q_tak.h, ad_nil ⟨by simp, fun q hq => ?_⟩⟩))⟩) (by decide +kernel)))) nd)
  refine sd_cons (s1_if (td_val (ed_isEC c T.f_isinstance T.x_fin.g (ed_var 0 rfl ⟨rfl, false, T.q_tak.f, _, rfl, if_f rfl (sd_nil ?_)⟩))))
  refine sd_cons (s1_if (td_val (ed_isEC c T.f_isinstance T.x_unk.g (ed_var 0 rfl ⟨rfl, false, T.q_tak.u, _, rfl, if_f rfl (sd_nil ?_)⟩))))
  refine sd_cons (s1_if (td_val (ed_isEC c T.f_isinstance T.x_tak.g (ed_var 0 rfl ⟨rfl, true, T.q_tak.t, _, rfl, if_t rfl ?_⟩))))
  refine sd_one (s1_expr (ed_append (ed_var 1 rfl ⟨q, _, rfl, mset_same, ed_tup (ad_cons (ed_str (ad_cons (ed_xf c T.x_tak.xi.no (ed_var 0 rfl ⟨rfl, ad_nil ⟨by simp, mset_same, by simp, ?_⟩⟩)))))⟩)))
  rw [mset_mset]
  refine sd_cons (s1_if (td_val (ed_isEC c T.f_isinstance T.x_frc.g (ed_var 0 rfl ⟨rfl, false, T.q_tak.r, _, rfl, if_f rfl (sd_nil ?_)⟩))))
  refine sd_cons (s1_if (td_val (ed_isEC c T.f_isinstance T.x_bad.g (ed_var 0 rfl ⟨rfl, false, T.q_tak.b, _, rfl, if_f rfl (sd_nil ?_)⟩))))
  refine sd_cons (s1_if (td_val (ed_isEC c T.f_isinstance T.c_non (ed_var 0 rfl ⟨rfl, false, T.q_tak.n, _, rfl, if_f rfl (sd_nil ?_)⟩))))
  refine sd_one (s1_ret (ed_tup (ad_cons (ed_str (ad_cons (ed_freeze (ed_var 1 rfl ⟨q, _, rfl, mset_same, ad_nil ⟨by simp, rfl, ?_⟩⟩)))))))
  exact mdel_mset hq
theorem fault_frc (T : Txt P K mg A) {f : Addr} {fd : FuncData} (F : FunD K "_law_fault" "_law_fault" (defArgs s_law_fault) (defBody s_law_fault) (defScope s_law_fault) [] [] f fd) : FaultAt P w K mg base 1 f fd p_law_fault A.frc [] [] (refD false [.str "BadFraction"]) := fault_at F sc_law_fault T.q_frc.ec fun cdv B outer s H E p G0 c nd μ => by
  refine sd_cons (s1_set 1 (ed_lstM (ad_cons (ed_isEB (n := "ValueError") c T.f_isinstance T.f_ValueError (ed_var 0 rfl ⟨rfl, true, T.q_frc.v, ad_cons (ed_isEC c T.f_isinstance T.c_hnd (ed_var 0 rfl ⟨rfl, false, T.q_frc.h, ad_nil ⟨by simp, fun q hq => ?_⟩⟩))⟩) (by decide +kernel)))) nd)
  refine sd_cons (s1_if (td_val (ed_isEC c T.f_isinstance T.x_fin.g (ed_var 0 rfl ⟨rfl, false, T.q_frc.f, _, rfl, if_f rfl (sd_nil ?_)⟩))))
  refine sd_cons (s1_if (td_val (ed_isEC c T.f_isinstance T.x_unk.g (ed_var 0 rfl ⟨rfl, false, T.q_frc.u, _, rfl, if_f rfl (sd_nil ?_)⟩))))
  refine sd_cons (s1_if (td_val (ed_isEC c T.f_isinstance T.x_tak.g (ed_var 0 rfl ⟨rfl, false, T.q_frc.t, _, rfl, if_f rfl (sd_nil ?_)⟩))))
  refine sd_cons (s1_if (td_val (ed_isEC c T.f_isinstance T.x_frc.g (ed_var 0 rfl ⟨rfl, true, T.q_frc.r, _, rfl, if_t rfl ?_⟩))))
  refine sd_one (s1_expr (ed_append (ed_var 1 rfl ⟨q, _, rfl, mset_same, ed_tup (ad_cons (ed_str (ad_nil ⟨by simp, mset_same, by simp, ?_⟩)))⟩)))
  rw [mset_mset]
  refine sd_cons (s1_if (td_val (ed_isEC c T.f_isinstance T.x_bad.g (ed_var 0 rfl ⟨rfl, false, T.q_frc.b, _, rfl, if_f rfl (sd_nil ?_)⟩))))
  refine sd_cons (s1_if (td_val (ed_isEC c T.f_isinstance T.c_non (ed_var 0 rfl ⟨rfl, false, T.q_frc.n, _, rfl, if_f rfl (sd_nil ?_)⟩))))
  refine sd_one (s1_ret (ed_tup (ad_cons (ed_str (ad_cons (ed_freeze (ed_var 1 rfl ⟨q, _, rfl, mset_same, ad_nil ⟨by simp, rfl, ?_⟩⟩)))))))
  exact mdel_mset hq
theorem fault_bad (T : Txt P K mg A) {d0 : D} {f : Addr} {fd : FuncData} (F : FunD K "_law_fault" "_law_fault" (defArgs s_law_fault) (defBody s_law_fault) (defScope s_law_fault) [] [] f fd) : FaultAt P w K mg base 1 f fd p_law_fault A.bad ["hands"] [d0] (refD false [.str "BadHands", d0]) := fault_at F sc_law_fault T.q_bad.ec fun cdv B outer s H E p G0 c nd μ => by
  refine sd_cons (s1_set 1 (ed_lstM (ad_cons (ed_isEB (n := "ValueError") c T.f_isinstance T.f_ValueError (ed_var 0 rfl ⟨rfl, true, T.q_bad.v, ad_cons (ed_isEC c T.f_isinstance T.c_hnd (ed_var 0 rfl ⟨rfl, false, T.q_bad.h, ad_nil ⟨by simp, fun q hq => ?_⟩⟩))⟩) (by decide +kernel)))) nd)
  refine sd_cons (s1_if (td_val (ed_isEC c T.f_isinstance T.x_fin.g (ed_var 0 rfl ⟨rfl, false, T.q_bad.f, _, rfl, if_f rfl (sd_nil ?_)⟩))))
  refine sd_cons (s1_if (td_val (ed_isEC c T.f_isinstance T.x_unk.g (ed_var 0 rfl ⟨rfl, false, T.q_bad.u, _, rfl, if_f rfl (sd_nil ?_)⟩))))
  refine sd_cons (s1_if (td_val (ed_isEC c T.f_isinstance T.x_tak.g (ed_var 0 rfl ⟨rfl, false, T.q_bad.t, _, rfl, if_f rfl (sd_nil ?_)⟩))))
  refine sd_cons (s1_if (td_val (ed_isEC c T.f_isinstance T.x_frc.g (ed_var 0 rfl ⟨rfl, false, T.q_bad.r, _, rfl, if_f rfl (sd_nil ?_)⟩))))
  refine sd_cons (s1_if (td_val (ed_isEC c T.f_isinstance T.x_bad.g (ed_var 0 rfl ⟨rfl, true, T.q_bad.b, _, rfl, if_t rfl ?_⟩))))
  refine sd_one (s1_expr (ed_append (ed_var 1 rfl ⟨q, _, rfl, mset_same, ed_tup (ad_cons (ed_str (ad_cons (ed_xf c T.x_bad.xi.no (ed_var 0 rfl ⟨rfl, ad_nil ⟨by simp, mset_same, by simp, ?_⟩⟩)))))⟩)))
  rw [mset_mset]
  refine sd_cons (s1_if (td_val (ed_isEC c T.f_isinstance T.c_non (ed_var 0 rfl ⟨rfl, false, T.q_bad.n, _, rfl, if_f rfl (sd_nil ?_)⟩))))
  refine sd_one (s1_ret (ed_tup (ad_cons (ed_str (ad_cons (ed_freeze (ed_var 1 rfl ⟨q, _, rfl, mset_same, ad_nil ⟨by simp, rfl, ?_⟩⟩)))))))
  exact mdel_mset hq
end
end DD
set_option Elab.async false
set_option linter.all false
set_option maxRecDepth 100000
set_option maxHeartbeats 4000000
/-! E17: calls that may be refused. -/
namespace DD
open PySem PySem.Spec PyProof.Rows L2 PM
structure Frac (t b : Int) : Prop where
  b0 : 0 < b
  t1 : -(10 ^ 60) ≤ t
  t2 : t ≤ 10 ^ 60
  b1 : b ≤ 10 ^ 60
  rd : Rdc t b
theorem Frac.sm {t b : Int} (f : Frac t b) : Sm t ∧ Sm b := by
  have e1 : (10 : Int) ^ 60 ≤ 10 ^ 200 := by decide
  have e2 : -(10 ^ 200 : Int) ≤ -(10 ^ 60) := by decide
  have e3 : -(10 ^ 60 : Int) ≤ 0 := by decide
  have := f.b0
  have := f.t1
  have := f.t2
  have := f.b1
  exact ⟨sm_of ⟨by omega, by omega⟩, sm_of ⟨by omega, by omega⟩⟩
instance (t b ct cb : Int) : Decidable (BadBid t b ct cb) := by unfold BadBid; infer_instance
/-- what a side's hand and bid are refused with -/
def due1 (h : Nat) (free : List Nat) (ct cb g t b : Int) : Option D :=
  if ¬ (0 ≤ g ∧ g < h) then some (refD true [.str "UnknownHand", .int g]) else if g ∉ zI free then some (refD true [.str "TakenHand", .int g]) else if BadBid t b ct cb then some (refD false [.str "BadFraction"]) else none
def due2 (h : Nat) (free : List Nat) (pt pb g1 t1 b1 g2 t2 b2 : Int) : Option D := match due1 h free pt pb g1 t1 b1 with
  | some r => some r
  | none => due1 h free (pb - pt) pb g2 t2 b2
def Refuse (h : Nat) (free : List Nat) (pt pb g1 t1 b1 g2 t2 b2 : Int) (r : D) : Prop := (free = [] ∧ r = refD false [.str "Ended"]) ∨ (free ≠ [] ∧ due2 h free pt pb g1 t1 b1 g2 t2 b2 = some r)
theorem mem_zI {l : List Nat} {i : Nat} : (i : Int) ∈ zI l ↔ i ∈ l := by
  constructor
  · intro h
    obtain ⟨j, hj, e⟩ := List.mem_map.mp h
    have : j = i := by omega
    subst this
    exact hj
  · intro h
    exact List.mem_map.mpr ⟨i, h, rfl⟩
/-- what the law's try may catch -/
def XiR (A : Ad) (r : D) (μ : Mu) : XD := fun C ns es μ' => μ' = μ ∧ ((C = A.fin ∧ ns = [] ∧ es = [] ∧ r = refD false [.str "Ended"]) ∨ (C = A.frc ∧ ns = [] ∧ es = [] ∧ r = refD false [.str "BadFraction"]) ∨ ∃ g : Int, (C = A.unk ∧ ns = (["hand"] : List Str) ∧ es = [.int g] ∧ r = refD true [.str "UnknownHand", .int g]) ∨
  (C = A.tak ∧ ns = (["hand"] : List Str) ∧ es = [.int g] ∧ r = refD true [.str "TakenHand", .int g]) ∨ (C = A.bad ∧ ns = (["hands"] : List Str) ∧ es = [.int g] ∧ r = refD false [.str "BadHands", .int g]))
section
variable {P : Program} {w : World} {K : PySem.W.Frag} {mg : Str → Option Value} {base : Heap} {A : Ad}
theorem xiR_at (T : Txt P K mg A) {f : Addr} {fd : FuncData} (F : FunD K "_law_fault" "_law_fault" (defArgs s_law_fault) (defBody s_law_fault) (defScope s_law_fault) [] [] f fd) {r : D} {μ : Mu} {C : Addr} {ns : List Str} {es : List D} {μ' : Mu} (h : XiR A r μ C ns es μ') :
    PySem.W.exmOne K (.ref C) (.ref A.who) = some true ∧ FaultAt P w K mg base 1 f fd p_law_fault C ns es r := by
  rcases h.2 with ⟨rfl, rfl, rfl, rfl⟩ | ⟨rfl, rfl, rfl, rfl⟩ | ⟨g, ⟨rfl, rfl, rfl, rfl⟩ | ⟨rfl, rfl, rfl, rfl⟩ | ⟨rfl, rfl, rfl, rfl⟩⟩
  · exact ⟨T.q_fin.w, fault_fin T F⟩
  · exact ⟨T.q_frc.w, fault_frc T F⟩
  · exact ⟨T.q_unk.w, fault_unk T F⟩
  · exact ⟨T.q_tak.w, fault_tak T F⟩
  · exact ⟨T.q_bad.w, fault_bad T F⟩
def S_called (A : Ad) : SpD := fun ds μ Q _ => ∃ (a dx : Addr) (h : Nat) (ns : List Int) (nl fl free : List Nat) (pt pb : Int) (past : List D) (g1 t1 b1 g2 t2 b2 : Int) (r : D),
  ds = [.ptr a, .lst [.int g1, pr t1 b1, .int g2, pr t2 b2]] ∧ AucAt A μ a dx h ns nl fl pt pb past ∧ past.length ≤ 100 ∧ Lists h nl fl free ∧ Frac t1 b1 ∧ Frac t2 b2 ∧ (0 ≤ pt ∧ pt ≤ pb ∧ 0 < pb ∧ pb ≤ 10 ^ 100) ∧ Refuse h free pt pb g1 t1 b1 g2 t2 b2 r ∧ Q r μ
theorem fd_called (T : Txt P K mg A) : Fd P w K mg base 8 "_law_called" (S_called A) := T.d_law_called.fd (ps := p_law_called) bd_law_called fun f fd F => fn_dx F sc_law_called (fun ds μ Q ξ ⟨_, _, _, _, _, _, _, _, _, _, _, _, _, _, _, _, _, hd, _⟩ => by subst hd; rfl) fun cdv B outer s H E G0 ξ ok tk hs ds μ Q
    ⟨a, dx, h, ns, nl, fl, free, pt, pb, past, g1, t1, b1, g2, t2, b2, r, hd, au, hl, L, f1, f2, hp, hr, q⟩ => by
  subst hd
  obtain ⟨ff, fdd, hg, FF⟩ := T.d_law_fault.ex
  refine sd_one (s1_tryF (W := A.who) (f := ff) (fd := fdd) (ps := p_law_fault) (k := 1) 4 ok hs rfl rfl rfl (by decide) (by decide) ?_ (XiR A r μ) (fun pn xe G0 ek ok tk => ?_) (fun C ns es μ' hξ => ?_) (by decide) rfl hg FF.kp (FF.bindsN bd_law_fault) (by decide))
  · exact ⟨rfl, by decide, .inl T.c_who⟩
  · refine sd_cons (s1_put ok 2 (ed_call (fd_value T) ok (ad_cons (ed_ixL (ed_var 1 rfl (ed_int ⟨_, 1, _, rfl, rfl, rfl, ad_cons (ed_bl (ad_nil ⟨t1, b1, true, rfl, f1.b0, ⟨f1.t1, f1.t2, f1.b1⟩, f1.rd, fun d1 _ i1 => ?_⟩))⟩))))))
    refine sd_cons (s1_put ok 3 (ed_call (fd_value T) ok (ad_cons (ed_ixL (ed_var 1 rfl (ed_int ⟨_, 3, _, rfl, rfl, rfl, ad_cons (ed_bl (ad_nil ⟨t2, b2, true, rfl, f2.b0, ⟨f2.t1, f2.t2, f2.b1⟩, f2.rd, fun d2 _ i2 => ?_⟩))⟩))))))
    refine sd_one (s1_ret (ed_tup (ad_cons (ed_str (ad_cons (ed_meth (md_bidding T) ok (ed_var 0 rfl ⟨_, _, au.ins, by decide +kernel, ad_cons (ed_ixL (ed_var 1 rfl (ed_int ⟨_, 0, _, rfl, rfl, rfl, ad_cons (ed_var 2 rfl (ad_cons (ed_ixL (ed_var 1 rfl (ed_int ⟨_, 2, _, rfl, rfl, rfl, ad_cons (ed_var 3 rfl (ad_nil ?_))⟩)))))⟩)))⟩)))))))
    refine ⟨a, dx, h, ns, nl, fl, free, pt, pb, past, g1, g2, d1, d2, t1, b1, t2, b2, rfl, au, hl, L, ⟨i1, f1.sm.1, f1.sm.2, f1.b0⟩, ⟨i2, f2.sm.1, f2.sm.2, f2.b0⟩, hp, ?_⟩
    rcases hr with ⟨e, hr⟩ | ⟨ne, hr⟩
    · exact ⟨fun _ => ⟨rfl, .inl ⟨rfl, rfl, rfl, hr⟩⟩, fun z => absurd e z, fun z => absurd e z, fun i _ z => by rw [e] at z; cases z⟩
    · unfold due2 due1 at hr
      refine ⟨fun z => absurd z ne, fun _ z => ?_, fun _ i hi hih hif => ?_, fun i hi hif => ?_⟩
      · rw [if_pos z] at hr
        exact ⟨rfl, .inr (.inr ⟨g1, .inl ⟨rfl, rfl, rfl, (Option.some.inj hr).symm⟩⟩)⟩
      · subst hi
        rw [if_neg (by omega), if_pos (fun z => hif (mem_zI.mp z))] at hr
        exact ⟨rfl, .inr (.inr ⟨_, .inr (.inl ⟨rfl, rfl, rfl, (Option.some.inj hr).symm⟩)⟩)⟩
      · subst hi
        have hih := L.part.mem.mp (.inl hif)
        rw [if_neg (by omega), if_neg (fun z => z (mem_zI.mpr hif))] at hr
        by_cases c1 : BadBid t1 b1 pt pb
        · rw [if_pos c1] at hr
          exact ⟨fun _ => ⟨rfl, .inr (.inl ⟨rfl, rfl, rfl, (Option.some.inj hr).symm⟩)⟩, fun z => absurd c1 z⟩
        rw [if_neg c1] at hr
        refine ⟨fun z => absurd z c1, fun _ => ⟨fun z => ?_, fun j hj hjh hjf => ?_, fun j hj hjf => ?_⟩⟩
        · replace hr : (if ¬ (0 ≤ g2 ∧ g2 < h) then _ else _) = some r := hr
          rw [if_pos z] at hr
          exact ⟨rfl, .inr (.inr ⟨g2, .inl ⟨rfl, rfl, rfl, (Option.some.inj hr).symm⟩⟩)⟩
        · subst hj
          replace hr : (if ¬ (0 ≤ (j : Int) ∧ (j : Int) < h) then _ else _) = some r := hr
          rw [if_neg (by omega), if_pos (fun z => hjf (mem_zI.mp z))] at hr
          exact ⟨rfl, .inr (.inr ⟨_, .inr (.inl ⟨rfl, rfl, rfl, (Option.some.inj hr).symm⟩)⟩)⟩
        · subst hj
          have hjh := L.part.mem.mp (.inl hjf)
          replace hr : (if ¬ (0 ≤ (j : Int) ∧ (j : Int) < h) then _ else _) = some r := hr
          rw [if_neg (by omega), if_neg (fun z => z (mem_zI.mpr hjf))] at hr
          by_cases c2 : BadBid t2 b2 (pb - pt) pb
          · rw [if_pos c2] at hr
            exact ⟨fun _ => ⟨rfl, .inr (.inl ⟨rfl, rfl, rfl, (Option.some.inj hr).symm⟩)⟩, fun z => absurd c2 z⟩
          · rw [if_neg c2] at hr
            cases hr
  · obtain ⟨x1, x2⟩ := xiR_at T FF hξ
    exact ⟨x1, r, x2, by obtain ⟨e, _⟩ := hξ; subst e; exact q⟩
def S_opened (A : Ad) : SpD := fun ds μ Q _ => ∃ (h : Nat) (ns : List Int) (d : D) (st sb : Int), ds = [scl A h ns, d] ∧ isF A d st sb ∧ 1 ≤ h ∧ h ≤ 7 ∧ (Sm st ∧ Sm sb) ∧ 0 < sb ∧ Good h ns ∧
  ∃ r, ((6 < h ∧ r = refD false [.str "BadHands", .int h]) ∨ (h ≤ 6 ∧ (st < 0 ∨ sb < st ∨ 1000000 < sb) ∧ r = refD false [.str "BadFraction"]) ∨ (h ≤ 6 ∧ 0 ≤ st ∧ st ≤ sb ∧ sb ≤ 1000000 ∧ r = .tup [.str "told", .tup []])) ∧ Q r μ
theorem lists0 {h : Nat} (h1 : 1 ≤ h) (h6 : h ≤ 6) : Lists h [] [] (List.range h) := ⟨part0 (by omega), h1, h6, List.Pairwise.nil, List.Pairwise.nil, List.pairwise_lt_range⟩
theorem fd_opened (T : Txt P K mg A) : Fd P w K mg base 8 "_law_opened" (S_opened A) := T.d_law_opened.fd (ps := p_law_opened) bd_law_opened fun f fd F => fn_dx F sc_law_opened (fun ds μ Q ξ ⟨_, _, _, _, _, hd, _⟩ => by subst hd; rfl) fun cdv B outer s H E G0 ξ ok tk hs ds μ Q
    ⟨h, ns, d, st, sb, hd, hf, h1, h7, sm, b0, G, r, hr, q⟩ => by
  subst hd
  obtain ⟨ff, fdd, hg, FF⟩ := T.d_law_fault.ex
  refine sd_one (s1_tryF (W := A.who) (f := ff) (fd := fdd) (ps := p_law_fault) (k := 1) 2 ok hs rfl rfl rfl (by decide) (by decide) ?_ (XiR A r μ) (fun pn xe G0 ek ok tk => ?_) (fun C ns es μ' hξ => ?_) (by decide) rfl hg FF.kp (FF.bindsN bd_law_fault) (by decide))
  · exact ⟨rfl, by decide, .inl T.c_who⟩
  · refine sd_one (s1_ret (ed_drop (ed_tup (ad_cons (ed_str (ad_cons (ed_prop0 (pd_near T) ok (ed_make (nd_auction T) ok (dds := []) (fun G => rfl) (ad_cons (ed_var 0 rfl (ad_cons (ed_var 1 rfl (ad_nil fun p dx hp => ⟨p, dx, h, ns, d, st, sb, rfl, mset_same, hf, h1, h7, sm, b0, ?_⟩)))))))))))))
    rcases hr with ⟨c, e⟩ | ⟨c, c2, e⟩ | ⟨c, c1, c2, c3, e⟩
    · exact ⟨fun _ => ⟨mdel_mset hp, .inr (.inr ⟨h, .inr (.inr ⟨rfl, rfl, rfl, e⟩)⟩)⟩, fun z => absurd c (by omega), fun z => absurd c (by omega)⟩
    · exact ⟨fun z => absurd z (by omega), fun _ _ => ⟨mdel_mset hp, .inr (.inl ⟨rfl, rfl, rfl, e⟩)⟩, fun _ z1 z2 z3 => absurd c2 (by omega)⟩
    · refine ⟨fun z => absurd z (by omega), fun _ z => absurd z (by omega), fun _ _ _ _ => ⟨rfl, _, _, insOf_ptr mset_same, p, dx, h, ns, [], [], _, _, _, [], rfl, mset_same, G, lists0 h1 c, ad_nil ⟨by simp, p, ?_⟩⟩⟩
      rw [mset_mset, mdel_mset hp]
      subst e
      exact q
  · obtain ⟨x1, x2⟩ := xiR_at T FF hξ
    exact ⟨x1, r, x2, by obtain ⟨e, _⟩ := hξ; subst e; exact q⟩
end
end DD
set_option Elab.async false
set_option linter.all false
set_option maxRecDepth 100000
set_option maxHeartbeats 4000000
/-! E18: what a call is due, bad calls. -/
namespace DD
open PySem PySem.Spec PyProof.Rows L2 PM
/-- the law's book -/
structure Book (μ : Mu) (p ps : Addr) (ns : List Int) (nl fl free : List Nat) (pt pb : Int) : Prop where
  b : μ p = some (.lst [lI ns, .ptr ps, pr pt pb])
  s : μ ps = some (.lst [lI (zI free), lI (zI nl), lI (zI fl)])
def dueD (o : Option D) : D := o.getD .non
abbrev callD (g1 t1 b1 g2 t2 b2 : Int) : D := .lst [.int g1, pr t1 b1, .int g2, pr t2 b2]
abbrev restT (pt pb : Int) : Int := rt (1 * pb + -1 * pt * 1) (1 * pb)
abbrev restB (pt pb : Int) : Int := rb (1 * pb + -1 * pt * 1) (1 * pb)
theorem rest_eq {pt pb : Int} (b0 : 0 < pb) : restT pt pb * pb = (pb - pt) * restB pt pb := by
  have e := cross (t := 1 * pb + -1 * pt * 1) (b := 1 * pb)
  have e1 : 1 * pb + -1 * pt * 1 = pb - pt := by omega
  have e2 : 1 * pb = pb := by omega
  unfold restT restB
  rw [e1, e2] at e ⊢
  exact e
section
variable {P : Program} {w : World} {K : PySem.W.Frag} {mg : Str → Option Value} {base : Heap} {A : Ad}
theorem Coins.fit {pt pb W : Int} (c : Coins pt pb W) : Fit 1 1 pt pb 1 3000000000000000 := by
  have := c.b1
  have := c.t0
  have := c.t1
  have := c.b0
  exact ⟨by decide, by decide, by omega, by omega, by decide⟩
/-- the two sides' coins -/

def S_call_due : SpD := fun ds μ Q _ => ∃ (p ps : Addr) (h : Nat) (ns : List Int) (nl fl free : List Nat) (pt pb W g1 t1 b1 g2 t2 b2 : Int), ds = [.int h, .ptr p, callD g1 t1 b1 g2 t2 b2] ∧ Book μ p ps ns nl fl free pt pb ∧ Coins pt pb W ∧ Frac t1 b1 ∧ Frac t2 b2 ∧ Q (dueD (due2 h free pt pb g1 t1 b1 g2 t2 b2)) μ
theorem fd_call_due (T : Txt P K mg A) : Fd P w K mg base 3 "_law_call_due" S_call_due := T.d_law_call_due.fd (ps := p_law_call_due) bd_law_call_due fun f fd F => fn_d F sc_law_call_due (fun ds μ Q ξ ⟨_, _, _, _, _, _, _, _, _, _, _, _, _, _, _, _, hd, _⟩ => by subst hd; rfl) fun cdv B outer s H E G0 ξ ok ds μ Q
    ⟨p, ps, h, ns, nl, fl, free, pt, pb, W, g1, t1, b1, g2, t2, b2, hd, bk, c, f1, f2, q⟩ => by
  subst hd
  have gb : lstOf μ (.ptr p) = some [lI ns, .ptr ps, pr pt pb] := lstOf_ptr bk.b
  have gs : lstOf μ (.ptr ps) = some [lI (zI free), lI (zI nl), lI (zI fl)] := lstOf_ptr bk.s
  refine sd_cons (s1_put ok 3 (ed_lst (ad_cons (ed_ixL (ed_var 1 rfl (ed_int ⟨_, 2, _, gb, rfl, rfl, ad_cons (ed_call (fd_sum T) ok (ad_cons (ed_tup (ad_cons (ed_int (ad_cons (ed_int (ad_nil ⟨by simp, ?_⟩))))))))⟩))))))
  refine ad_cons (ed_ixL (ed_var 1 rfl (ed_int ⟨_, 2, _, gb, rfl, rfl, ad_cons (ed_neg (ed_int ⟨_, rfl, ad_nil ⟨1, 1, pt, pb, -1, 1, 3000000000000000, rfl, c.fit, by decide, c.b0, .inr rfl, ad_nil ⟨by simp, ?_⟩⟩⟩))⟩)))
  have rsm : Sm (restT pt pb) ∧ Sm (restB pt pb) := by
    have h0 : Sm (1 * pb + -1 * pt * 1) := by
      have e1 : 1 * pb + -1 * pt * 1 = pb - pt := by omega
      have h1 := c.b1
      have h2 := c.t0
      have h3 := c.t1
      have x1 : (3000000000000000 : Int) ≤ 10 ^ 200 := by decide
      have x2 : -(10 ^ 200 : Int) ≤ 0 := by decide
      rw [e1]
      exact sm_of ⟨by omega, by omega⟩
    exact ⟨sm_rt h0, sm_rb (by have := c.b0; omega) (by rw [Int.one_mul]; exact c.sm.2)⟩
  refine sd_cons (s1_forR 4 (fun j ρ' μ' => μ' = μ ∧ (∃ x4 x5 x6 x7, ρ' = [some (.int h), some (.ptr p), some (callD g1 t1 b1 g2 t2 b2), some (.lst [pr pt pb, pr (restT pt pb) (restB pt pb)]), x4, x5, x6, x7]) ∧ (1 ≤ j → due1 h free pt pb g1 t1 b1 = none) ∧ (2 ≤ j → due2 h free pt pb g1 t1 b1 g2 t2 b2 = none)) ok T.f_range (ad_cons (ed_int (ad_nil ⟨2, rfl, by omega, by omega, ⟨rfl, ⟨none, none, none, none, rfl⟩, fun z => absurd z (by omega), fun z => absurd z (by omega)⟩, ?_, ?_⟩))))
  · intro j ρ' μ' hj ⟨hμ, ⟨x4, x5, x6, x7, hρ⟩, n1, n2⟩
    subst μ' hρ
    have hj2 : j < 2 := by omega
    obtain ⟨g, t, b, ct, cb, ct', e1, e2, e3, ff, sc, sb, iff, hs, hn⟩ : ∃ g t b ct cb ct' : Int, atI [.int g1, pr t1 b1, .int g2, pr t2 b2] (2 * (j : Int)) = some (.int g) ∧ atI [.int g1, pr t1 b1, .int g2, pr t2 b2] (2 * (j : Int) + 1) = some (pr t b) ∧ atI [pr pt pb, pr (restT pt pb) (restB pt pb)] (j : Int) = some (pr ct cb) ∧ Frac t b ∧ Sm ct ∧ Sm cb ∧
        (t * cb ≤ ct * b ↔ t * pb ≤ ct' * b) ∧ (∀ r, due1 h free ct' pb g t b = some r → Q r μ) ∧ (due1 h free ct' pb g t b = none → (1 ≤ j + 1 → due1 h free pt pb g1 t1 b1 = none) ∧ (2 ≤ j + 1 → due2 h free pt pb g1 t1 b1 g2 t2 b2 = none)) := by
      match j, hj2 with
      | 0, _ => exact ⟨g1, t1, b1, pt, pb, pt, rfl, rfl, rfl, f1, c.sm.1, c.sm.2, Iff.rfl, fun r e => by unfold due2 at q; rw [e] at q; exact q, fun e => ⟨fun _ => e, fun z => absurd z (by omega)⟩⟩
      | 1, _ =>
        have n1 := n1 (Nat.le_refl _)
        refine ⟨g2, t2, b2, restT pt pb, restB pt pb, pb - pt, rfl, rfl, rfl, f2, rsm.1, rsm.2, ?_, fun r e => by unfold due2 at q; rw [n1] at q; simp only at q; rw [e] at q; exact q, fun e => ⟨fun _ => n1, fun _ => by unfold due2; rw [n1]; exact e⟩⟩
        have re := rest_eq (pt := pt) c.b0
        have rp : 0 < restB pt pb := rb_pos (by have := c.b0; omega)
        have pp := c.b0
        constructor
        · intro hle
          have h1 : t2 * restB pt pb * pb ≤ restT pt pb * b2 * pb := Int.mul_le_mul_of_nonneg_right hle (by omega)
          have h2 : restT pt pb * b2 * pb = (pb - pt) * b2 * restB pt pb := by rw [Int.mul_right_comm, re, Int.mul_right_comm]
          rw [h2, Int.mul_right_comm] at h1
          exact Int.le_of_mul_le_mul_right h1 rp
        · intro hle
          have h1 : t2 * pb * restB pt pb ≤ (pb - pt) * b2 * restB pt pb := Int.mul_le_mul_of_nonneg_right hle (by omega)
          have h2 : restT pt pb * b2 * pb = (pb - pt) * b2 * restB pt pb := by rw [Int.mul_right_comm, re, Int.mul_right_comm]
          rw [← h2, Int.mul_right_comm] at h1
          exact Int.le_of_mul_le_mul_right h1 pp
    refine sd_cons (s1_put ok 5 (ed_ixL (ed_var 2 rfl (ed_mul (ed_int (ed_var 4 rfl ⟨_, _, rfl, rfl, .inl ⟨by decide, by decide⟩, _, _, _, rfl, rfl, e1, ?_⟩))))))
    refine sd_cons (s1_put ok 6 (ed_ixL (ed_var 2 rfl (ed_add (ed_mul (ed_int (ed_var 4 rfl ⟨_, _, rfl, rfl, .inl ⟨by decide, by decide⟩, ed_int ⟨_, _, rfl, rfl, _, _, _, rfl, rfl, e2, ?_⟩⟩)))))))
    unfold due1 at hs
    rw [due1] at hn
    have bad1 : ¬ (0 ≤ g ∧ g < h) → Q (refD true [.str "UnknownHand", .int g]) μ := fun z => hs _ (if_pos z)
    refine sd_cons (s1_if (td_or (td_lt (ed_var 5 rfl (ed_int ⟨_, _, rfl, rfl, if_b (fun e => ?_) fun e => ?_⟩)))))
    · refine if_t rfl (sd_one (s1_ret (ed_tup (ad_cons (ed_str (ad_cons (ed_lst (ad_cons (ed_bl (ad_cons (ed_bl (ad_cons (ed_tup (ad_cons (ed_str (ad_cons (ed_var 5 rfl (ad_nil ⟨by simp, ad_nil ⟨by simp, ad_nil ⟨by simp, bad1 ?_⟩⟩⟩))))))))))))))))))
      have := of_decide_eq_true e
      omega
    have e := of_decide_eq_false e
    refine td_ge (ed_var 5 rfl (ed_var 0 rfl ⟨_, _, rfl, rfl, if_b (fun e => ?_) fun e => sd_nil ?_⟩))
    · refine sd_one (s1_ret (ed_tup (ad_cons (ed_str (ad_cons (ed_lst (ad_cons (ed_bl (ad_cons (ed_bl (ad_cons (ed_tup (ad_cons (ed_str (ad_cons (ed_var 5 rfl (ad_nil ⟨by simp, ad_nil ⟨by simp, ad_nil ⟨by simp, bad1 ?_⟩⟩⟩)))))))))))))))))
      have := of_decide_eq_true e
      omega
    have e := of_decide_eq_false e
    have in1 : 0 ≤ g ∧ g < h := by omega
    rw [if_neg (fun z => z in1)] at hn
    replace hs : ∀ r, (if g ∉ zI free then some (refD true [.str "TakenHand", .int g]) else if BadBid t b ct' pb then some (refD false [.str "BadFraction"]) else none) = some r → Q r μ := fun r hr => hs r (by rw [if_neg (fun z => z in1)]; exact hr)
    refine sd_cons (s1_if (td_notIn (ed_var 5 rfl (ed_ixL (ed_ixL (ed_var 1 rfl (ed_int ⟨_, 1, _, gb, rfl, rfl, ed_int ⟨_, 0, _, gs, rfl, rfl, g, zI free, rfl, rfl, if_b (fun e => ?_) fun e => sd_nil ?_⟩⟩)))))))
    · have e : g ∉ zI free := by simpa using e
      exact sd_one (s1_ret (ed_tup (ad_cons (ed_str (ad_cons (ed_lst (ad_cons (ed_bl (ad_cons (ed_bl (ad_cons (ed_tup (ad_cons (ed_str (ad_cons (ed_var 5 rfl (ad_nil ⟨by simp, ad_nil ⟨by simp, ad_nil ⟨by simp, hs _ (if_pos e)⟩⟩⟩)))))))))))))))))
    have e : g ∈ zI free := by simpa using e
    rw [if_neg (fun z => z e)] at hn
    replace hs : BadBid t b ct' pb → Q (refD false [.str "BadFraction"]) μ := fun z => hs _ (by rw [if_neg (fun z => z e), if_pos z])
    refine sd_join (fun ρ' μ' => ∃ cc : Bool, ρ' = [some (.int h), some (.ptr p), some (callD g1 t1 b1 g2 t2 b2), some (.lst [pr pt pb, pr (restT pt pb) (restB pt pb)]), some (.int j), some (.int g), some (pr t b), some (.bl cc)] ∧ μ' = μ ∧ (cc = true ↔ 0 ≤ t ∧ b ≤ 1000000)) (s1_put ok 7 (ed_and2 (ed_ge (ed_ixT (ed_var 6 rfl (ed_int ⟨_, 0, _, rfl, rfl, ix0, ed_int ⟨_, _, rfl, rfl, _, rfl, ?_⟩⟩)))))) fun ρ' μ' ⟨cc, hρ, hμ, hcc⟩ => ?_
    · refine if_b (fun e => ed_le (ed_ixT (ed_var 6 rfl (ed_int ⟨_, 1, _, rfl, rfl, ix1, ed_1e6 ⟨_, _, rfl, rfl, ⟨_, rfl, rfl, ?_⟩⟩⟩)))) fun e => ⟨false, rfl, rfl, ?_⟩
      · have e := of_decide_eq_true e
        rw [decide_eq_true_iff]
        exact ⟨fun z => ⟨e, z⟩, fun z => z.2⟩
      · have e := of_decide_eq_false e
        exact ⟨(fun z => nomatch z), fun z => absurd z.1 e⟩
    subst μ' hρ
    refine sd_one (s1_if (td_or (td_not (td_val (ed_var 7 rfl ⟨cc, rfl, if_b (fun e => if_t rfl ?_) fun e => ?_⟩)))))
    · refine sd_one (s1_ret (ed_tup (ad_cons (ed_str (ad_cons (ed_lst (ad_cons (ed_bl (ad_cons (ed_bl (ad_cons (ed_tup (ad_cons (ed_str (ad_nil ⟨by simp, ad_nil ⟨by simp, ad_nil ⟨by simp, hs ?_⟩⟩⟩)))))))))))))))
      have e : cc = false := by simpa using e
      have : ¬ (0 ≤ t ∧ b ≤ 1000000) := fun z => by rw [hcc.mpr z] at e; cases e
      by_cases z : t < 0
      · exact .inl z
      · exact .inr (.inr (by omega))
    have e : cc = true := by simpa using e
    have tb := hcc.mp e
    refine td_not (td_val (ed_call (fd_no_more T) ok (ad_cons (ed_var 6 rfl (ad_cons (ed_ixL (ed_var 3 rfl (ed_var 4 rfl ⟨_, _, _, rfl, rfl, e3, ad_nil ⟨t, b, ct, cb, rfl, ⟨ff.sm.1, ff.sm.2, sc, sb⟩, _, rfl, if_b (fun e => ?_) fun e => sd_nil ?_⟩⟩))))))))
    · refine sd_one (s1_ret (ed_tup (ad_cons (ed_str (ad_cons (ed_lst (ad_cons (ed_bl (ad_cons (ed_bl (ad_cons (ed_tup (ad_cons (ed_str (ad_nil ⟨by simp, ad_nil ⟨by simp, ad_nil ⟨by simp, hs ?_⟩⟩⟩)))))))))))))))
      have e : ¬ t * cb ≤ ct * b := by simpa using e
      rw [iff] at e
      exact .inr (.inl (by omega))
    · have e : t * cb ≤ ct * b := by simpa using e
      rw [iff] at e
      have nb : ¬ BadBid t b ct' pb := fun z => by rcases z with z | z | z <;> omega
      rw [if_neg nb] at hn
      exact ⟨rfl, ⟨_, _, _, _, rfl⟩, hn rfl⟩
  · intro ρ' μ' ⟨hμ, ⟨x4, x5, x6, x7, hρ⟩, n1, n2⟩
    subst μ' hρ
    have n2 := n2 (Nat.le_refl _)
    rw [n2] at q
    exact sd_one (s1_ret (ed_non q))
end
end DD
set_option Elab.async false
set_option linter.all false
set_option maxRecDepth 100000
set_option maxHeartbeats 4000000
/-! E19: bad calls. -/
namespace DD
open PySem PySem.Spec PyProof.Rows L2 PM
theorem frac_red {t b : Int} (b0 : 0 < b) (hb : b ≤ 10 ^ 60) (ht : t.natAbs ≤ 10 ^ 60) : Frac (rt t b) (rb t b) := by
  have h1 := rb_le (t := t) b0
  have h2 := rt_abs t b
  have h3 := rb_pos (t := t) b0
  have e : ((10 ^ 60 : Nat) : Int) = (10 : Int) ^ 60 := Int.natCast_pow 10 60
  generalize (10 : Nat) ^ 60 = n at *
  refine ⟨h3, ?_, ?_, by omega, rdc_red b0⟩ <;> rw [← e] <;> omega
theorem e60 : (7000000000000000000000 : Int) ≤ 10 ^ 60 := by decide
theorem n60 : (7000000000000000000000 : Nat) ≤ 10 ^ 60 := by decide
theorem Coins.frac {pt pb W : Int} (c : Coins pt pb W) : Frac pt pb := by
  have := c.b1
  have := c.t0
  have := c.t1
  have := c.b0
  have := e60
  have e3 : -(10 ^ 60 : Int) ≤ 0 := by decide
  exact ⟨c.b0, by omega, by omega, by omega, c.rd⟩
theorem Coins.rfrac {pt pb W : Int} (c : Coins pt pb W) : Frac (restT pt pb) (restB pt pb) ∧ restB pt pb ≤ 3000000000000000 ∧ (restT pt pb).natAbs ≤ 3000000000000000 := by
  have h1 := c.b1
  have h2 := c.t0
  have h3 := c.t1
  have h4 := c.b0
  have h5 := e60
  have h6 := n60
  have k1 : (1 * pb + -1 * pt * 1).natAbs ≤ 3000000000000000 := by omega
  refine ⟨frac_red (by omega) (by omega) (Nat.le_trans k1 (by omega)), ?_, ?_⟩
  · exact Int.le_trans (rb_le (by omega)) (by omega)
  · exact Nat.le_trans (rt_abs _ _) k1
/-- the turns of a bad call -/
abbrev badR (cs : List Int) (b : Addr) (h : Nat) (p : Addr) (cd : D) (tn : Int) (cn : D) (hr : List Int) (z : Addr) (pl : Int) (x10 x11 x12 x13 : Option D) : Rho := [some (lI cs), some (.ptr b), some (.int h), some (.ptr p), some cd, some (.int tn), some cn, some (lI hr), some (.ptr z), some (.int pl), x10, x11, x12, x13]
def BadI (cs : List Int) (b : Addr) (h : Nat) (p : Addr) (cd : D) (tn : Int) (cn : D) (hr : List Int) (z : Addr) (μ0 : Mu) (ρ' : Rho) (μ' : Mu) : Prop := ∃ (g1 t1 b1 g2 t2 b2 pl : Int) (x10 x11 x12 x13 : Option D), ρ' = badR cs b h p cd tn cn hr z pl x10 x11 x12 x13 ∧
  Bx (mset μ0 z (.lst [.int g1, pr t1 b1, .int g2, pr t2 b2])) b μ' ∧ Frac t1 b1 ∧ Frac t2 b2 ∧ 0 ≤ pl ∧ pl < 4
section
variable {P : Program} {w : World} {K : PySem.W.Frag} {mg : Str → Option Value} {base : Heap} {A : Ad}
theorem td_orJ {Γ : Ctx} {a b : Expr} {ρ : Rho} {μ : Mu} {R : Bool → Mu → Prop} {pos : Pos} {c1 c2 : Bool} (ha : TD Γ a ρ μ fun c μ' => μ' = μ ∧ c = c1) (hb : TD Γ b ρ μ fun c μ' => μ' = μ ∧ c = c2) (q : R (c1 || c2) μ) : TD Γ (.BoolOp .Or [a, b] pos) ρ μ R :=
  td_or (ha.imp fun c μ' ⟨hm, hc⟩ => by
    subst μ'
    subst hc
    cases c with
    | true => exact if_t rfl q
    | false =>
      refine if_f rfl (hb.imp (R' := R) fun c μ' ⟨hm, hc⟩ => ?_)
      subst μ'
      subst hc
      exact q)
def S_bad_call : SpD := fun ds μ Q _ => ∃ (cs : List Int) (b : Addr) (μ0 : Mu) (p ps : Addr) (h : Nat) (ns : List Int) (nl fl free : List Nat) (pt pb W g1 t1 b1 g2 t2 b2 tn : Int), ds = [lI cs, .ptr b, .int h, .ptr p, callD g1 t1 b1 g2 t2 b2, .int tn] ∧ Bx μ0 b μ ∧ Book μ p ps ns nl fl free pt pb ∧
  Coins pt pb W ∧ Frac t1 b1 ∧ Frac t2 b2 ∧ nl.length + fl.length ≤ 100 ∧ ∀ g1 t1 b1 g2 t2 b2 μ', Frac t1 b1 → Frac t2 b2 → Bx μ0 b μ' → Q (callD g1 t1 b1 g2 t2 b2) μ'
theorem fd_bad_call (T : Txt P K mg A) : Fd P w K mg base 3 "_law_bad_call" S_bad_call := T.d_law_bad_call.fd (ps := p_law_bad_call) bd_law_bad_call fun f fd F => fn_d F sc_law_bad_call (fun ds μ Q ξ ⟨_, _, _, _, _, _, _, _, _, _, _, _, _, _, _, _, _, _, _, _, hd, _⟩ => by subst hd; rfl) fun cdv B outer s H E G0 ξ ok ds μ Q
    ⟨cs, b, μ0, p, ps, h, ns, nl, fl, free, pt, pb, W, g1, t1, b1, g2, t2, b2, tn, hd, hB, bk, c, f1, f2, hl, q⟩ => by
  subst hd
  have gb : lstOf μ (.ptr p) = some [lI ns, .ptr ps, pr pt pb] := lstOf_ptr bk.b
  have gs : lstOf μ (.ptr ps) = some [lI (zI free), lI (zI nl), lI (zI fl)] := lstOf_ptr bk.s
  refine sd_cons (s1_put ok 6 (ed_lst (ad_cons (ed_ixL (ed_var 3 rfl (ed_int ⟨_, 2, _, gb, rfl, rfl, ad_cons (ed_call (fd_sum T) ok (ad_cons (ed_tup (ad_cons (ed_int (ad_cons (ed_int (ad_nil ⟨by simp, ?_⟩))))))))⟩))))))
  refine ad_cons (ed_ixL (ed_var 3 rfl (ed_int ⟨_, 2, _, gb, rfl, rfl, ad_cons (ed_neg (ed_int ⟨_, rfl, ad_nil ⟨1, 1, pt, pb, -1, 1, 3000000000000000, rfl, c.fit, by decide, c.b0, .inr rfl, ad_nil ⟨by simp, ?_⟩⟩⟩))⟩)))
  refine sd_cons (s1_put ok 7 (ed_cat (ed_ixL (ed_ixL (ed_var 3 rfl (ed_int ⟨_, 1, _, gb, rfl, rfl, ed_int ⟨_, 1, _, gs, rfl, rfl, ed_ixL (ed_ixL (ed_var 3 rfl (ed_int ⟨_, 1, _, gb, rfl, rfl, ed_int ⟨_, 2, _, gs, rfl, rfl, _, _, rfl, rfl, ?_, ?_⟩⟩)))⟩⟩))))))
  · rw [zI_len, zI_len]; omega
  rw [← List.map_append]
  generalize hhr : zI nl ++ zI fl = hr
  have hrl : hr.length ≤ 100 := by rw [← hhr, List.length_append]; simp; omega
  refine sd_cons (s1_put ok 8 (ed_listM T.f_list (ed_var 4 rfl ⟨_, rfl, fun z hz => ?_⟩)))
  obtain ⟨k0, v0, hk0, hμ1⟩ := hB
  subst hμ1
  have nzb : z ≠ b := fun e => by rw [e, mset_same] at hz; cases hz
  have hz0 : μ0 z = none := by rw [mset_ne nzb] at hz; exact hz
  have hB0 : Bx (mset μ0 z (.lst [.int g1, pr t1 b1, .int g2, pr t2 b2])) b (mset (mset μ0 b (bxM k0 v0)) z (.lst [.int g1, pr t1 b1, .int g2, pr t2 b2])) := ⟨k0, v0, hk0, by rw [mset_comm (Ne.symm nzb)]⟩
  refine sd_cons (s1_put ok 9 (ed_mod (ed_int1 T.f_int (ed_add (ed_call (fd_digit T) ok (ad_cons (ed_var 0 rfl (ad_cons (ed_var 1 rfl (ad_cons (ed_int (ad_nil ⟨cs, b, 4, _, rfl, hB0, by omega, by omega, fun d μ2 d0 d4 hB => ?_⟩))))))))))))
  refine ed_var 5 rfl ⟨_, _, rfl, rfl, .inl ⟨_, rfl, ed_int ⟨_, _, rfl, rfl, by omega, ?_⟩⟩⟩
  generalize hpl : (d + tn) % 4 = pl
  have pl0 : 0 ≤ pl := by omega
  have pl4 : pl < 4 := by omega
  refine sd_cons (s1_forR 10 (fun _ => BadI cs b h p (callD g1 t1 b1 g2 t2 b2) tn (.lst [pr pt pb, pr (restT pt pb) (restB pt pb)]) hr z μ0) ok T.f_range ?_)
  refine ad_cons (ed_ixL (ed_lits (zs := [1, 2]) rfl (by decide) (ed_call (fd_digit T) ok (ad_cons (ed_var 0 rfl (ad_cons (ed_var 1 rfl (ad_cons (ed_int (ad_nil ⟨cs, b, 2, _, rfl, hB, by omega, by omega, fun d2 μ3 d20 d21 hB => ?_⟩))))))))))
  obtain ⟨n, hn, hnm⟩ := lit_int (zs := [1, 2]) d20 (by simpa using d21)
  have hn2 : 1 ≤ n ∧ n ≤ 2 := by simp at hnm; omega
  refine ⟨_, _, _, rfl, rfl, hn, ad_nil ⟨n, rfl, by omega, by omega, ⟨g1, t1, b1, g2, t2, b2, pl, none, none, none, none, rfl, hB, f1, f2, pl0, pl4⟩, ?_, ?_⟩⟩
  · generalize callD g1 t1 b1 g2 t2 b2 = cd
    clear hB f1 f2 q hB0 pl0 pl4 hpl hz
    intro j ρ' μ' hj ⟨g1, t1, b1, g2, t2, b2, pl, x10, x11, x12, x13, hρ, hB, f1, f2, pl0, pl4⟩
    subst hρ
    refine sd_cons (s1_put ok 9 (ed_mod (ed_int1 T.f_int (ed_add (ed_var 9 rfl (ed_mul (ed_var 10 rfl (ed_add (ed_int (ed_call (fd_digit T) ok (ad_cons (ed_var 0 rfl (ad_cons (ed_var 1 rfl (ad_cons (ed_int (ad_nil ⟨cs, b, 3, _, rfl, hB, by omega, by omega, fun d μ2 d0 d3 hB => ?_⟩)))))))))))))))))
    refine ⟨_, _, rfl, rfl, _, _, rfl, rfl, .inl ⟨by omega, by omega⟩, _, _, rfl, rfl, .inl ⟨_, rfl, ed_int ⟨_, _, rfl, rfl, by omega, ?_⟩⟩⟩
    generalize (pl + (j : Int) * (1 + d)) = pp
    obtain ⟨pm, hpm⟩ : ∃ pm : Nat, pp % 4 = pm ∧ pm < 4 := ⟨(pp % 4).toNat, by omega⟩
    rw [hpm.1]
    obtain ⟨μ4, hμ4, hB4, k4, v4, hk4, hμ4'⟩ := hB.swap nzb
    subst hμ4
    -- what a store at the place makes
    have fin : ∀ (d : D) (x10 x11 x12 x13 : Option D) μ5, ((pm = 0 ∨ pm = 2) → ∃ g, d = .int g) → (¬ (pm = 0 ∨ pm = 2) → ∃ t b, d = pr t b ∧ Frac t b) → (∀ m', Bx (mset μ0 z m') b (mset μ5 z m')) →
        BadI cs b h p cd tn (.lst [pr pt pb, pr (restT pt pb) (restB pt pb)]) hr z μ0 (badR cs b h p cd tn (.lst [pr pt pb, pr (restT pt pb) (restB pt pb)]) hr z (pm : Nat) x10 x11 x12 x13) (mset μ5 z (.lst ([D.int g1, pr t1 b1, .int g2, pr t2 b2].set pm d))) := fun d x10 x11 x12 x13 μ5 h1 h2 hB5 => by
      have pm4 := hpm.2
      match pm, pm4 with
      | 0, _ =>
        obtain ⟨g, e⟩ := h1 (.inl rfl)
        subst e
        exact ⟨g, t1, b1, g2, t2, b2, 0, _, _, _, _, rfl, hB5 _, f1, f2, by omega, by omega⟩
      | 1, _ =>
        obtain ⟨t, b, e, ff⟩ := h2 (by omega)
        subst e
        exact ⟨g1, t, b, g2, t2, b2, 1, _, _, _, _, rfl, hB5 _, ff, f2, by omega, by omega⟩
      | 2, _ =>
        obtain ⟨g, e⟩ := h1 (.inr rfl)
        subst e
        exact ⟨g1, t1, b1, g, t2, b2, 2, _, _, _, _, rfl, hB5 _, f1, f2, by omega, by omega⟩
      | 3, _ =>
        obtain ⟨t, b, e, ff⟩ := h2 (by omega)
        subst e
        exact ⟨g1, t1, b1, g2, t, b, 3, _, _, _, _, rfl, hB5 _, f1, ff, by omega, by omega⟩
    have gl : lstOf (mset μ4 z (.lst [.int g1, pr t1 b1, .int g2, pr t2 b2])) (.ptr z) = some [.int g1, pr t1 b1, .int g2, pr t2 b2] := lstOf_ptr mset_same
    have pm4 := hpm.2
    refine sd_one (s1_if (td_orJ (c1 := decide ((pm : Int) = 0)) (c2 := decide ((pm : Int) = 2)) (td_eqI (ed_var 9 rfl (ed_int ⟨_, _, rfl, rfl, rfl, rfl⟩))) (td_eqI (ed_var 9 rfl (ed_int ⟨_, _, rfl, rfl, rfl, rfl⟩))) (if_b (fun e => ?_) fun e => ?_)))
    · have hpm2 : pm = 0 ∨ pm = 2 := by
        rcases Bool.or_eq_true_iff.mp e with e | e
        · have := of_decide_eq_true e; omega
        · have := of_decide_eq_true e; omega
      refine sd_cons (s1_put ok 11 (ed_cat (ed_lst (ad_cons (ed_var 2 rfl (ad_cons (ed_neg (ed_int ⟨_, rfl, ad_cons (ed_pow (ed_int (ed_int ⟨_, _, rfl, rfl, ⟨by decide, by decide, by decide⟩, ad_nil ⟨by simp, ed_var 7 rfl ⟨_, _, rfl, rfl, ?_, ?_⟩⟩⟩)))⟩))))))))
      · rw [List.length_map]; simp; omega
      have em : ([D.int h, .int (-1), .int (10 ^ (30 : Int).toNat)] ++ hr.map D.int) = (((h : Int) :: -1 :: 10 ^ (30 : Int).toNat :: hr).map D.int) := rfl
      rw [em]
      generalize hM : ((h : Int) :: -1 :: 10 ^ (30 : Int).toNat :: hr) = M
      have Ml : 3 ≤ M.length ∧ M.length ≤ 103 := by rw [← hM]; simp; omega
      have ln : ∀ μ', seqLen μ' (lI M) = some M.length := fun μ' => by show some (List.length (M.map D.int)) = _; rw [List.length_map]
      refine sd_cons (s1_put ok 12 (ed_add (ed_call (fd_digit T) ok (ad_cons (ed_var 0 rfl (ad_cons (ed_var 1 rfl (ad_cons (ed_len T.f_len (ed_var 11 rfl ⟨_, ln _, ad_nil ⟨cs, b, _, _, rfl, hB, by omega, by omega, fun d5 μ5 d50 d51 hB => ?_⟩⟩))))))))))
      refine ed_mul (ed_int (ed_int1 T.f_int (ed_gt (ed_len T.f_len (ed_var 11 rfl ⟨_, ln _, ed_int ⟨_, _, rfl, rfl, .inr ⟨_, rfl, _, _, rfl, rfl, .inl ⟨by decide, by decide⟩, _, _, rfl, rfl, ?_⟩⟩⟩)))))
      generalize (d5 + 3 * (if decide (3 < (M.length : Int)) = true then 1 else 0)) = sp
      obtain ⟨μ6, hμ6, hB6, _⟩ := hB.swap nzb
      subst hμ6
      obtain ⟨sq, hsq⟩ : ∃ sq : Nat, sp % (M.length : Int) = sq ∧ sq < M.length := ⟨(sp % (M.length : Int)).toNat, by
        have h0 := Int.emod_nonneg sp (show (M.length : Int) ≠ 0 by omega)
        have h1 := Int.emod_lt_of_pos sp (show (0 : Int) < M.length by omega)
        omega⟩
      refine sd_one (s1_sub (ed_ixL (ed_var 11 rfl (ed_mod (ed_int1 T.f_int (ed_var 12 rfl (.inl ⟨_, rfl, ed_len T.f_len (ed_var 11 rfl ⟨_, ln _, _, _, rfl, rfl, by omega, ?_⟩)⟩)))))))
      rw [hsq.1]
      refine ⟨_, _, _, rfl, rfl, atI_int hsq.2, ed_var 8 rfl (ed_var 9 rfl ⟨z, _, _, pm, rfl, mset_same, rfl, ixN_nat pm4, ?_⟩)⟩
      rw [mset_mset]
      exact fin _ _ _ _ _ _ (fun _ => ⟨_, rfl⟩) (fun z => absurd hpm2 z) hB6
    · have hpm2 : ¬ (pm = 0 ∨ pm = 2) := fun z => by
        rcases z with z | z <;> subst z <;> simp at e
      obtain ⟨ct, cb, hc, fc, hcb, hct⟩ : ∃ ct cb : Int, atI [pr pt pb, pr (restT pt pb) (restB pt pb)] ((pm : Int) / 2) = some (pr ct cb) ∧ Frac ct cb ∧ cb ≤ 3000000000000000 ∧ ct.natAbs ≤ 3000000000000000 := by
        have := c.b1
        have := c.t0
        have := c.t1
        match pm, pm4, hpm2 with
        | 0, _, z => exact absurd (.inl rfl) z
        | 1, _, _ => exact ⟨pt, pb, rfl, c.frac, c.b1, by omega⟩
        | 2, _, z => exact absurd (.inr rfl) z
        | 3, _, _ => exact ⟨_, _, rfl, c.rfrac⟩
      have b0 := fc.b0
      refine sd_cons (s1_put ok 13 (ed_ixL (ed_var 6 rfl (ed_fdivW (ed_var 9 rfl (ed_int ⟨_, _, rfl, rfl, div_ok (by decide) ?_, _, _, _, rfl, rfl, hc, ?_⟩))))))
      · exact Nat.lt_of_lt_of_le (show (2 : Int).natAbs < 2 ^ 2 by decide) (Nat.pow_le_pow_right (by omega) (by omega))
      refine sd_cons (s1_put ok 11 (ed_lst (ad_cons (ed_call (fd_sum T) ok (ad_cons (ed_var 13 rfl (ad_cons (ed_tup (ad_cons (ed_int (ad_cons (ed_1e6 (ad_nil ⟨by simp, ad_cons (ed_int (ad_nil ⟨ct, cb, 1, 1000000, 1, 3000000000000000, 1000000, rfl, ⟨hct, by omega, by decide, by decide, by decide⟩, b0, by decide, .inl rfl, ?_⟩))⟩)))))))))))))
      refine ad_cons (ed_var 13 rfl (ad_cons (ed_tup (ad_cons (ed_neg (ed_int ⟨_, rfl, ad_cons (ed_1e6 (ad_nil ⟨by simp, ad_cons (ed_tup (ad_cons (ed_int (ad_cons (ed_add (ed_1e6 (ed_int ⟨_, _, rfl, rfl, ad_nil ⟨by simp, ad_cons (ed_tup (ad_cons (ed_int (ad_cons (ed_int (ad_nil ⟨by simp, ad_nil ⟨by simp, ?_⟩⟩))))))⟩⟩)))))))⟩))⟩))))))
      have all : ∀ d ∈ [pr (rt (ct * 1000000 + 1 * 1 * cb) (cb * 1000000)) (rb (ct * 1000000 + 1 * 1 * cb) (cb * 1000000)), pr ct cb, pr (-1) 1000000, pr 1 (1000000 + 1), pr 2 1], ∃ t b, d = pr t b ∧ Frac t b := fun d hd => by
        have := e60
        have := n60
        simp only [List.mem_cons, List.not_mem_nil, or_false] at hd
        rcases hd with e | e | e | e | e <;> subst e
        · exact ⟨_, _, rfl, frac_red (by omega) (by omega) (by omega)⟩
        · exact ⟨_, _, rfl, fc⟩
        · exact ⟨_, _, rfl, by decide, by decide, by decide, by decide, by unfold Rdc; decide⟩
        · exact ⟨_, _, rfl, by decide, by decide, by decide, by decide, by unfold Rdc; decide⟩
        · exact ⟨_, _, rfl, by decide, by decide, by decide, by decide, by unfold Rdc; decide⟩
      refine sd_one (s1_sub (ed_ixL (ed_var 11 rfl (ed_call (fd_digit T) ok (ad_cons (ed_var 0 rfl (ad_cons (ed_var 1 rfl (ad_cons (ed_int (ad_nil ⟨cs, b, 5, _, rfl, hB, by omega, by omega, fun d5 μ5 d50 d51 hB => ?_⟩)))))))))))
      obtain ⟨dd, hdd, hdm⟩ := lit_get (ds := [pr (rt (ct * 1000000 + 1 * 1 * cb) (cb * 1000000)) (rb (ct * 1000000 + 1 * 1 * cb) (cb * 1000000)), pr ct cb, pr (-1) 1000000, pr 1 (1000000 + 1), pr 2 1]) (n := 5) d50 (by omega) rfl
      obtain ⟨μ6, hμ6, hB6, _⟩ := hB.swap nzb
      subst hμ6
      refine ⟨_, _, _, rfl, rfl, hdd, ed_var 8 rfl (ed_var 9 rfl ⟨z, _, _, pm, rfl, mset_same, rfl, ixN_nat pm4, ?_⟩)⟩
      rw [mset_mset]
      exact fin _ _ _ _ _ _ (fun z => absurd z hpm2) (fun _ => all dd hdm) hB6
  · intro ρ' μ' ⟨g1, t1, b1, g2, t2, b2, pl, x10, x11, x12, x13, hρ, hB, f1, f2, pl0, pl4⟩
    subst hρ
    obtain ⟨μ4, hμ4, hB4, k4, v4, hk4, hμ4'⟩ := hB.swap nzb
    subst hμ4
    refine sd_one (s1_ret (ed_freeze (ed_var 8 rfl ⟨z, _, rfl, mset_same, ?_⟩)))
    have h4p : μ4 z = none := by rw [hμ4', mset_ne nzb]; exact hz0
    rw [mdel_mset h4p]
    exact q g1 t1 b1 g2 t2 b2 μ4 f1 f2 ⟨k4, v4, hk4, hμ4'⟩
end
end DD
set_option Elab.async false
set_option linter.all false
set_option maxRecDepth 100000
set_option maxHeartbeats 4000000
/-! E20: the state, what is told, the opening. -/
namespace DD
open PySem PySem.Spec PyProof.Rows L2 PM
theorem pl_ints {n : Nat} {ns : List Int} (h : ns.length ≤ 900) : Pl (n + 1) (tI ns) := .tup (fun x hx => by
  obtain ⟨i, _, e⟩ := List.mem_map.mp hx
  subst e
  exact .int) (by rw [List.length_map]; exact h)
theorem pl_pr {n : Nat} {a b : Int} : Pl (n + 1) (pr a b) := .tup (fun x hx => by
  simp only [List.mem_cons, List.not_mem_nil, or_false] at hx
  rcases hx with e | e <;> subst e <;> exact .int) (by show (2 : Nat) ≤ 900; omega)
theorem zI_l (l : List Nat) : (zI l).length = l.length := List.length_map ..
theorem bs_sum (l : List Nat) : (l.map fun i : Nat => ((2 ^ i : Nat) : Int)).sum = (bs l : Int) := by
  induction l with
  | nil => rfl
  | cons a l ih => rw [List.map_cons, List.sum_cons, ih, bs_cons]; push_cast; rfl
section
variable {P : Program} {w : World} {K : PySem.W.Frag} {mg : Str → Option Value} {base : Heap} {A : Ad}
theorem len_le {h : Nat} {nl fl free : List Nat} (p : Part h nl fl free) : free.length + (nl.length + fl.length) ≤ 7 := by
  have e := p.perm.length_eq
  have := p.h7
  rw [List.length_append, List.length_append, List.length_range] at e
  omega
theorem nil_zI {l : List Nat} : decide (zI l = []) = decide (l = []) := by cases l <;> rfl
def S_state (A : Ad) : SpD := fun ds μ Q _ => ∃ (a dx : Addr) (h : Nat) (ns : List Int) (nl fl free : List Nat) (pt pb : Int) (past : List D) (ps : Addr), ds = [.ptr a, lI ns, .ptr ps, pr pt pb] ∧ AucAt A μ a dx h ns nl fl pt pb past ∧ Good h ns ∧ Lists h nl fl free ∧
  μ ps = some (.lst [lI (zI free), lI (zI nl), lI (zI fl)]) ∧ past.length = nl.length + fl.length ∧ Q (.bl true) μ
theorem fd_state (T : Txt P K mg A) : Fd P w K mg base 9 "_law_state_right" (S_state A) := T.d_law_state_right.fd (ps := p_law_state_right) bd_law_state_right fun f fd F => fn_d F sc_law_state_right (fun ds μ Q ξ ⟨_, _, _, _, _, _, _, _, _, _, _, hd, _⟩ => by subst hd; rfl) fun cdv B outer s H E G0 ξ ok ds μ Q
    ⟨a, dx, h, ns, nl, fl, free, pt, pb, past, ps, hd, au, G, L, hs, hp, q⟩ => by
  subst hd
  have p := L.part
  have ll := len_le p
  have gs : lstOf μ (.ptr ps) = some [lI (zI free), lI (zI nl), lI (zI fl)] := lstOf_ptr hs
  refine sd_cons (s1_if (td_not (td_val (ed_call (fd_same T 1) ok (ad_cons (ed_prop0 (pd_near T) ok (ed_var 0 rfl ⟨_, _, au.ins, a, dx, h, ns, nl, fl, free, pt, pb, past, rfl, au, G, L, ad_cons (ed_tuple T.f_tuple (ed_ixL (ed_var 2 rfl (ed_int ⟨_, 1, _, gs, rfl, rfl, _, rfl, ad_nil ⟨_, rfl, pl_ints ?_, _, rfl, if_f rfl (sd_nil ?_)⟩⟩))))⟩)))))))
  · rw [zI_l]; omega
  refine sd_cons (s1_if (td_not (td_val (ed_call (fd_same T 1) ok (ad_cons (ed_prop0 (pd_far T) ok (ed_var 0 rfl ⟨_, _, au.ins, a, dx, h, ns, nl, fl, free, pt, pb, past, rfl, au, G, L, ad_cons (ed_tuple T.f_tuple (ed_ixL (ed_var 2 rfl (ed_int ⟨_, 2, _, gs, rfl, rfl, _, rfl, ad_nil ⟨_, rfl, pl_ints ?_, _, rfl, if_f rfl (sd_nil ?_)⟩⟩))))⟩)))))))
  · rw [zI_l]; omega
  refine sd_cons (s1_if (td_not (td_val (ed_call (fd_same T 1) ok (ad_cons (ed_prop0 (pd_free T) ok (ed_var 0 rfl ⟨_, _, au.ins, a, dx, h, ns, nl, fl, free, pt, pb, past, rfl, au, G, L, ad_cons (ed_tuple T.f_tuple (ed_ixL (ed_var 2 rfl (ed_int ⟨_, 0, _, gs, rfl, rfl, _, rfl, ad_nil ⟨_, rfl, pl_ints ?_, _, rfl, if_f rfl (sd_nil ?_)⟩⟩))))⟩)))))))
  · rw [zI_l]; omega
  refine sd_cons (s1_put ok 4 (ed_non ?_))
  refine sd_join (fun ρ' μ' => ∃ x5, ρ' = [some (.ptr a), some (lI ns), some (.ptr ps), some (pr pt pb), some (resD ns nl free), x5] ∧ μ' = μ) (s1_if (td_eqNil (Nat.lt_of_le_of_lt (by omega) ok.room.un) (ed_ixL (ed_var 2 rfl (ed_int ⟨_, 0, _, gs, rfl, rfl, zI free, rfl, if_b (fun e => ?_) fun e => sd_nil ?_⟩))))) fun ρ' μ' ⟨x5, hρ, hμ⟩ => ?_
  · rw [nil_zI] at e
    have e := of_decide_eq_true e
    have zz : (zI nl).map D.int = nl.map fun i : Nat => D.int (i : Int) := by unfold zI; rw [List.map_map]; rfl
    refine sd_one (s1_put ok 4 (ed_ixL (ed_var 1 rfl (ed_sum ok.calm T.f_sum (ed_lc 5 (fun i : Nat => .int i) (fun _ => true) (fun i : Nat => .int ((2 ^ i : Nat) : Int)) ok (ed_ixL (ed_var 2 rfl (ed_int ⟨_, 1, _, gs, rfl, rfl, nl, congrArg some zz, by omega, fun i hi s H C cl fp μ' hu => ⟨rfl, fun _ => ?_⟩, (fun _ h => nomatch h), nl.map (fun i : Nat => ((2 ^ i : Nat) : Int)), ?_, ?_⟩))) rfl fun _ _ _ _ _ => pg_name (i := 5) ok.nd rfl (Or.inl rfl))))))
    · have i7 := p.sub.1 i hi
      refine ed_shl (ed_int (ed_var 5 rfl ⟨_, _, rfl, rfl, ⟨by omega, by omega, by decide⟩, rfl, ?_⟩))
      rw [shl1]
    · rw [List.filter_eq_self.mpr (fun _ _ => rfl), List.map_map]; rfl
    · rw [bs_sum]
      refine ⟨_, _, _, rfl, rfl, atI_int ?_, none, ?_, rfl⟩
      · rw [G.len]
        have := p.rest
        have := Nat.two_pow_pos h
        omega
      · unfold resD
        rw [if_pos e]
        rfl
  · rw [nil_zI] at e
    have e := of_decide_eq_false e
    refine ⟨none, ?_, rfl⟩
    unfold resD
    rw [if_neg e]
    rfl
  subst μ' hρ
  have pr0 : Pl 0 (resD ns nl free) := by unfold resD; split; exact .int; exact .non
  refine sd_cons (s1_if (td_not (td_val (ed_call (fd_same T 0) ok (ad_cons (ed_prop0 (pd_result T) ok (ed_var 0 rfl ⟨_, _, au.ins, a, dx, h, ns, nl, fl, free, pt, pb, past, rfl, au, G, L, ad_cons (ed_var 4 rfl (ad_nil ⟨_, rfl, pr0, _, rfl, if_f rfl (sd_nil ?_)⟩))⟩)))))))
  refine sd_cons (s1_if (td_not (td_val (ed_call (fd_same T 0) ok (ad_cons (ed_prop0 (pd_deeds T) ok (ed_var 0 rfl ⟨_, _, au.ins, a, dx, h, ns, nl, fl, free, pt, pb, past, rfl, au, G, L, ?_⟩)))))))
  refine ad_cons (ed_add (ed_len T.f_len (ed_ixL (ed_var 2 rfl (ed_int ⟨_, 1, _, gs, rfl, rfl, (zI nl).length, congrArg some (List.length_map ..), ed_len T.f_len (ed_ixL (ed_var 2 rfl (ed_int ⟨_, 2, _, gs, rfl, rfl, (zI fl).length, congrArg some (List.length_map ..), _, _, rfl, rfl, ad_nil ⟨.int past.length, ?_, .int, _, rfl, if_f rfl (sd_nil ?_)⟩⟩)))⟩)))))
  · rw [zI_l, zI_l]
    have : (past.length : Int) = nl.length + fl.length := by rw [hp]; push_cast; rfl
    show [D.int (past.length : Int), D.int _] = _
    rw [this]
  refine sd_one (s1_ret (ed_call (fd_same T 1) ok (ad_cons (ed_call (fd_pair T) ok (ad_cons (ed_prop0 (pd_purse T) ok (ed_var 0 rfl ⟨_, _, au.ins, a, dx, h, ns, nl, fl, free, pt, pb, past, rfl, au, G, L, ad_nil ⟨pt, pb, rfl, ad_cons (ed_var 3 rfl (ad_nil ⟨_, rfl, pl_pr, q⟩))⟩⟩)))))))
def S_told_right (A : Ad) : SpD := fun ds μ Q _ => ∃ (h : Nat) (ns : List Int) (nl fl free : List Nat) (x L m tn : Int) (gL gm : Nat) (ps : Addr) (d1 : D), ds = [scl A h ns, d1, .ptr ps, .int x, .tup [.int gm, .int gL, pr (rt (L - m) (2 ^ free.length : Nat)) (rb (L - m) (2 ^ free.length : Nat))], .int tn] ∧
  Good h ns ∧ Lists h nl fl free ∧ free ≠ [] ∧ (-1000000000 ≤ x ∧ x ≤ 1000000000) ∧ Best h ns x nl fl free L m gL gm ∧ μ ps = some (.lst [lI (zI free), lI (zI nl), lI (zI fl)]) ∧ Q (.bl true) μ
theorem rev_zI (l : List Nat) : ((zI l).map D.int).reverse = (zI l.reverse).map D.int := by unfold zI; rw [List.map_map, List.map_map, List.map_reverse]
theorem fd_told_right (T : Txt P K mg A) : Fd P w K mg base 7 "_law_told_right" (S_told_right A) := T.d_law_told_right.fd (ps := p_law_told_right) bd_law_told_right fun f fd F => fn_d F sc_law_told_right (fun ds μ Q ξ ⟨_, _, _, _, _, _, _, _, _, _, _, _, _, hd, _⟩ => by subst hd; rfl) fun cdv B outer s H E G0 ξ ok ds μ Q
    ⟨h, ns, nl, fl, free, x, Lx, m, tn, gL, gm, ps, d1, hd, G, L, hne, hx, bst, hs, q⟩ => by
  subst hd
  have gs : lstOf μ (.ptr ps) = some [lI (zI free), lI (zI nl), lI (zI fl)] := lstOf_ptr hs
  refine sd_cons (s1_put ok 6 (ed_listM T.f_list (ed_ixL (ed_var 2 rfl (ed_int ⟨_, 1, _, gs, rfl, rfl, _, rfl, fun p1 h1 => ?_⟩)))))
  have ne1 : ps ≠ p1 := fun e => by rw [← e, hs] at h1; cases h1
  have gs1 : ∀ X, lstOf (mset μ p1 X) (.ptr ps) = some [lI (zI free), lI (zI nl), lI (zI fl)] := fun X => lstOf_ptr (by rw [mset_ne ne1]; exact hs)
  refine sd_cons (s1_put ok 7 (ed_listM T.f_list (ed_ixL (ed_var 2 rfl (ed_int ⟨_, 2, _, gs1 _, rfl, rfl, _, rfl, fun p2 h2 => ?_⟩)))))
  have n21 : p2 ≠ p1 := fun z => by rw [z, mset_same] at h2; cases h2
  have h2' : μ p2 = none := by rw [mset_ne n21] at h2; exact h2
  refine sd_join (fun ρ' μ' => ∃ nl' fl' : List Nat, nl'.Perm nl ∧ fl'.Perm fl ∧ ρ' = [some (scl A h ns), some d1, some (.ptr ps), some (.int x), some (.tup [.int gm, .int gL, pr (rt (Lx - m) (2 ^ free.length : Nat)) (rb (Lx - m) (2 ^ free.length : Nat))]), some (.int tn), some (.ptr p1), some (.ptr p2), none, none] ∧
      μ' = mset (mset μ p1 (.lst ((zI nl').map D.int))) p2 (.lst ((zI fl').map D.int))) (s1_if (td_eqI (ed_var 5 rfl (ed_int ⟨_, _, rfl, rfl, if_b (fun e => ?_) fun e => sd_nil ⟨nl, fl, .refl _, .refl _, rfl, rfl⟩⟩)))) fun ρ' μ' ⟨nl', fl', pn, pf, hρ, hμ⟩ => ?_
  · refine sd_cons (s1_expr (ed_reverse (ed_var 6 rfl ⟨p1, _, rfl, by rw [mset_ne (Ne.symm n21)]; exact mset_same, ?_⟩)))
    rw [mset_comm (a := p2) (b := p1) n21, mset_mset, rev_zI]
    refine sd_one (s1_expr (ed_reverse (ed_var 7 rfl ⟨p2, _, rfl, mset_same, ?_⟩)))
    rw [mset_mset, rev_zI]
    exact ⟨nl.reverse, fl.reverse, List.reverse_perm .., List.reverse_perm .., rfl, rfl⟩
  subst hμ hρ
  refine sd_freeze (i := 6) (q := p1) rfl (by rw [mset_ne (Ne.symm n21)]; exact mset_same) ?_
  refine sd_freeze (i := 7) (q := p2) rfl (by rw [mdel_ne n21]; exact mset_same) ?_
  have del : mdel (mdel (mset (mset μ p1 (.lst ((zI nl').map D.int))) p2 (.lst ((zI fl').map D.int))) p1) p2 = μ := by
    rw [mset_comm (a := p1) (b := p2) (Ne.symm n21), mdel_mset (by rw [mset_ne (Ne.symm n21)]; exact h1), mdel_mset h2']
  rw [del]
  refine sd_cons (s1_forR 8 (fun j ρ' μ' => ∃ x8 x9, ρ' = [some (scl A h ns), some d1, some (.ptr ps), some (.int x), some (.tup [.int gm, .int gL, pr (rt (Lx - m) (2 ^ free.length : Nat)) (rb (Lx - m) (2 ^ free.length : Nat))]), some (.int tn), some (lI (zI nl')), some (lI (zI fl')), x8, x9] ∧ μ' = μ) ok T.f_range (ad_cons (ed_int (ad_nil ⟨2, rfl, by omega, by omega, ⟨none, none, rfl, rfl⟩, ?_, ?_⟩))))
  · intro j ρ' μ' hj ⟨x8, x9, hρ, hμ⟩
    subst μ' hρ
    obtain ⟨sd, g, e1, e2, e3, e4⟩ : ∃ (sd : Str) (g : Nat), atI [D.str "near", .str "far"] (j : Int) = some (.str sd) ∧ (sd = "near" ∨ sd = "far") ∧ g = (if sd = "near" then gm else gL) ∧ atI [D.int gm, .int gL, pr (rt (Lx - m) (2 ^ free.length : Nat)) (rb (Lx - m) (2 ^ free.length : Nat))] (j : Int) = some (.int g) := by
      have : j < 2 := by omega
      match j, this with
      | 0, _ => exact ⟨"near", gm, rfl, .inl rfl, by rw [if_pos rfl], rfl⟩
      | 1, _ => exact ⟨"far", gL, rfl, .inr rfl, by rw [if_neg (by decide)], rfl⟩
    refine sd_cons (s1_put ok 9 (ed_call (fd_told_bid T) ok (ad_cons (ed_var 0 rfl (ad_cons (ed_var 6 rfl (ad_cons (ed_tuple T.f_tuple (ed_var 7 rfl ⟨_, rfl, ad_cons (ed_var 3 rfl (ad_cons (ed_ixL (ed_lst (ad_cons (ed_str (ad_cons (ed_str (ad_nil ⟨by simp, ed_var 8 rfl ⟨_, _, _, rfl, rfl, e1, ad_nil ?_⟩⟩)))))))))⟩)))))))))
    refine ⟨h, ns, _, _, nl, fl, nl', fl', free, x, sd, rfl, G, .inr rfl, .inl rfl, L, pn, pf, hx, hne, e2, fun L' m' gL' gm' b' => ?_⟩
    obtain ⟨u1, u2, u3, u4⟩ := bst.uniq b'
    subst u1 u2 u3 u4
    rw [← e3]
    refine sd_cons (s1_if (td_or (td_not (td_val (ed_isiB (n := "tuple") T.f_isinstance T.f_tuple (ed_var 9 rfl ⟨_, true, .flat rfl, rfl, _, rfl, if_f rfl ?_⟩) (by decide +kernel))))))
    refine td_neI (ed_len T.f_len (ed_var 9 rfl ⟨_, rfl, ed_int ⟨_, _, rfl, rfl, if_f rfl (sd_nil ?_)⟩⟩))
    refine sd_one (s1_if (td_not (td_val (ed_call (fd_same T 2) ok (ad_cons (ed_tup (ad_cons (ed_ixT (ed_var 9 rfl (ed_int ⟨_, 0, _, rfl, rfl, rfl, ad_cons (ed_call (fd_pair T) ok (ad_cons (ed_ixT (ed_var 9 rfl (ed_int ⟨_, 1, _, rfl, rfl, rfl, ad_nil ⟨_, _, rfl, ad_nil ⟨by simp, ?_⟩⟩⟩)))))⟩))))))))))
    refine ad_cons (ed_tup (ad_cons (ed_ixT (ed_var 4 rfl (ed_var 8 rfl ⟨_, _, _, rfl, rfl, e4, ad_cons (ed_ixT (ed_var 4 rfl (ed_int ⟨_, 2, _, rfl, rfl, rfl, ad_nil ⟨by simp, ad_nil ⟨_, rfl, ?_, _, rfl, if_f rfl (sd_nil ⟨_, _, rfl, rfl⟩)⟩⟩⟩)))⟩)))))
    exact .tup (fun y hy => by
      simp only [List.mem_cons, List.not_mem_nil, or_false] at hy
      rcases hy with e | e
      · subst e; exact .int
      · subst e; exact pl_pr) (by show (2 : Nat) ≤ 900; omega)
  · intro ρ' μ' ⟨x8, x9, hρ, hμ⟩
    subst μ' hρ
    exact sd_one (s1_ret (ed_bl q))
end
end DD
set_option Elab.async false
set_option linter.all false
set_option maxRecDepth 100000
set_option maxHeartbeats 4000000
/-! E21: the opening. -/
namespace DD
open PySem PySem.Spec PyProof.Rows L2 PM
theorem pl_ref {b : Bool} {xs : List D} (h : ∀ x ∈ xs, Pl 0 x) (hl : xs.length ≤ 900) : Pl 3 (refD b xs) := .tup (fun x hx => by
  simp only [List.mem_cons, List.not_mem_nil, or_false] at hx
  rcases hx with e | e
  · subst e; exact .str
  · subst e
    refine .lst (fun y hy => ?_) (by show (3 : Nat) ≤ 900; omega)
    simp only [List.mem_cons, List.not_mem_nil, or_false] at hy
    rcases hy with e | e | e
    · subst e; exact .bl
    · subst e; exact .bl
    · subst e; exact .tup h hl) (by show (2 : Nat) ≤ 900; omega)
theorem pl_ref1 {b : Bool} {s : Str} : Pl 3 (refD b [.str s]) := pl_ref (fun x hx => by
  simp only [List.mem_cons, List.not_mem_nil, or_false] at hx
  subst hx
  exact .str) (by show (1 : Nat) ≤ 900; omega)
theorem pl_ref2 {b : Bool} {s : Str} {i : Int} : Pl 3 (refD b [.str s, .int i]) := pl_ref (fun x hx => by
  simp only [List.mem_cons, List.not_mem_nil, or_false] at hx
  rcases hx with e | e <;> subst e
  · exact .str
  · exact .int) (by show (2 : Nat) ≤ 900; omega)
theorem pl_told : Pl 2 (.tup [.str "told", .tup []]) := .tup (fun x hx => by
  simp only [List.mem_cons, List.not_mem_nil, or_false] at hx
  rcases hx with e | e <;> subst e
  · exact .str
  · exact .tup (fun _ h => nomatch h) (by show (0 : Nat) ≤ 900; omega)) (by show (2 : Nat) ≤ 900; omega)
section
variable {P : Program} {w : World} {K : PySem.W.Frag} {mg : Str → Option Value} {base : Heap} {A : Ad}
/-- Ratio(a, b), ints -/
theorem ed_ratio {Γ : Ctx} {A : Ad} {j : Nat} {e1 e2 : Expr} {p pos : Pos} {ρ : Rho} {μ : Mu} {Q : D → Mu → Prop} (T : Txt Γ.X.prog Γ.X.K Γ.X.mg A) (ok : Γ.Ok j) (ha : AD Γ [e1, e2] ρ μ fun ds μ1 => ∃ t b : Int, ds = [.int t, .int b] ∧ 0 < b ∧ b ≤ 10 ^ 60 ∧ -(10 ^ 60) ≤ t ∧ t ≤ 10 ^ 60 ∧ Q (rat A (rt t b) (rb t b)) μ1)
    (hk : 2 + 1 ≤ j := by decide) (hg : Gl Γ.X "Ratio" := by rfl) (he : starEach [e1, e2] Γ.X.env = (false, eval e1 Γ.X.env) :: starEach [e2] Γ.X.env := by rfl) (hpl : (backTo pos (starEach [e2] Γ.X.env)).any (·.1) = false := by rfl) : ED Γ (.Call (.Name "Ratio" p) [e1, e2] [] pos) ρ μ Q := by
  refine ed_freezeI (ed_make (nd_ratio (P := Γ.X.prog) (w := Γ.X.w) (base := Γ.X.base) T) ok (dds := [.bl true]) (fun G => ⟨_, _, rfl, rfl, rfl⟩) (fun σ H Qv z k => ha σ H Qv z fun vs ds μ1 H1 ⟨t, b, hd, b0, b1, t1, t2, q⟩ => k vs ds μ1 H1 fun p dx hp => ?_) hk hg (by decide) he hpl)
  subst hd
  have b8 : b.natAbs < 2 ^ 8000 := by
    have e : (10 : Nat) ^ 60 < 2 ^ 8000 := by decide +kernel
    have e2 : ((10 ^ 60 : Nat) : Int) = (10 : Int) ^ 60 := Int.natCast_pow 10 60
    generalize (10 : Int) ^ 60 = z at *
    generalize (10 : Nat) ^ 60 = n at *
    omega
  refine ⟨p, t, b, true, dx, rfl, mset_same, b0, b8, fun _ => ⟨t1, t2, b1⟩, ?_⟩
  rw [mset_mset]
  exact ⟨rfl, p, A.rat, dx, _, _, rfl, mset_same, by rw [mdel_mset hp]; exact q⟩
def S_opening (A : Ad) : SpD := fun ds μ Q _ => ∃ (h : Nat) (ns : List Int), ds = [scl A h ns] ∧ Good h ns ∧ 1 ≤ h ∧ h ≤ 6 ∧ Q (.bl true) μ
theorem fd_opening (T : Txt P K mg A) : Fd P w K mg base 9 "_law_opening_right" (S_opening A) := T.d_law_opening_right.fd (ps := p_law_opening_right) bd_law_opening_right fun f fd F => fn_d F sc_law_opening_right (fun ds μ Q ξ ⟨_, _, hd, _⟩ => by subst hd; rfl) fun cdv B outer s H E G0 ξ ok ds μ Q ⟨h, ns, hd, G, h1, h6, q⟩ => by
  subst hd
  have z6 := e60
  refine sd_cons (s1_put ok 1 (ed_tup (ad_cons (ed_str (ad_cons (ed_lst (ad_cons (ed_bl (ad_cons (ed_bl (ad_cons (ed_tup (ad_cons (ed_str (ad_cons (ed_int (ad_nil ⟨by simp, ad_nil ⟨by simp, ad_nil ⟨by simp, ?_⟩⟩⟩)))))))))))))))))
  refine sd_cons (s1_if (td_not (td_val (ed_call (fd_same T 3) ok (ad_cons (ed_call (fd_opened T) ok (ad_cons (ed_cmeth T.c_scl (cmd_nothing T) ok (ad_cons (ed_int (ad_nil ⟨7, rfl, by omega, by omega, ?_⟩)))))))))))
  refine ad_cons (ed_freezeI (ed_make (nd_ratio T) ok (dds := [.bl true]) (fun G => ⟨_, _, rfl, rfl, rfl⟩) (ad_cons (ed_int (ad_cons (ed_int (ad_nil fun p dx hp => ⟨p, 3, 2, true, dx, rfl, mset_same, by decide, ?_, fun _ => ⟨by decide, by decide, by decide⟩, ?_⟩)))))))
  · exact Nat.lt_of_lt_of_le (show (2 : Int).natAbs < 2 ^ 2 by decide) (Nat.pow_le_pow_right (by omega) (by omega))
  rw [mset_mset]
  refine ⟨rfl, p, A.rat, dx, _, _, rfl, mset_same, ?_⟩
  rw [mdel_mset hp]
  refine ad_nil ⟨7, _, _, 3, 2, rfl, .inr rfl, by omega, by omega, ⟨by unfold Sm; decide, by unfold Sm; decide⟩, by decide, zero_good (by omega) (by omega), _, .inl ⟨by omega, rfl⟩, ?_⟩
  refine ad_cons (ed_var 1 rfl (ad_nil ⟨_, rfl, pl_ref2, _, rfl, if_f rfl (sd_nil ?_)⟩))
  refine sd_cons (s1_put ok 1 (ed_tup (ad_cons (ed_str (ad_cons (ed_lst (ad_cons (ed_bl (ad_cons (ed_bl (ad_cons (ed_tup (ad_cons (ed_str (ad_nil ⟨by simp, ad_nil ⟨by simp, ad_nil ⟨by simp, ?_⟩⟩⟩)))))))))))))))
  refine sd_cons (s1_forL 2 (fun _ ρ' μ' => ∃ x2, ρ' = [some (scl A h ns), some (refD false [.str "BadFraction"]), x2] ∧ μ' = μ) ok ?_)
  refine ed_lst (ad_cons (ed_ratio T ok (ad_cons (ed_add (ed_1e6 (ed_int ⟨_, _, rfl, rfl, ad_cons (ed_1e6 (ad_nil ⟨_, _, rfl, by decide, by decide, by decide, by decide, ?_⟩))⟩))))))
  refine ad_cons (ed_ratio T ok (ad_cons (ed_neg (ed_int ⟨_, rfl, ad_cons (ed_1e6 (ad_nil ⟨_, _, rfl, by decide, by decide, by decide, by decide, ?_⟩))⟩))))
  refine ad_cons (ed_ratio T ok (ad_cons (ed_int (ad_cons (ed_add (ed_1e6 (ed_int ⟨_, _, rfl, rfl, ad_nil ⟨_, _, rfl, by decide, by decide, by decide, by decide, ?_⟩⟩)))))))
  refine ad_cons (ed_int (ad_cons (ed_neg (ed_int ⟨_, rfl, ad_nil ⟨by simp, _, rfl, ⟨none, rfl, rfl⟩, ?_, ?_⟩⟩))))
  · intro j d ρ' μ' hj ⟨x2, hρ, hμ⟩
    subst μ' hρ
    have all : ∀ d ∈ [rat A (rt (1000000 + 1) 1000000) (rb (1000000 + 1) 1000000), rat A (rt (-1) 1000000) (rb (-1) 1000000), rat A (rt 1 (1000000 + 1)) (rb 1 (1000000 + 1)), .int 2, .int (-1)], ∃ st sb : Int, isF A d st sb ∧ (Sm st ∧ Sm sb) ∧ 0 < sb ∧ (st < 0 ∨ sb < st ∨ 1000000 < sb) := fun d hd => by
      simp only [List.mem_cons, List.not_mem_nil, or_false] at hd
      rcases hd with e | e | e | e | e <;> subst e
      · exact ⟨_, _, .inr rfl, ⟨by unfold Sm; decide +kernel, by unfold Sm; decide +kernel⟩, by decide +kernel, by decide +kernel⟩
      · exact ⟨_, _, .inr rfl, ⟨by unfold Sm; decide +kernel, by unfold Sm; decide +kernel⟩, by decide +kernel, by decide +kernel⟩
      · exact ⟨_, _, .inr rfl, ⟨by unfold Sm; decide +kernel, by unfold Sm; decide +kernel⟩, by decide +kernel, by decide +kernel⟩
      · exact ⟨2, 1, .inl ⟨rfl, rfl⟩, ⟨by unfold Sm; decide +kernel, by unfold Sm; decide +kernel⟩, by decide +kernel, by decide +kernel⟩
      · exact ⟨-1, 1, .inl ⟨rfl, rfl⟩, ⟨by unfold Sm; decide +kernel, by unfold Sm; decide +kernel⟩, by decide +kernel, by decide +kernel⟩
    obtain ⟨st, sb, hf, sm, b0, bad⟩ := all d (List.mem_of_getElem? hj)
    refine sd_one (s1_if (td_not (td_val (ed_call (fd_same T 3) ok (ad_cons (ed_call (fd_opened T) ok (ad_cons (ed_var 0 rfl (ad_cons (ed_var 2 rfl (ad_nil ⟨h, ns, d, st, sb, rfl, hf, h1, by omega, sm, b0, G, _, .inr (.inl ⟨h6, bad, rfl⟩), ?_⟩)))))))))))
    exact ad_cons (ed_var 1 rfl (ad_nil ⟨_, rfl, pl_ref1, _, rfl, if_f rfl (sd_nil ⟨_, rfl, rfl⟩)⟩))
  · intro ρ' μ' ⟨x2, hρ, hμ⟩
    subst μ' hρ
    refine sd_one (s1_ret (ed_call (fd_same T 2) ok (ad_cons (ed_call (fd_opened T) ok (ad_cons (ed_cmeth T.c_scl (cmd_nothing T) ok (ad_cons (ed_int (ad_nil ⟨6, rfl, by omega, by omega, ?_⟩))))))))) 
    refine ad_cons (ed_int (ad_nil ⟨6, _, _, 1, 1, rfl, .inl ⟨rfl, rfl⟩, by omega, by omega, ⟨by unfold Sm; decide, by unfold Sm; decide⟩, by decide, zero_good (by omega) (by omega), _, .inr (.inr ⟨by omega, by omega, by omega, by omega, rfl⟩), ?_⟩))
    exact ad_cons (ed_tup (ad_cons (ed_str (ad_cons (ed_tup (ad_nil ⟨by simp, ad_nil ⟨by simp, ad_nil ⟨_, rfl, pl_told, q⟩⟩⟩))))))
end
end DD
set_option Elab.async false
set_option linter.all false
set_option maxRecDepth 100000
set_option maxHeartbeats 4000000
/-! E22: the plain law of a round. -/
namespace DD
open PySem PySem.Spec PyProof.Rows L2 PM
section
variable {h : Nat} {ns : List Int} {x : Int} {nl fl free : List Nat} {pt pb W L m t bb : Int} {g gL gm : Nat}
/-- the bid that is told -/
abbrev bT (free : List Nat) (L m : Int) : Int := rt (L - m) (2 ^ free.length : Nat)
abbrev bB (free : List Nat) (L m : Int) : Int := rb (L - m) (2 ^ free.length : Nat)
theorem pow_pos' {n : Nat} : (0 : Int) < ((2 ^ n : Nat) : Int) := by exact_mod_cast Nat.two_pow_pos n
theorem dvd6 {n : Nat} (h : n ≤ 6) : ((2 ^ n : Nat) : Int) ∣ 1000000 := by
  match n, h with
  | 0, _ => exact ⟨1000000, by decide⟩
  | 1, _ => exact ⟨500000, by decide⟩
  | 2, _ => exact ⟨250000, by decide⟩
  | 3, _ => exact ⟨125000, by decide⟩
  | 4, _ => exact ⟨62500, by decide⟩
  | 5, _ => exact ⟨31250, by decide⟩
  | 6, _ => exact ⟨15625, by decide⟩
theorem free6 (p : Part h nl fl free) (h6 : h ≤ 6) : free.length ≤ 6 := by
  have e := p.perm.length_eq
  rw [List.length_append, List.length_append, List.length_range] at e
  omega
/-- what is told, small and plain -/
structure Told (free : List Nat) (L m : Int) : Prop where
  t0 : 0 ≤ bT free L m
  t1 : bT free L m ≤ 128
  b0 : 0 < bB free L m
  b6 : bB free L m ≤ 1000000
  dv : bB free L m ∣ 1000000
  rd : Rdc (bT free L m) (bB free L m)
  cr : bT free L m * (2 ^ free.length : Nat) = (L - m) * bB free L m
theorem told_of (k : Peak h ns x nl fl free L m) (f6 : free.length ≤ 6) : Told free L m := by
  have p0 := pow_pos' (n := free.length)
  have p6 : ((2 ^ free.length : Nat) : Int) ≤ 64 := by exact_mod_cast (Nat.pow_le_pow_right (n := 2) (by omega) f6)
  have k1 := k.ord
  have k2 := k.top
  have k3 := k.m0
  have h1 := rt_abs (L - m) (2 ^ free.length : Nat)
  have h2 := rt_nonneg (t := L - m) (b := (2 ^ free.length : Nat)) (by omega)
  have d := Int.dvd_trans (rb_dvd_b (L - m) (2 ^ free.length : Nat)) (dvd6 f6)
  have b0 := rb_pos (t := L - m) p0
  exact ⟨h2, by show rt _ _ ≤ _; omega, b0, Int.le_of_dvd (by decide) d, d, rdc_red p0, cross _ _⟩
theorem Told.frac (k : Told free L m) : Frac (bT free L m) (bB free L m) := by
  have := k.t0
  have := k.t1
  have := k.b6
  have := e60
  have e3 : -(10 ^ 60 : Int) ≤ 0 := by decide
  exact ⟨k.b0, by omega, by omega, by omega, k.rd⟩
theorem Bid.frac (c : Coins pt pb W) (k : Bid pt pb W t bb) : Frac t bb := by
  have := k.t0
  have := k.b6
  have := k.b0
  have h1 := k.le
  have := e60
  have e3 : -(10 ^ 60 : Int) ≤ 0 := by decide
  have h2 : t ≤ bb := by
    have h3 : pt * bb ≤ pb * bb := Int.mul_le_mul_of_nonneg_right c.t1 (by omega)
    have h4 : t * pb ≤ bb * pb := by rw [Int.mul_comm bb]; omega
    exact Int.le_of_mul_le_mul_right h4 c.b0
  exact ⟨k.b0, by omega, by omega, by omega, k.rd⟩
theorem near_ok (k : Bid pt pb W t bb) : ¬ BadBid t bb pt pb := fun z => by
  have := k.t0
  have := k.b6
  have := k.le
  rcases z with z | z | z <;> omega
theorem far_okB (s : Stand h ns x nl fl free pt pb) (k : Peak h ns x nl fl free L m) (tk : Told free L m) : ¬ BadBid (bT free L m) (bB free L m) (pb - pt) pb := fun z => by
  have h1 := s.far_ok k
  have h2 : bT free L m * pb ≤ (pb - pt) * bB free L m := le_scale pow_pos' h1
  have := tk.t0
  have := tk.b6
  rcases z with z | z | z <;> omega
theorem near_step (s : Stand h ns x nl fl free pt pb) (k : Peak h ns x nl fl free L m) (tk : Told free L m) (c : Coins pt pb W) (b : Bid pt pb W t bb) (hg : g ∈ free) {nl' : List Nat} (hp : nl'.Perm (nl ++ [g])) (hle : bT free L m * bb ≤ t * bB free L m) :
    Stand h ns x nl' fl (free.filter fun x => x != g) (rt (pt * bb + -1 * t * pb) (pb * bb)) (rb (pt * bb + -1 * t * pb) (pb * bb)) ∧ Coins (rt (pt * bb + -1 * t * pb) (pb * bb)) (rb (pt * bb + -1 * t * pb) (pb * bb)) W := by
  have e1 : pt * bb + -1 * t * pb = pt * bb - t * pb := by
    have : -1 * t * pb = -(t * pb) := by rw [Int.mul_assoc, Int.neg_one_mul]
    omega
  have pp : 0 < pb * bb := Int.mul_pos c.b0 b.b0
  have hD : (L - m) * bb ≤ t * (2 ^ free.length : Nat) := by
    have h1 : (L - m) * bb * bB free L m ≤ t * (2 ^ free.length : Nat) * bB free L m := by
      have h2 : bT free L m * bb * (2 ^ free.length : Nat) ≤ t * bB free L m * (2 ^ free.length : Nat) := Int.mul_le_mul_of_nonneg_right hle (Int.le_of_lt pow_pos')
      have h3 : bT free L m * bb * (2 ^ free.length : Nat) = (L - m) * bb * bB free L m := by rw [Int.mul_right_comm, tk.cr, Int.mul_right_comm]
      have h4 : t * bB free L m * (2 ^ free.length : Nat) = t * (2 ^ free.length : Nat) * bB free L m := Int.mul_right_comm ..
      omega
    exact Int.le_of_mul_le_mul_right h1 tk.b0
  have s1 := ((s.near_wins k hg b.b0 b.t0 b.le hD).congr hp (.refl _)).scale (t := rt (pt * bb + -1 * t * pb) (pb * bb)) (b := rb (pt * bb + -1 * t * pb) (pb * bb)) (rb_pos pp) (by rw [← e1]; exact cross _ _)
  exact ⟨s1, s1.p0, s1.p1, s1.b0, rb_sum c.b0 b.b0 c.dv b.dv, c.w0, c.w1, c.wd, rdc_red pp⟩
theorem far_step (s : Stand h ns x nl fl free pt pb) (k : Peak h ns x nl fl free L m) (tk : Told free L m) (c : Coins pt pb W) (b : Bid pt pb W t bb) (hg : gL ∈ free) (hL : (lost h ns x nl fl gL : Int) = L) {fl' : List Nat} (hp : fl'.Perm (fl ++ [gL])) (hlt : t * bB free L m < bT free L m * bb) :
    Stand h ns x nl fl' (free.filter fun x => x != gL) (rt (pt * bB free L m + 1 * bT free L m * pb) (pb * bB free L m)) (rb (pt * bB free L m + 1 * bT free L m * pb) (pb * bB free L m)) ∧ Coins (rt (pt * bB free L m + 1 * bT free L m * pb) (pb * bB free L m)) (rb (pt * bB free L m + 1 * bT free L m * pb) (pb * bB free L m)) W := by
  have e1 : pt * bB free L m + 1 * bT free L m * pb = pt * bB free L m + bT free L m * pb := by rw [Int.one_mul]
  have pp : 0 < pb * bB free L m := Int.mul_pos c.b0 tk.b0
  have hD : t * (2 ^ free.length : Nat) < (L - m) * bb := by
    have h1 : t * (2 ^ free.length : Nat) * bB free L m < (L - m) * bb * bB free L m := by
      have h2 : t * bB free L m * (2 ^ free.length : Nat) < bT free L m * bb * (2 ^ free.length : Nat) := Int.mul_lt_mul_of_pos_right hlt pow_pos'
      have h3 : bT free L m * bb * (2 ^ free.length : Nat) = (L - m) * bb * bB free L m := by rw [Int.mul_right_comm, tk.cr, Int.mul_right_comm]
      have h4 : t * bB free L m * (2 ^ free.length : Nat) = t * (2 ^ free.length : Nat) * bB free L m := Int.mul_right_comm ..
      omega
    exact Int.lt_of_mul_lt_mul_right h1 (Int.le_of_lt tk.b0)
  have s1 := ((s.far_wins k hg hL b.b0 b.t0 hD tk.b0 tk.t0 tk.cr).congr (.refl _) hp).scale (t := rt (pt * bB free L m + 1 * bT free L m * pb) (pb * bB free L m)) (b := rb (pt * bB free L m + 1 * bT free L m * pb) (pb * bB free L m)) (rb_pos pp) (by rw [← e1]; exact cross _ _)
  exact ⟨s1, s1.p0, s1.p1, s1.b0, rb_sum c.b0 tk.b0 c.dv (Int.dvd_trans tk.dv c.d6), c.w0, c.w1, c.wd, rdc_red pp⟩
theorem sorted_zI {l : List Nat} {ns' : List Int} (hp : ns'.Perm (zI l)) (hs : ns'.Pairwise (· ≤ ·)) (nd : l.Nodup) : ∃ l' : List Nat, ns' = zI l' ∧ l'.Perm l ∧ l'.Pairwise (· < ·) := by
  have e : ns' = zI (ns'.map Int.toNat) := by
    unfold zI
    rw [List.map_map]
    symm
    have : ∀ y ∈ ns', ((fun i : Nat => (i : Int)) ∘ Int.toNat) y = y := fun y hy => by
      obtain ⟨i, _, e⟩ := List.mem_map.mp (hp.mem_iff.mp hy)
      subst e
      rfl
    calc ns'.map ((fun i : Nat => (i : Int)) ∘ Int.toNat) = ns'.map id := List.map_congr_left this
      _ = ns' := List.map_id _
  have pp : (ns'.map Int.toNat).Perm l := by
    have := hp.map Int.toNat
    have e2 : (zI l).map Int.toNat = l := by
      unfold zI
      rw [List.map_map]
      calc l.map (Int.toNat ∘ fun i : Nat => (i : Int)) = l.map id := List.map_congr_left fun _ _ => rfl
        _ = l := List.map_id _
    rwa [e2] at this
  refine ⟨_, e, pp, ?_⟩
  have nd' : (ns'.map Int.toNat).Nodup := pp.nodup_iff.mpr nd
  generalize ns'.map Int.toNat = l' at *
  subst e
  have h1 : l'.Pairwise (· ≤ ·) := by
    have := List.pairwise_map.mp hs
    exact this.imp fun z => by omega
  exact (h1.and nd').imp fun {a b} z => by omega
theorem lists_step {h : Nat} {nl fl free nl' fl' : List Nat} {g : Nat} (L : Lists h nl fl free) (p : Part h nl' fl' (free.filter fun x => x != g)) (s1 : nl'.Pairwise (· < ·)) (s2 : fl'.Pairwise (· < ·)) : Lists h nl' fl' (free.filter fun x => x != g) :=
  ⟨p, L.h1, L.h6, s1, s2, L.sr.filter _⟩
/-- what due2 gives is a refusal -/
theorem due_form {h : Nat} {free : List Nat} {pt pb g1 t1 b1 g2 t2 b2 : Int} {r : D} (e : due2 h free pt pb g1 t1 b1 g2 t2 b2 = some r) : Pl 3 r ∧ nonD r = false := by
  have f1 : ∀ {ct cb g t b : Int} {r : D}, due1 h free ct cb g t b = some r → Pl 3 r ∧ nonD r = false := fun {ct cb g t b r} e => by
    unfold due1 at e
    split at e
    · cases e; exact ⟨pl_ref2, rfl⟩
    · split at e
      · cases e; exact ⟨pl_ref2, rfl⟩
      · split at e
        · cases e; exact ⟨pl_ref1, rfl⟩
        · cases e
  unfold due2 at e
  split at e
  · rename_i e2
    cases e
    exact f1 e2
  · exact f1 e
end
end DD
set_option Elab.async false
set_option linter.all false
set_option maxRecDepth 100000
set_option maxHeartbeats 4000000
/-! E23: a round. -/
namespace DD
open PySem PySem.Spec PyProof.Rows L2 PM
theorem sd_n25 {Γ : Ctx} {sts : List Stmt} {ρ : Rho} {μ : Mu} {E : DE} {a0 a1 a2 a3 a4 a5 a6 a7 a8 a9 a10 a11 a12 a13 a14 a15 a16 a17 a18 a19 a20 a21 a22 a23 a24 : Option D} (h : ρ = [a0, a1, a2, a3, a4, a5, a6, a7, a8, a9, a10, a11, a12, a13, a14, a15, a16, a17, a18, a19, a20, a21, a22, a23, a24]) (H : SD Γ sts [a0, a1, a2, a3, a4, a5, a6, a7, a8, a9, a10, a11, a12, a13, a14, a15, a16, a17, a18, a19, a20, a21, a22, a23, a24] μ E) : SD Γ sts ρ μ E := h ▸ H
theorem sd_n20 {Γ : Ctx} {sts : List Stmt} {ρ : Rho} {μ : Mu} {E : DE} {a0 a1 a2 a3 a4 a5 a6 a7 a8 a9 a10 a11 a12 a13 a14 a15 a16 a17 a18 a19 : Option D} (h : ρ = [a0, a1, a2, a3, a4, a5, a6, a7, a8, a9, a10, a11, a12, a13, a14, a15, a16, a17, a18, a19]) (H : SD Γ sts [a0, a1, a2, a3, a4, a5, a6, a7, a8, a9, a10, a11, a12, a13, a14, a15, a16, a17, a18, a19] μ E) : SD Γ sts ρ μ E := h ▸ H
theorem mset_self {μ : Mu} {a : Addr} {m : MO} (h : μ a = some m) : mset μ a m = μ := by
  funext b
  unfold mset
  by_cases e : b = a
  · rw [if_pos e, e, h]
  · rw [if_neg e]
/-- the objects of a round: the box, the auction, the book with its sides -/
structure RSt (A : Ad) (μ : Mu) (b a p ps dx : Addr) (h : Nat) (ns : List Int) (nl fl free : List Nat) (pt pb : Int) (past : List D) : Prop where
  bx : Bx μ b μ
  au : AucAt A μ a dx h ns nl fl pt pb past
  bk : Book μ p ps ns nl fl free pt pb
section
variable {A : Ad} {μ μ' : Mu} {b a p ps dx : Addr} {h : Nat} {ns : List Int} {nl fl free : List Nat} {pt pb : Int} {past : List D}
theorem RSt.dist (r : RSt A μ b a p ps dx h ns nl fl free pt pb past) : (a ≠ b ∧ p ≠ b ∧ ps ≠ b) ∧ p ≠ a ∧ ps ≠ a ∧ ps ≠ p := by
  obtain ⟨k, v, _, hb⟩ := r.bx.at
  have ha : μ a = some (aucM A dx h ns (bs nl) (bs fl) pt pb past) := r.au
  have h1 := r.bk.b
  have h2 := r.bk.s
  refine ⟨⟨fun e => ?_, fun e => ?_, fun e => ?_⟩, fun e => ?_, fun e => ?_, fun e => ?_⟩
  · rw [e, hb] at ha; cases ha
  · rw [e, hb] at h1; simp at h1
  · rw [e, hb] at h2; simp at h2
  · rw [e, ha] at h1; cases h1
  · rw [e, ha] at h2; cases h2
  · rw [e, h1] at h2; simp at h2
theorem RSt.go (r : RSt A μ b a p ps dx h ns nl fl free pt pb past) (hB : Bx μ b μ') : RSt A μ' b a p ps dx h ns nl fl free pt pb past := by
  obtain ⟨k, v, k0, e⟩ := hB
  subst e
  obtain ⟨⟨d1, d2, d3⟩, _⟩ := r.dist
  exact ⟨⟨k, v, k0, (mset_self mset_same).symm⟩, (mset_ne d1).trans r.au, (mset_ne d2).trans r.bk.b, (mset_ne d3).trans r.bk.s⟩
theorem RSt.next (r : RSt A μ b a p ps dx h ns nl fl free pt pb past) {nl' fl' free' : List Nat} {pt' pb' : Int} {past' : List D} :
    RSt A (mset (mset (mset μ a (aucM A dx h ns (bs nl') (bs fl') pt' pb' past')) p (.lst [lI ns, .ptr ps, pr pt' pb'])) ps (.lst [lI (zI free'), lI (zI nl'), lI (zI fl')])) b a p ps dx h ns nl' fl' free' pt' pb' past' := by
  obtain ⟨⟨d1, d2, d3⟩, d4, d5, d6⟩ := r.dist
  obtain ⟨k, v, k0, hb⟩ := r.bx.at
  refine ⟨⟨k, v, k0, (mset_self ?_).symm⟩, ?_, ?_, mset_same⟩
  · rw [mset_ne (Ne.symm d3), mset_ne (Ne.symm d2), mset_ne (Ne.symm d1)]; exact hb
  · show mset _ _ _ a = _
    rw [mset_ne (Ne.symm d5), mset_ne (Ne.symm d4)]; exact mset_same
  · rw [mset_ne (Ne.symm d6)]; exact mset_same
theorem free_at {free : List Nat} {d : Int} (h0 : 0 ≤ d) (h : d < free.length) : ∃ g ∈ free, atI ((zI free).map D.int) d = some (.int ((g : Nat) : Int)) := by
  obtain ⟨j, e⟩ := Int.eq_ofNat_of_zero_le h0
  subst e
  have hj : j < free.length := by omega
  refine ⟨free[j], List.getElem_mem hj, ?_⟩
  rw [atI_nat (by rw [zI_len]; exact hj), zzI, List.getElem?_map, List.getElem?_eq_getElem hj]
  rfl
theorem sm6 {x : Int} (h0 : 0 ≤ x) (h : x ≤ 1000000) : Sm x := by
  have e1 : (1000000 : Int) ≤ 10 ^ 200 := by decide
  have e2 : -(10 ^ 200 : Int) ≤ 0 := by decide
  exact sm_of ⟨by omega, by omega⟩
theorem zI_snoc (l : List Nat) (g : Nat) : (zI l).map D.int ++ [.int (g : Int)] = (zI (l ++ [g])).map D.int := by unfold zI; simp
theorem filt_zI (free : List Nat) (g : Nat) : ((free.filter fun m : Nat => !decide ((m : Int) = (g : Int))).map fun m : Nat => D.int (m : Int)) = (zI (free.filter fun x => x != g)).map D.int := by rw [filt_ne, ← zzI]
end
section
variable {P : Program} {w : World} {K : PySem.W.Frag} {mg : Str → Option Value} {base : Heap} {A : Ad}
/-- the names of a round -/
abbrev rndR (A : Ad) (cs : List Int) (b a p ps : Addr) (h : Nat) (ns : List Int) (nl fl free : List Nat) (x tn pt pb : Int) (mn : Nat) (due : D) (o : Int) (bd : D) (g : Nat) (told call : D) (x20 x21 x22 x23 : Option D) : Rho :=
  [some (lI cs), some (.ptr b), some (.ptr a), some (scl A h ns), some (.ptr p), some (.int x), some (.int tn), some (lI ns), some (.ptr ps), some (pr pt pb), some (.int h), some (.int (bs nl)), some (.int mn), some (.int (2 ^ free.length : Nat)), some due, some (.int o), some bd, some (.int (g : Nat)), some told, some call, x20, x21, x22, x23, none]
def S_round (A : Ad) : SpD := fun ds μ Q _ => ∃ (cs : List Int) (b a p ps dx : Addr) (h : Nat) (ns : List Int) (nl fl free : List Nat) (x tn pt pb W : Int) (past : List D), ds = [lI cs, .ptr b, .ptr a, scl A h ns, .ptr p, .int x, .int tn] ∧
  RSt A μ b a p ps dx h ns nl fl free pt pb past ∧ Stand h ns x nl fl free pt pb ∧ Coins pt pb W ∧ Lists h nl fl free ∧ free ≠ [] ∧ past.length = nl.length + fl.length ∧ (-1000000000 ≤ x ∧ x ≤ 1000000000) ∧
  ∀ nl' fl' free' pt' pb' past' μ', RSt A μ' b a p ps dx h ns nl' fl' free' pt' pb' past' → Stand h ns x nl' fl' free' pt' pb' → Coins pt' pb' W → Lists h nl' fl' free' → past'.length = nl'.length + fl'.length → free'.length + 1 = free.length → Q (.bl true) μ'
theorem fd_round (T : Txt P K mg A) : Fd P w K mg base 10 "_law_round_right" (S_round A) := T.d_law_round_right.fd (ps := p_law_round_right) bd_law_round_right fun f fd F => fn_d F sc_law_round_right (fun ds μ Q ξ ⟨_, _, _, _, _, _, _, _, _, _, _, _, _, _, _, _, _, hd, _⟩ => by subst hd; rfl) fun cdv B outer s H E G0 ξ ok ds μ Q
    ⟨cs, b, a, p, ps, dx, h, ns, nl, fl, free, x, tn, pt, pb, W, past, hd, r, st, c, L, hne, hp, hx, q⟩ => by
  subst hd
  have p7 := L.part
  have G := st.good
  have ll := len_le L.part
  have f6 := free6 L.part L.h6
  have fl0 : 0 < free.length := List.length_pos_iff.mpr hne
  have b100 : pb ≤ 10 ^ 100 := Int.le_trans c.b1 (by decide)
  have p64 : 2 ^ free.length ≤ 64 := pw_lt f6
  have gb : lstOf μ (.ptr p) = some [lI ns, .ptr ps, pr pt pb] := lstOf_ptr r.bk.b
  have gs : lstOf μ (.ptr ps) = some [lI (zI free), lI (zI nl), lI (zI fl)] := lstOf_ptr r.bk.s
  refine sd_n25 rfl ?_
  refine sd_cons (s1_put ok 7 (ed_ixL (ed_var 4 rfl (ed_int ⟨_, 0, _, gb, rfl, rfl, ?_⟩))))
  refine sd_n25 rfl ?_
  refine sd_cons (s1_put ok 8 (ed_ixL (ed_var 4 rfl (ed_int ⟨_, 1, _, gb, rfl, rfl, ?_⟩))))
  refine sd_n25 rfl ?_
  refine sd_cons (s1_put ok 9 (ed_ixL (ed_var 4 rfl (ed_int ⟨_, 2, _, gb, rfl, rfl, ?_⟩))))
  refine sd_n25 rfl ?_
  refine sd_cons (s1_put ok 10 (ed_fld (ed_var 3 rfl ⟨A.scl, _, _, _, rfl, T.i_scl, T.n_scl_hands, by rfl, ?_⟩)))
  have zz : (zI nl).map D.int = nl.map fun i : Nat => D.int (i : Int) := zzI nl
  refine sd_n25 rfl ?_
  refine sd_cons (s1_put ok 11 (ed_sum ok.calm T.f_sum (ed_lc 24 (fun i : Nat => .int i) (fun _ => true) (fun i : Nat => .int ((2 ^ i : Nat) : Int)) ok (ed_ixL (ed_var 8 rfl (ed_int ⟨_, 1, _, gs, rfl, rfl, nl, congrArg some zz, by omega, fun i hi s H C cl fp μ' hu => ⟨rfl, fun _ => ?_⟩, (fun _ h => nomatch h), nl.map (fun i : Nat => ((2 ^ i : Nat) : Int)), ?_, ?_⟩))) rfl fun _ _ _ _ _ => pg_name (i := 24) ok.nd rfl (Or.inl rfl))))
  · have i7 := p7.sub.1 i hi
    refine ed_shl (ed_int (ed_var 24 rfl ⟨_, _, rfl, rfl, ⟨by omega, by omega, by decide⟩, rfl, ?_⟩))
    rw [shl1]
  · rw [List.filter_eq_self.mpr (fun _ _ => rfl), List.map_map]; rfl
  rw [bs_sum]
  refine sd_n25 rfl ?_
  refine sd_cons (s1_put ok 12 (ed_call (fd_below T) ok (ad_cons (ed_var 7 rfl (ad_cons (ed_var 11 rfl (ad_cons (ed_ixL (ed_var 8 rfl (ed_int ⟨_, 0, _, gs, rfl, rfl, ad_cons (ed_var 5 rfl (ad_nil ⟨h, ns, nl, fl, free, x, rfl, G, p7, ?_⟩))⟩))))))))))
  refine sd_n25 rfl ?_
  refine sd_cons (s1_put ok 13 (ed_shl (ed_int (ed_len T.f_len (ed_ixL (ed_var 8 rfl (ed_int ⟨_, 0, _, gs, rfl, rfl, free.length, congrArg some zI_len, _, _, rfl, rfl, ⟨by omega, by omega, by decide⟩, ?_⟩)))))))
  rw [shl1]
  refine sd_n25 rfl ?_
  refine sd_stay (s1_if (td_and (td_lt (ed_var 12 rfl (ed_var 13 rfl ⟨_, _, rfl, rfl, if_b (fun e => ?_) fun e => if_f rfl (sd_nil ⟨rfl, rfl⟩)⟩))))) ?_
  · have e := of_decide_eq_true e
    refine td_val (ed_call (fd_no_more T) ok (ad_cons (ed_tup (ad_cons (ed_var 12 rfl (ad_cons (ed_var 13 rfl (ad_nil ⟨by simp, ad_cons (ed_var 9 rfl (ad_nil ⟨_, _, _, _, rfl, ⟨sm6 (by omega) (by omega), sm6 (by omega) (by omega), c.sm.1, c.sm.2⟩, _, rfl, if_f ?_ (sd_nil ⟨rfl, rfl⟩)⟩))⟩))))))))
    rcases st.inv with z | z
    · have z' : many h ns x nl fl = 2 ^ free.length := z
      rw [z'] at e
      omega
    · exact decide_eq_false (by
        have z' : pt * (2 ^ free.length : Nat) < (many h ns x nl fl : Int) * pb := z
        omega)
  refine sd_n25 rfl ?_
  refine sd_cons (s1_put ok 14 (ed_call (fd_bid_due T) ok (ad_cons (ed_var 7 rfl (ad_cons (ed_var 11 rfl (ad_cons (ed_ixL (ed_var 8 rfl (ed_int ⟨_, 0, _, gs, rfl, rfl, ad_cons (ed_var 5 rfl (ad_nil ⟨h, ns, nl, fl, free, x, rfl, G, p7, hne, fun Lx m gL gm best => ?_⟩))⟩))))))))))
  have pk := best.peak G p7
  have tk := told_of pk f6
  have f2 := tk.frac
  refine sd_n25 rfl ?_
  refine sd_stay (s1_if (td_not (td_val (ed_call (fd_told_right T) ok (ad_cons (ed_var 3 rfl (ad_cons (ed_var 7 rfl (ad_cons (ed_var 8 rfl (ad_cons (ed_var 5 rfl (ad_cons (ed_var 14 rfl (ad_cons (ed_var 6 rfl (ad_nil ⟨h, ns, nl, fl, free, x, Lx, m, tn, gL, gm, ps, _, rfl, G, L, hne, hx, best, r.bk.s, _, rfl, if_f rfl (sd_nil ⟨rfl, rfl⟩)⟩))))))))))))))))) ?_
  refine sd_n25 rfl ?_
  refine sd_cons (s1_put ok 15 (ed_mod (ed_int1 T.f_int (ed_add (ed_add (ed_call (fd_digit T) ok (ad_cons (ed_var 0 rfl (ad_cons (ed_var 1 rfl (ad_cons (ed_int (ad_nil ⟨cs, b, 5, _, rfl, r.bx, by omega, by omega, fun d μ1 d0 d5 hB => ?_⟩)))))))))))))
  have r1 := r.go hB
  refine ed_int ⟨_, _, rfl, rfl, ed_var 6 rfl ⟨_, _, rfl, rfl, .inl ⟨_, rfl, ed_int ⟨_, _, rfl, rfl, by omega, ?_⟩⟩⟩⟩
  generalize (d + 1 + tn) % 5 = o
  refine sd_n25 rfl ?_
  refine sd_cons (s1_put ok 16 (ed_call (fd_any_bid T) ok (ad_cons (ed_var 0 rfl (ad_cons (ed_var 1 rfl (ad_cons (ed_var 9 rfl (ad_cons (ed_ixT (ed_var 14 rfl (ed_int ⟨_, 2, _, rfl, rfl, rfl, ad_cons (ed_var 15 rfl (ad_nil ⟨cs, b, _, pt, pb, W, _, _, o, rfl, r1.bx, c, ⟨tk.t0, tk.t1, tk.b0, tk.b6, tk.dv, tk.rd⟩, fun t bb μ2 bd hB2 => ?_⟩))⟩))))))))))))
  have r2 := r1.go hB2
  have f1 := Bid.frac c bd
  have gs2 : lstOf μ2 (.ptr ps) = some [lI (zI free), lI (zI nl), lI (zI fl)] := lstOf_ptr r2.bk.s
  refine sd_n25 rfl ?_
  refine sd_cons (s1_put ok 17 (ed_ixL (ed_ixL (ed_var 8 rfl (ed_int ⟨_, 0, _, gs2, rfl, rfl, ed_call (fd_digit T) ok (ad_cons (ed_var 0 rfl (ad_cons (ed_var 1 rfl (ad_cons (ed_len T.f_len (ed_ixL (ed_var 8 rfl (ed_int ⟨_, 0, _, gs2, rfl, rfl, free.length, congrArg some zI_len, ad_nil ⟨cs, b, _, _, rfl, r2.bx, by omega, by omega, fun d3 μ3 d30 d31 hB3 => ?_⟩⟩)))))))))⟩)))))
  obtain ⟨g, hg, hat⟩ := free_at d30 d31
  refine ⟨_, _, _, rfl, rfl, hat, ?_⟩
  have r3 := r2.go hB3
  have gs3 : lstOf μ3 (.ptr ps) = some [lI (zI free), lI (zI nl), lI (zI fl)] := lstOf_ptr r3.bk.s
  refine sd_n25 rfl ?_
  refine sd_cons (s1_put ok 18 (ed_call (fd_told_bid T) ok (ad_cons (ed_var 3 rfl (ad_cons (ed_list T.f_list (ed_ixL (ed_var 8 rfl (ed_int ⟨_, 1, _, gs3, rfl, rfl, _, rfl, ad_cons (ed_list T.f_list (ed_ixL (ed_var 8 rfl (ed_int ⟨_, 2, _, gs3, rfl, rfl, _, rfl, ad_cons (ed_var 5 rfl (ad_cons (ed_str (ad_nil ⟨h, ns, _, _, nl, fl, nl, fl, free, x, "far", rfl, G, .inr rfl, .inr rfl, L, .refl _, .refl _, hx, hne, .inr rfl, fun L' m' gL' gm' b' => ?_⟩))))⟩))))⟩))))))))) 
  obtain ⟨u1, u2, u3, u4⟩ := best.uniq b'
  subst u1 u2 u3 u4
  rw [if_neg (by decide)]
  refine sd_n25 rfl ?_
  refine sd_cons (s1_put ok 19 (ed_lst (ad_cons (ed_var 17 rfl (ad_cons (ed_var 16 rfl (ad_cons (ed_ixT (ed_var 18 rfl (ed_int ⟨_, 0, _, rfl, rfl, rfl, ad_cons (ed_ixT (ed_var 14 rfl (ed_int ⟨_, 2, _, rfl, rfl, rfl, ad_nil ⟨by simp, ?_⟩⟩)))⟩))))))))))
  clear hB hB2 hB3 r r1 r2 hat gs gs2 gs3 gb
  generalize hmn : many h ns x nl fl = mn
  refine sd_n25 rfl ?_
  refine sd_cons (s1_forR 20 (fun _ ρ' μ' => ∃ x20 x21 x22, ρ' = rndR A cs b a p ps h ns nl fl free x tn pt pb mn (.tup [.int gm, .int gL, pr (bT free Lx m) (bB free Lx m)]) o (pr t bb) g (.tup [.int gL, rat A (bT free Lx m) (bB free Lx m)]) (callD g t bb gL (bT free Lx m) (bB free Lx m)) x20 x21 x22 none ∧
      RSt A μ' b a p ps dx h ns nl fl free pt pb past) ok T.f_range (ad_cons (ed_int (ad_nil ⟨2, rfl, by omega, by omega, ⟨none, none, none, rfl, r3⟩, ?_, ?_⟩))))
  · intro j ρ' μ' hj ⟨x20, x21, x22, hρ, r⟩
    subst hρ
    refine sd_n25 rfl ?_
    refine sd_cons (s1_put ok 21 (ed_call (fd_bad_call T) ok (ad_cons (ed_var 0 rfl (ad_cons (ed_var 1 rfl (ad_cons (ed_var 10 rfl (ad_cons (ed_var 4 rfl (ad_cons (ed_var 19 rfl (ad_cons (ed_add (ed_var 6 rfl (ed_var 20 rfl ⟨_, _, rfl, rfl, ad_nil ⟨cs, b, _, p, ps, h, ns, nl, fl, free, pt, pb, W, g, t, bb, gL, _, _, _, rfl, r.bx, r.bk, c, f1, f2, by omega, fun g1 t1 b1 g2 t2 b2 μ4 f1' f2' hB4 => ?_⟩⟩))))))))))))))))
    have r4 := r.go hB4
    refine sd_n25 rfl ?_
    refine sd_cons (s1_put ok 22 (ed_call (fd_call_due T) ok (ad_cons (ed_var 10 rfl (ad_cons (ed_var 4 rfl (ad_cons (ed_var 21 rfl (ad_nil ⟨p, ps, h, ns, nl, fl, free, pt, pb, W, g1, t1, b1, g2, t2, b2, rfl, r4.bk, c, f1', f2', ?_⟩)))))))))
    refine sd_n25 rfl ?_
    refine sd_one (s1_if (td_and (td_notN (ed_var 22 rfl (if_b (fun e => ?_) fun e => if_f rfl (sd_nil ⟨_, _, _, rfl, r4⟩))))))
    cases hdue : due2 h free pt pb g1 t1 b1 g2 t2 b2 with
    | none => rw [hdue] at e; cases e
    | some rr =>
      obtain ⟨pl, nn⟩ := due_form hdue
      refine td_not (td_val (ed_call (fd_same T 3) ok (ad_cons (ed_call (fd_called T) ok (ad_cons (ed_var 2 rfl (ad_cons (ed_var 21 rfl (ad_nil ⟨a, dx, h, ns, nl, fl, free, pt, pb, past, g1, t1, b1, g2, t2, b2, rr, rfl, r4.au, by omega, L, f1', f2', ⟨c.t0, c.t1, c.b0, b100⟩, .inr ⟨hne, hdue⟩, ?_⟩)))))))))
      exact ad_cons (ed_var 22 rfl (ad_nil ⟨rr, rfl, pl, _, rfl, if_f rfl (sd_nil ⟨_, _, _, rfl, r4⟩)⟩))
  · intro ρ' μv ⟨x20, x21, x22, hρ, r⟩
    subst hρ
    refine sd_n25 rfl ?_
    refine sd_stay (s1_if (td_not (td_val (ed_call (fd_state T) ok (ad_cons (ed_var 2 rfl (ad_cons (ed_var 7 rfl (ad_cons (ed_var 8 rfl (ad_cons (ed_var 9 rfl (ad_nil ⟨a, dx, h, ns, nl, fl, free, pt, pb, past, ps, rfl, r.au, G, L, r.bk.s, hp, _, rfl, if_f rfl (sd_nil ⟨rfl, rfl⟩)⟩))))))))))))) ?_
    have hgL : gL ∈ free := best.memL.1
    have hgh : g < h := p7.mem.mp (.inl hg)
    have hgLh : gL < h := p7.mem.mp (.inl hgL)
    generalize hdu : D.tup [.int gm, .int gL, pr (bT free Lx m) (bB free Lx m)] = du
    generalize callD g t bb gL (bT free Lx m) (bB free Lx m) = ca
    refine sd_n25 rfl ?_
    refine sd_join (fun ρ' μ' => ∃ (wd : Str) (nl' fl' : List Nat) (pt' pb' : Int), ρ' = rndR A cs b a p ps h ns nl fl free x tn pt pb mn du o (pr t bb) g (.tup [.int gL, rat A (bT free Lx m) (bB free Lx m)]) ca x20 x21 x22 (some (.str wd)) ∧
      μ' = mset μv a (aucM A dx h ns (bs nl') (bs fl') pt' pb' (past ++ [stD A (bs nl) (bs fl) pt pb])) ∧
      ((wd = "far" ∧ t * bB free Lx m < bT free Lx m * bb ∧ nl' = nl ∧ fl' = fl ++ [gL] ∧ pt' = rt (pt * bB free Lx m + 1 * bT free Lx m * pb) (pb * bB free Lx m) ∧ pb' = rb (pt * bB free Lx m + 1 * bT free Lx m * pb) (pb * bB free Lx m)) ∨
       (wd = "near" ∧ bT free Lx m * bb ≤ t * bB free Lx m ∧ nl' = nl ++ [g] ∧ fl' = fl ∧ pt' = rt (pt * bb + -1 * t * pb) (pb * bb) ∧ pb' = rb (pt * bb + -1 * t * pb) (pb * bb))))
      (s1_put ok 23 (ed_meth (md_bidding T) ok (ed_var 2 rfl ⟨_, _, r.au.ins, by decide +kernel, ad_cons (ed_var 17 rfl (ad_cons (ed_call (fd_value T) ok (ad_cons (ed_var 16 rfl (ad_cons (ed_bl (ad_nil ⟨t, bb, false, rfl, f1.b0, ⟨f1.t1, f1.t2, f1.b1⟩, f1.rd, fun d1 _ i1 => ad_cons (ed_ixT (ed_var 18 rfl (ed_int ⟨_, 0, _, rfl, rfl, rfl, ad_cons (ed_ixT (ed_var 18 rfl (ed_int ⟨_, 1, _, rfl, rfl, rfl, ad_nil ?_⟩)))⟩)))⟩))))))))⟩))) fun ρ' μ' ⟨wd, nl', fl', pt', pb', hρ, hμ, hw⟩ => ?_
    · have o1 := or_bs p7 hg
      have o2 := or_bs p7 hgL
      refine ⟨a, dx, h, ns, nl, fl, free, pt, pb, past, g, gL, d1, _, t, bb, bT free Lx m, bB free Lx m, rfl, r.au, by omega, L, ⟨i1, f1.sm.1, f1.sm.2, f1.b0⟩, ⟨.inr rfl, f2.sm.1, f2.sm.2, f2.b0⟩, ⟨c.t0, c.t1, c.b0, b100⟩, fun z => absurd z hne, fun _ z => absurd (by omega) z, fun _ i hi _ hif => ?_, fun i hi hif => ⟨fun z => absurd z (near_ok bd), fun _ => ⟨fun z => absurd (by omega) z, fun j hj _ hjf => ?_, fun j hj hjf => ⟨fun z => absurd z (far_okB st pk tk), fun _ => ⟨fun hlt => ?_, fun hle => ?_⟩⟩⟩⟩⟩
      · have e : i = g := by omega
        subst e
        exact absurd hg hif
      · have e : j = gL := by omega
        subst e
        exact absurd hgL hjf
      · have e : j = gL := by omega
        subst e
        refine ⟨"far", nl, _, _, _, rfl, ?_, .inl ⟨rfl, hlt, rfl, rfl, rfl, rfl⟩⟩
        rw [tk.rd.rt, tk.rd.rb, o2.2, Int.one_mul]
      · have e : i = g := by omega
        subst e
        refine ⟨"near", _, fl, _, _, rfl, ?_, .inr ⟨rfl, by omega, rfl, rfl, rfl, rfl⟩⟩
        have e1 : pt * bb + -1 * t * pb = pt * bb - t * pb := by
          have : -1 * t * pb = -(t * pb) := by rw [Int.mul_assoc, Int.neg_one_mul]
          omega
        rw [bd.rd.rt, bd.rd.rb, o1.1, e1]
    subst hρ hμ
    obtain ⟨⟨d1, d2, d3⟩, d4, d5, d6⟩ := r.dist
    subst hdu
    generalize hpast : past ++ [stD A (bs nl) (bs fl) pt pb] = past'
    have lpast : past'.length = past.length + 1 := by rw [← hpast, List.length_append]; rfl
    have hps : mset μv a (aucM A dx h ns (bs nl') (bs fl') pt' pb' past') ps = some (.lst [lI (zI free), lI (zI nl), lI (zI fl)]) := (mset_ne d5).trans r.bk.s
    have hpp : mset μv a (aucM A dx h ns (bs nl') (bs fl') pt' pb' past') p = some (.lst [lI ns, .ptr ps, pr pt pb]) := (mset_ne d4).trans r.bk.b
    have fitc : pt.natAbs ≤ 3000000000000000 ∧ pb.natAbs ≤ 3000000000000000 := by
      have := c.b1
      have := c.t0
      have := c.t1
      have := c.b0
      omega
    refine sd_n25 rfl ?_
    refine sd_join (fun ρ' μ' => ∃ (wd : Str) (nl' fl' : List Nat) (pt' pb' : Int) (gh : Nat), gh ∈ free ∧ ρ' = rndR A cs b a p ps h ns nl fl free x tn pt pb mn (.str wd) o (pr t bb) gh (.tup [.int gL, rat A (bT free Lx m) (bB free Lx m)]) ca x20 x21 x22 (some (.str wd)) ∧
      μ' = mset (mset (mset μv a (aucM A dx h ns (bs nl') (bs fl') pt' pb' past')) p (.lst [lI ns, .ptr ps, pr pt' pb'])) ps (.lst [lI (zI free), lI (zI nl'), lI (zI fl')]) ∧ nl'.length + fl'.length = nl.length + fl.length + 1 ∧
      Stand h ns x nl' fl' (free.filter fun x => x != gh) pt' pb' ∧ Coins pt' pb' W ∧ Lists h nl' fl' (free.filter fun x => x != gh))
      (s1_if (td_val (ed_call (fd_no_more T) ok (ad_cons (ed_ixT (ed_var 14 rfl (ed_int ⟨_, 2, _, rfl, rfl, rfl, ad_cons (ed_var 16 rfl (ad_nil ⟨_, _, t, bb, rfl, ⟨f2.sm.1, f2.sm.2, f1.sm.1, f1.sm.2⟩, _, rfl, if_b (fun e => ?_) fun e => ?_⟩))⟩)))))))
      fun ρ' μ' ⟨wd, nl', fl', pt', pb', gh, hgh, hρ, hμ, hll, st', c', L'⟩ => ?_
    · have e := of_decide_eq_true e
      rcases hw with ⟨_, z, _⟩ | ⟨w1, w2, w3, w4, w5, w6⟩
      · omega
      subst w1
      refine sd_n25 rfl ?_
      refine sd_cons (s1_sub (ed_call (fd_sum T) ok (ad_cons (ed_var 9 rfl (ad_cons (ed_var 16 rfl (ad_cons (ed_neg (ed_int ⟨_, rfl, ad_nil ⟨pt, pb, t, bb, -1, 3000000000000000, 1000000, rfl, ⟨fitc.1, fitc.2, ?_, ?_, by decide⟩, c.b0, bd.b0, .inr rfl, ed_var 4 rfl (ed_int ⟨p, _, 2, 2, rfl, hpp, rfl, rfl, ?_⟩)⟩⟩)))))))))
      · have := bd.t0
        have := f1.b0
        have := bd.b6
        have h1 := bd.le
        have h2 : t ≤ bb := by
          have h3 : pt * bb ≤ pb * bb := Int.mul_le_mul_of_nonneg_right c.t1 (by omega)
          have h4 : t * pb ≤ bb * pb := by rw [Int.mul_comm bb]; omega
          exact Int.le_of_mul_le_mul_right h4 c.b0
        omega
      · have := f1.b0
        have := bd.b6
        omega
      rw [← w5, ← w6]
      have hps2 : mset (mset μv a (aucM A dx h ns (bs nl') (bs fl') pt' pb' past')) p (.lst [lI ns, .ptr ps, pr pt' pb']) ps = some (.lst [lI (zI free), lI (zI nl), lI (zI fl)]) := (mset_ne d6).trans hps
      refine sd_n25 rfl ?_
      refine sd_cons (s1_sub (ed_sorted T.f_sorted (ed_cat (ed_ixL (ed_var 8 rfl (ed_int ⟨_, 1, _, lstOf_ptr hps2, rfl, rfl, ed_lst (ad_cons (ed_var 17 rfl (ad_nil ⟨by simp, _, _, rfl, rfl, ?_, zI (nl ++ [g]), congrArg some (zI_snoc nl g), ?_, fun ns' hp' hs' => ed_var 8 rfl (ed_int ⟨ps, _, 1, 1, rfl, hps2, rfl, rfl, ?_⟩)⟩)))⟩)))))) 
      · rw [zI_len]; show nl.length + 1 ≤ 1000; omega
      · rw [zI_l, List.length_append]; show nl.length + 1 < 64; omega
      obtain ⟨l', e1, e2, e3⟩ := sorted_zI hp' hs' (p7.hire hg).ndn.1
      subst e1
      obtain ⟨s1, s2⟩ := near_step st pk tk c bd hg e2 e
      refine sd_n25 rfl ?_
      refine sd_one (s1_put ok 14 (ed_str ⟨"near", l', fl, pt', pb', g, hg, rfl, ?_, ?_, ?_⟩))
      · rw [w3, w4, bs_perm e2]; rfl
      · rw [e2.length_eq, List.length_append]; show nl.length + 1 + _ = _; omega
      · rw [← w5, ← w6] at s1 s2
        exact ⟨s1, s2, lists_step L s1.part e3 L.sf⟩
    · have e := of_decide_eq_false e
      rcases hw with ⟨w1, w2, w3, w4, w5, w6⟩ | ⟨_, z, _⟩
      case inr => omega
      subst w1
      refine sd_n25 rfl ?_
      refine sd_cons (s1_sub (ed_call (fd_sum T) ok (ad_cons (ed_var 9 rfl (ad_cons (ed_ixT (ed_var 14 rfl (ed_int ⟨_, 2, _, rfl, rfl, rfl, ad_cons (ed_int (ad_nil ⟨pt, pb, bT free Lx m, bB free Lx m, 1, 3000000000000000, 1000000, rfl, ⟨fitc.1, fitc.2, ?_, ?_, by decide⟩, c.b0, tk.b0, .inl rfl, ed_var 4 rfl (ed_int ⟨p, _, 2, 2, rfl, hpp, rfl, rfl, ?_⟩)⟩))⟩))))))))
      · have := tk.t0
        have := tk.t1
        omega
      · have := tk.b0
        have := tk.b6
        omega
      rw [← w5, ← w6]
      have hps2 : mset (mset μv a (aucM A dx h ns (bs nl') (bs fl') pt' pb' past')) p (.lst [lI ns, .ptr ps, pr pt' pb']) ps = some (.lst [lI (zI free), lI (zI nl), lI (zI fl)]) := (mset_ne d6).trans hps
      refine sd_n25 rfl ?_
      refine sd_cons (s1_put ok 17 (ed_ixT (ed_var 14 rfl (ed_int ⟨_, 1, _, rfl, rfl, rfl, ?_⟩))))
      refine sd_n25 rfl ?_
      refine sd_cons (s1_sub (ed_sorted T.f_sorted (ed_cat (ed_ixL (ed_var 8 rfl (ed_int ⟨_, 2, _, lstOf_ptr hps2, rfl, rfl, ed_lst (ad_cons (ed_var 17 rfl (ad_nil ⟨by simp, _, _, rfl, rfl, ?_, zI (fl ++ [gL]), congrArg some (zI_snoc fl gL), ?_, fun ns' hp' hs' => ed_var 8 rfl (ed_int ⟨ps, _, 2, 2, rfl, hps2, rfl, rfl, ?_⟩)⟩)))⟩))))))
      · rw [zI_len]; show fl.length + 1 ≤ 1000; omega
      · rw [zI_l, List.length_append]; show fl.length + 1 < 64; omega
      obtain ⟨l', e1, e2, e3⟩ := sorted_zI hp' hs' (p7.lose hgL).ndn.2.1
      subst e1
      obtain ⟨s1, s2⟩ := far_step st pk tk c bd hgL best.memL.2 e2 (by omega)
      refine sd_n25 rfl ?_
      refine sd_one (s1_put ok 14 (ed_str ⟨"far", nl, l', pt', pb', gL, hgL, rfl, ?_, ?_, ?_⟩))
      · rw [w3, w4, bs_perm e2]; rfl
      · rw [e2.length_eq, List.length_append]; show _ + (fl.length + 1) = _; omega
      · rw [← w5, ← w6] at s1 s2
        exact ⟨s1, s2, lists_step L s1.part L.sn e3⟩
    clear hw hps hpp
    subst hρ hμ
    have hF : mset (mset (mset μv a (aucM A dx h ns (bs nl') (bs fl') pt' pb' past')) p (.lst [lI ns, .ptr ps, pr pt' pb'])) ps (.lst [lI (zI free), lI (zI nl'), lI (zI fl')]) ps = some (.lst [lI (zI free), lI (zI nl'), lI (zI fl')]) := mset_same
    have gsF := lstOf_ptr hF
    refine sd_n25 rfl ?_
    refine sd_cons (s1_sub (ed_lc 24 (fun m : Nat => .int m) (fun m => !decide ((m : Int) = (gh : Int))) (fun m : Nat => .int m) ok (ed_ixL (ed_var 8 rfl (ed_int ⟨_, 0, _, gsF, rfl, rfl, free, congrArg some (zzI _), by omega, fun m hm => ?_, (fun _ h => nomatch h), ed_var 8 rfl (ed_int ⟨ps, _, 0, 0, rfl, hF, rfl, rfl, ?_⟩)⟩))) rfl fun _ _ _ _ _ => pg_name (i := 24) ok.nd rfl (Or.inl rfl)))
    · intro s H C cl fp μ' hu
      exact ⟨td_neI (ed_var 24 rfl (ed_var 17 rfl ⟨_, _, rfl, rfl, rfl, rfl⟩)), fun _ => ed_var 24 rfl ⟨rfl, rfl⟩⟩
    rw [mset_mset, filt_zI]
    have rn := r.next (nl' := nl') (fl' := fl') (free' := free.filter fun x => x != gh) (pt' := pt') (pb' := pb') (past' := past')
    have lp : past'.length = nl'.length + fl'.length := by omega
    refine sd_n25 rfl ?_
    refine sd_stay (s1_if (td_not (td_val (ed_call (fd_same T 0) ok (ad_cons (ed_var 23 rfl (ad_cons (ed_var 14 rfl (ad_nil ⟨_, rfl, .str, _, rfl, if_f rfl (sd_nil ⟨rfl, rfl⟩)⟩))))))))) ?_
    refine sd_n25 rfl ?_
    refine sd_one (s1_ret (ed_call (fd_state T) ok (ad_cons (ed_var 2 rfl (ad_cons (ed_var 7 rfl (ad_cons (ed_var 8 rfl (ad_cons (ed_ixL (ed_var 4 rfl (ed_int ⟨_, 2, _, lstOf_ptr rn.bk.b, rfl, rfl, ad_nil ⟨a, dx, h, ns, nl', fl', _, pt', pb', past', ps, rfl, rn.au, G, L', rn.bk.s, lp, ?_⟩⟩))))))))))))
    exact q nl' fl' _ pt' pb' past' _ rn st' c' L' lp (p7.left_length hgh)
end
end DD
set_option Elab.async false
set_option linter.all false
set_option maxRecDepth 100000
set_option maxHeartbeats 4000000
/-! E24: the law. -/
namespace DD
open PySem PySem.Spec PyProof.Rows L2 PM
theorem filt_t {α : Type} (l : List α) : l.filter (fun _ => true) = l := List.filter_eq_self.mpr fun _ _ => rfl
theorem factor_ok {M f : Int} {ns : List Int} (hb : Bnd 63 ns) (hM : M ∈ (1 :: ns)) (hle : ∀ y ∈ (1 :: ns), y ≤ M) (hf : f = 1 ∨ f = 1000000000 / M) : 0 ≤ f ∧ f ≤ 1000000000 ∧ ∀ n ∈ ns, f * n ≤ 1000000000 := by
  have m1 : 1 ≤ M := hle 1 (by simp)
  rcases hf with e | e
  · subst e
    refine ⟨by omega, by omega, fun n hn => ?_⟩
    have := hb n hn
    omega
  · have f0 : 0 ≤ f := by rw [e]; exact Int.ediv_nonneg (by omega) (by omega)
    have f1 : f * M ≤ 1000000000 := by rw [e]; exact Int.ediv_mul_le _ (by omega)
    refine ⟨f0, ?_, fun n hn => ?_⟩
    · have : f * 1 ≤ f * M := Int.mul_le_mul_of_nonneg_left m1 f0
      omega
    · have : f * n ≤ f * M := Int.mul_le_mul_of_nonneg_left (hle n (by simp [hn])) f0
      omega
/-- the objects at the start -/
theorem rst0 {A : Ad} {μ : Mu} {b a p ps dx : Addr} {h : Nat} {ns : List Int} {t bb : Int} (hB : Bx mu0 b μ) (ha : μ a = none) (hps : mset μ a (aucM A dx h ns 0 0 t bb []) ps = none)
    (hp : mset (mset μ a (aucM A dx h ns 0 0 t bb [])) ps (.lst [lI (zI (List.range h)), lI (zI []), lI (zI [])]) p = none) :
    RSt A (mset (mset (mset μ a (aucM A dx h ns 0 0 t bb [])) ps (.lst [lI (zI (List.range h)), lI (zI []), lI (zI [])])) p (.lst [lI ns, .ptr ps, pr t bb])) b a p ps dx h ns [] [] (List.range h) t bb [] := by
  obtain ⟨k, v, k0, hb⟩ := hB.at
  have d1 : a ≠ b := fun e => by rw [e, hb] at ha; cases ha
  have d5 : ps ≠ a := fun e => by rw [e, mset_same] at hps; cases hps
  have d3 : ps ≠ b := fun e => by rw [e, mset_ne (Ne.symm d1), hb] at hps; cases hps
  have d6 : p ≠ ps := fun e => by rw [e, mset_same] at hp; cases hp
  have d4 : p ≠ a := fun e => by rw [e, mset_ne (Ne.symm d5), mset_same] at hp; cases hp
  have d2 : p ≠ b := fun e => by rw [e, mset_ne (Ne.symm d3), mset_ne (Ne.symm d1), hb] at hp; cases hp
  refine ⟨⟨k, v, k0, (mset_self ?_).symm⟩, ?_, mset_same, ?_⟩
  · rw [mset_ne (Ne.symm d2), mset_ne (Ne.symm d3), mset_ne (Ne.symm d1)]; exact hb
  · show mset _ _ _ a = _
    rw [mset_ne (Ne.symm d4), mset_ne (Ne.symm d5)]; exact mset_same
  · rw [mset_ne (Ne.symm d6)]; exact mset_same
section
variable {P : Program} {w : World} {K : PySem.W.Frag} {mg : Str → Option Value} {base : Heap} {A : Ad}
theorem sd_law (T : Txt P K mg A) {f : Addr} {cdv : Value} {B : Around} {outer : List Env} {s : Shared} {H : Hp} {E : XK} {G0 : Hp} {ξ : XD} {ap : Addr} {sc : List Int}
    (ok : (gam P w K mg base n_law "law" (defScope s_law) f cdv B outer s H E G0 ξ).Ok 10) (hS : SqL K G0 ap (sc.map V.int)) (hl : sc.length ≤ 63) :
    SD (gam P w K mg base n_law "law" (defScope s_law) f cdv B outer s H E G0 ξ) (defBody s_law) (startD n_law [.ptr ap]) mu0 { nx := fun _ _ => False, rt := fun d _ => d = .bl true } := by
  have z6 := e60
  refine sd_n20 rfl ?_
  refine sd_cons (s1_setLc 18 1 D.int (fun _ => true) D.int ok (ed_cut hS (ed_var 0 rfl ⟨rfl, fun cs hz => ⟨cs, rfl, by omega, fun z hz s H C cl fp μ' hu => ⟨rfl, fun _ => ed_int1 T.f_int (ed_var 18 rfl (.inl ⟨_, rfl, rfl, rfl⟩))⟩, (fun _ h => nomatch h), ?_⟩⟩)) rfl fun _ _ _ _ _ => pg_name (i := 18) ok.nd rfl (Or.inl rfl))
  rw [filt_t]
  refine sd_n20 rfl ?_
  refine sd_cons (s1_put ok 2 (ed_lstM (ad_cons (ed_int (ad_cons (ed_int (ad_nil ⟨by simp, fun b hb => ?_⟩)))))))
  have hB0 : Bx mu0 b (mset mu0 b (.lst [.int 0, .int 0])) := ⟨0, 0, by omega, rfl⟩
  refine sd_n20 rfl ?_
  refine sd_cons (s1_put ok 3 (ed_ixL (ed_lits (zs := [3, 2, 4, 1, 3, 2, 4, 6]) rfl (by decide) (ed_call (fd_digit T) ok (ad_cons (ed_var 1 rfl (ad_cons (ed_var 2 rfl (ad_cons (ed_int (ad_nil ⟨cs, b, 8, _, rfl, hB0, by omega, by omega, fun d μ1 d0 d1 hB => ?_⟩)))))))))))
  obtain ⟨n, hn, hnm⟩ := lit_int (zs := [3, 2, 4, 1, 3, 2, 4, 6]) d0 (by simpa using d1)
  obtain ⟨h, e, h1, h6⟩ : ∃ h : Nat, n = h ∧ 1 ≤ h ∧ h ≤ 6 := ⟨n.toNat, by simp at hnm; omega, by simp at hnm; omega, by simp at hnm; omega⟩
  subst e
  refine ⟨_, _, _, rfl, rfl, hn, ?_⟩
  have p64 : 2 ^ h ≤ 64 := pw_lt h6
  have pp : 0 < 2 ^ h := Nat.two_pow_pos h
  refine sd_n20 rfl ?_
  refine sd_cons (s1_put ok 4 (ed_call (fd_pushed T) ok (ad_cons (ed_var 1 rfl (ad_cons (ed_var 2 rfl (ad_cons (ed_var 3 rfl (ad_nil ⟨cs, b, h, mu0, rfl, hB, h1, h6, fun ns0 μ2 G0' bd0 hB => ?_⟩)))))))))
  have nl0 : ns0.length = 2 ^ h := G0'.len
  refine sd_n20 rfl ?_
  refine sd_cons (s1_put ok 5 (ed_ixL (ed_lst (ad_cons (ed_int (ad_cons (ed_int (ad_cons (ed_fdivW (ed_1e9 (ed_max ok.calm T.f_max (ed_cat (ed_lst (ad_cons (ed_int (ad_nil ⟨by simp, ed_var 4 rfl ⟨_, _, rfl, rfl, ?_, 1 :: ns0, rfl, by simp, fun M hM hle => ⟨_, _, rfl, rfl, ?_, ad_nil ⟨by simp, ?_⟩⟩⟩⟩))))))))))))))))
  · rw [List.length_map]; show 1 + _ ≤ 1000; omega
  · have m1 : 1 ≤ M := hle 1 (by simp)
    have m2 : M ≤ 63 := by
      rcases List.mem_cons.mp hM with e | e
      · omega
      · exact (bd0 M e).2
    exact div_ok (by omega) (Nat.lt_of_lt_of_le (show M.natAbs < 2 ^ 6 by omega) (Nat.pow_le_pow_right (by omega) (by omega)))
  refine ed_call (fd_digit T) ok (ad_cons (ed_var 1 rfl (ad_cons (ed_var 2 rfl (ad_cons (ed_int (ad_nil ⟨cs, b, 3, _, rfl, hB, by omega, by omega, fun d5 μ3 d50 d51 hB => ?_⟩)))))))
  obtain ⟨ff, hff, hffm⟩ := lit_int (zs := [1, 1, 1000000000 / M]) d50 (by simpa using d51)
  refine ⟨_, _, _, rfl, rfl, hff, ?_⟩
  obtain ⟨f0, f9, fns⟩ := factor_ok bd0 hM hle (by simpa using hffm)
  have G := scale_good G0' f0 fns
  refine sd_n20 rfl ?_
  refine sd_cons (s1_setLc 19 4 D.int (fun _ => true) (fun z => .int (ff * z)) ok (ed_var 4 rfl ⟨ns0, rfl, by omega, fun z hz s H C cl fp μ' hu => ⟨rfl, fun _ => ed_mul (ed_var 5 rfl (ed_var 19 rfl ⟨_, _, rfl, rfl, .inl ⟨by omega, by omega⟩, rfl, rfl⟩))⟩, (fun _ h => nomatch h), ?_⟩) rfl fun _ _ _ _ _ => pg_name (i := 19) ok.nd rfl (Or.inl rfl))
  have em : ns0.map (fun z => D.int (ff * z)) = (ns0.map (ff * ·)).map D.int := by rw [List.map_map]; rfl
  rw [filt_t, em]
  clear em hff hffm f0 f9 fns hM hle bd0
  generalize ns0.map (ff * ·) = ns at *
  refine sd_n20 rfl ?_
  refine sd_cons (s1_put ok 6 (ed_listRg ok.calm T.f_list T.f_range (ed_var 3 rfl ⟨h, rfl, by omega, by omega, ?_⟩)))
  have er : ((List.range ((h : Int)).toNat).map fun i : Nat => D.int (i : Int)) = (zI (List.range h)).map D.int := by rw [Int.toNat_natCast, zzI]
  rw [er]
  refine sd_n20 rfl ?_
  refine sd_cons (s1_put ok 7 (ed_call (fd_wished T) ok (ad_cons (ed_var 1 rfl (ad_cons (ed_var 2 rfl (ad_cons (ed_var 4 rfl (ad_cons (ed_var 6 rfl (ad_nil ⟨cs, b, mu0, h, ns, rfl, hB, G, fun x μ4 x0 x1 mp hB => ?_⟩)))))))))))
  have pt0 : Part h [] [] (List.range h) := part0 (by omega)
  have ls0 := lists0 h1 h6
  refine sd_n20 rfl ?_
  refine sd_cons (s1_put ok 8 (ed_call (fd_below T) ok (ad_cons (ed_var 4 rfl (ad_cons (ed_int (ad_cons (ed_var 6 rfl (ad_cons (ed_var 7 rfl (ad_nil ⟨h, ns, [], [], List.range h, x, rfl, G, pt0, ?_⟩)))))))))))
  have lr : (List.range h).length = h := List.length_range
  have ml : (masks h (bs []) (bs [])).length = 2 ^ h := by rw [masks_length pt0, lr]
  have mle : many h ns x [] [] ≤ 2 ^ h := by rw [← ml]; exact cnt_le
  have mi : (0 : Int) < (many h ns x [] [] : Nat) ∧ ((many h ns x [] [] : Nat) : Int) ≤ (2 ^ h : Nat) := by omega
  refine sd_n20 rfl ?_
  refine sd_cons (s1_put ok 9 (ed_call (fd_share T) ok (ad_cons (ed_var 1 rfl (ad_cons (ed_var 2 rfl (ad_cons (ed_var 8 rfl (ad_cons (ed_shl (ed_int (ed_var 3 rfl ⟨_, _, rfl, rfl, ⟨by omega, by omega, by decide⟩, ?_⟩))))))))))))
  rw [shl1]
  refine ad_nil ⟨cs, b, mu0, (many h ns x [] [] : Nat), (2 ^ h : Nat), rfl, hB, ⟨mi.1, mi.2, by omega, dvd6 h6⟩, fun st sb μ5 s0 s1 b0 b6 rd hlt hB => ?_⟩
  refine sd_n20 rfl ?_
  refine sd_cons (s1_put ok 10 (ed_eqI (ed_call (fd_digit T) ok (ad_cons (ed_var 1 rfl (ad_cons (ed_var 2 rfl (ad_cons (ed_int (ad_nil ⟨cs, b, 2, _, rfl, hB, by omega, by omega, fun d6 μ6 d60 d61 hB => ed_int ⟨_, _, rfl, rfl, ?_⟩⟩))))))))))
  generalize decide (d6 = 0) = plain
  refine sd_n20 rfl ?_
  refine sd_cons (s1_put ok 11 (ed_freezeI (ed_make (nd_scale T) ok (dds := []) (fun G => rfl) (ad_cons (ed_var 3 rfl (ad_cons (ed_list T.f_list (ed_var 4 rfl ⟨_, rfl, ad_nil fun q dx hq => ⟨q, h, ns, dx, rfl, mset_same, G, ?_⟩⟩)))))))) 
  rw [mset_mset]
  refine ⟨rfl, q, A.scl, dx, _, _, rfl, mset_same, ?_⟩
  rw [mdel_mset hq]
  clear hq
  generalize hmn : many h ns x [] [] = mn at *
  have frS : -(10 ^ 60 : Int) ≤ st ∧ st ≤ 10 ^ 60 ∧ sb ≤ 10 ^ 60 := by
    have e3 : -(10 ^ 60 : Int) ≤ 0 := by decide
    omega
  have smS : Sm st ∧ Sm sb := ⟨sm6 s0 (by omega), sm6 (by omega) b6⟩
  refine sd_n20 rfl ?_
  refine sd_cons (s1_put ok 12 (ed_call (fd_reduced T) ok (ad_cons (ed_var 8 rfl (ad_cons (ed_shl (ed_int (ed_var 3 rfl ⟨_, _, rfl, rfl, ⟨by omega, by omega, by decide⟩, ?_⟩))))))))
  rw [shl1]
  refine ad_nil ⟨(mn : Nat), (2 ^ h : Nat), rfl, by omega, Nat.lt_of_lt_of_le (show ((2 ^ h : Nat) : Int).natAbs < 2 ^ 7 by omega) (Nat.pow_le_pow_right (by omega) (by omega)), Nat.lt_of_lt_of_le (show ((mn : Nat) : Int).natAbs < 2 ^ 7 by omega) (Nat.pow_le_pow_right (by omega) (by omega)), ?_⟩
  refine sd_n20 rfl ?_
  refine sd_stay (s1_if (td_not (td_val (ed_call (fd_same T 1) ok (ad_cons (ed_call (fd_pair T) ok (ad_cons (ed_call (fd_least_share T) ok (ad_cons (ed_var 11 rfl (ad_cons (ed_tup (ad_nil ⟨by simp, ad_cons (ed_lst (ad_nil ⟨by simp, ad_cons (ed_var 7 rfl (ad_nil ⟨h, ns, _, _, [], [], List.range h, x, rfl, G, .inl rfl, .inr rfl, ls0, ⟨x0, x1⟩, ?_⟩))⟩))⟩))))))))))))) ?_
  · rw [lr, hmn]
    exact ad_nil ⟨_, _, rfl, ad_cons (ed_var 12 rfl (ad_nil ⟨_, rfl, pl_pr, _, rfl, if_f rfl (sd_nil ⟨rfl, rfl⟩)⟩))⟩
  refine sd_n20 rfl ?_
  refine sd_join (fun ρ' μ' => ∃ n : Int, n < x ∧ μ' = μ6 ∧ ρ' = [some (.ptr ap), some (lI cs), some (.ptr b), some (.int h), some (lI ns), some (.int ff), some (lI (zI (List.range h))), some (.int x), some (.int mn), some (pr st sb), some (.bl plain), some (scl A h ns), some (pr (rt mn (2 ^ h : Nat)) (rb mn (2 ^ h : Nat))), some (.int n), none, none, none, none, none, none])
    (s1_put ok 13 (ed_call (fd_purse_lead T) ok (ad_cons (ed_var 11 rfl (ad_cons (ed_tup (ad_nil ⟨by simp, ad_cons (ed_lst (ad_nil ⟨by simp, ad_cons (ed_call (fd_value T) ok (ad_cons (ed_var 9 rfl (ad_cons (ed_var 10 rfl (ad_nil ⟨st, sb, plain, rfl, b0, frS, rd, fun d _ isf => ad_nil ⟨h, ns, _, _, d, [], [], List.range h, st, sb, rfl, G, .inl rfl, .inr rfl, ls0, isf, ⟨s0, s1, b0, b6⟩, fun n hn hno => ⟨n, ?_, rfl, rfl⟩⟩⟩))))))⟩))⟩))))))) fun ρ' μ' ⟨n, hnx, hμ, hρ⟩ => ?_
  · refine lead_lt hn ?_ b0 hno
    rw [ml]
    have e : PM.cnt ns x (masks h (bs []) (bs [])) = mn := hmn
    rw [e]
    rcases hlt with z | z
    · exact .inl (by omega)
    · exact .inr z
  subst hμ hρ
  refine sd_n20 rfl ?_
  refine sd_stay (s1_if (td_or (td_not (td_val (ed_isiB (n := "int") T.f_isinstance T.f_int (ed_var 13 rfl ⟨_, true, .flat rfl, rfl, _, rfl, if_f rfl (td_ge (ed_var 13 rfl (ed_var 7 rfl ⟨_, _, rfl, rfl, if_f (decide_eq_false (by omega)) (sd_nil ⟨rfl, rfl⟩)⟩)))⟩) (by decide +kernel)))))) ?_
  refine sd_n20 rfl ?_
  refine sd_stay (s1_if (td_not (td_val (ed_call (fd_opening T) ok (ad_cons (ed_var 11 rfl (ad_nil ⟨h, ns, rfl, G, h1, h6, _, rfl, if_f rfl (sd_nil ⟨rfl, rfl⟩)⟩))))))) ?_
  refine sd_n20 rfl ?_
  refine sd_cons (s1_put ok 14 (ed_make (nd_auction T) ok (dds := []) (fun G => rfl) (ad_cons (ed_var 11 rfl (ad_cons (ed_call (fd_value T) ok (ad_cons (ed_var 9 rfl (ad_cons (ed_var 10 rfl (ad_nil ⟨st, sb, plain, rfl, b0, frS, rd, fun d _ isf => ad_nil fun a dx ha => ⟨a, dx, h, ns, d, st, sb, rfl, mset_same, isf, h1, by omega, smS, b0, fun z => absurd z (by omega), fun _ z => absurd z (by omega), fun _ _ _ _ => ⟨rfl, ?_⟩⟩⟩)))))))))))
  rw [mset_mset, rd.rt, rd.rb]
  refine sd_n20 rfl ?_
  refine sd_cons (s1_put ok 15 (ed_lstM (ad_cons (ed_var 4 rfl (ad_cons (ed_lstM (ad_cons (ed_var 6 rfl (ad_cons (ed_lst (ad_nil ⟨by simp, ad_cons (ed_lst (ad_nil ⟨by simp, ad_nil ⟨by simp, fun ps hps => ad_cons (ed_var 9 rfl (ad_nil ⟨by simp, fun p hp => ?_⟩))⟩⟩))⟩)))))))))))
  have r : RSt A _ b a p ps dx h ns [] [] (List.range h) st sb [] := rst0 hB ha hps hp
  have co : Coins st sb (sb * 2037000000) := ⟨s0, s1, b0, ⟨_, rfl⟩, Int.mul_pos b0 (by decide), by omega, ⟨_, Int.mul_comm _ _⟩, rd⟩
  have sd0 : Stand h ns x [] [] (List.range h) st sb := ⟨pt0, G, s0, s1, b0, by
    have e : PM.cnt ns x (masks h (bs []) (bs [])) = mn := hmn
    rw [e, lr]
    rcases hlt with z | z
    · exact .inl (by omega)
    · exact .inr z⟩
  refine sd_n20 rfl ?_
  refine sd_stay (s1_if (td_not (td_val (ed_call (fd_state T) ok (ad_cons (ed_var 14 rfl (ad_cons (ed_var 4 rfl (ad_cons (ed_ixL (ed_var 15 rfl (ed_int ⟨_, 1, _, lstOf_ptr r.bk.b, rfl, rfl, ad_cons (ed_var 9 rfl (ad_nil ⟨a, dx, h, ns, [], [], List.range h, st, sb, [], ps, rfl, r.au, G, ls0, r.bk.s, rfl, _, rfl, if_f rfl (sd_nil ⟨rfl, rfl⟩)⟩))⟩)))))))))))) ?_
  generalize hdue : pr (rt mn (2 ^ h : Nat)) (rb mn (2 ^ h : Nat)) = due
  refine sd_n20 rfl ?_
  refine sd_cons (s1_forR 16 (fun j ρ' μ' => ∃ (x16 : Option D) (nl fl free : List Nat) (pt pb : Int) (past : List D), free.length + j = h ∧ ρ' = [some (.ptr ap), some (lI cs), some (.ptr b), some (.int h), some (lI ns), some (.int ff), some (lI (zI (List.range h))), some (.int x), some (.int mn), some (pr st sb), some (.bl plain), some (scl A h ns), some due, some (.int n), some (.ptr a), some (.ptr p), x16, none, none, none] ∧
      RSt A μ' b a p ps dx h ns nl fl free pt pb past ∧ Stand h ns x nl fl free pt pb ∧ Coins pt pb (sb * 2037000000) ∧ Lists h nl fl free ∧ past.length = nl.length + fl.length) ok T.f_range (ad_cons (ed_var 3 rfl (ad_nil ⟨h, rfl, by omega, by omega, ⟨none, [], [], List.range h, st, sb, [], by omega, rfl, r, sd0, co, ls0, rfl⟩, ?_, ?_⟩))))
  · intro j ρ' μ' hj ⟨x16, nl, fl, free, pt, pb, past, hfl, hρ, r, sd, c, L, hp⟩
    subst hρ
    have ne : free ≠ [] := fun e => by rw [e] at hfl; simp at hfl; omega
    exact sd_one (s1_if (td_not (td_val (ed_call (fd_round T) ok (ad_cons (ed_var 1 rfl (ad_cons (ed_var 2 rfl (ad_cons (ed_var 14 rfl (ad_cons (ed_var 11 rfl (ad_cons (ed_var 15 rfl (ad_cons (ed_var 7 rfl (ad_cons (ed_var 16 rfl (ad_nil ⟨cs, b, a, p, ps, dx, h, ns, nl, fl, free, x, j, pt, pb, _, past, rfl, r, sd, c, L, ne, hp, ⟨x0, x1⟩, fun nl' fl' free' pt' pb' past' μ2 r' sd' c' L' hp' hl' => ⟨_, rfl, if_f rfl (sd_nil ⟨_, nl', fl', free', pt', pb', past', by omega, rfl, r', sd', c', L', hp'⟩)⟩⟩)))))))))))))))))))
  · intro ρ' μ' ⟨x16, nl, fl, free, pt, pb, past, hfl, hρ, r, sd, c, L, hp⟩
    subst hρ
    have e : free = [] := List.length_eq_zero_iff.mp (by rw [Int.toNat_natCast] at hfl; omega)
    subst e
    have en := sd.end_
    refine sd_n20 rfl ?_
    refine sd_cons (s1_put ok 13 (ed_prop0 (pd_result T) ok (ed_var 14 rfl ⟨_, _, r.au.ins, a, dx, h, ns, nl, fl, [], pt, pb, past, rfl, r.au, G, L, ?_⟩)))
    have er : resD ns nl [] = .int (at_ ns (bs nl)) := by unfold resD; rw [if_pos rfl]
    simp only [er]
    refine sd_n20 rfl ?_
    refine sd_stay (s1_if (td_or (td_not (td_val (ed_isiB (n := "int") T.f_isinstance T.f_int (ed_var 13 rfl ⟨_, true, .flat rfl, rfl, _, rfl, if_f rfl (td_ge (ed_var 13 rfl (ed_var 7 rfl ⟨_, _, rfl, rfl, if_f (decide_eq_false (by omega)) (sd_nil ⟨rfl, rfl⟩)⟩)))⟩) (by decide +kernel)))))) ?_
    refine sd_n20 rfl ?_
    refine sd_cons (s1_put ok 12 (ed_tup (ad_cons (ed_str (ad_cons (ed_lst (ad_cons (ed_bl (ad_cons (ed_bl (ad_cons (ed_tup (ad_cons (ed_str (ad_nil ⟨by simp, ad_nil ⟨by simp, ad_nil ⟨by simp, ?_⟩⟩⟩))))))))))))))) 
    refine sd_n20 rfl ?_
    refine sd_cons (s1_forL 17 (fun _ ρ' μ2 => μ2 = μ' ∧ ∃ x17, ρ' = [some (.ptr ap), some (lI cs), some (.ptr b), some (.int h), some (lI ns), some (.int ff), some (lI (zI (List.range h))), some (.int x), some (.int mn), some (pr st sb), some (.bl plain), some (scl A h ns), some (refD false [.str "Ended"]), some (.int (at_ ns (bs nl))), some (.ptr a), some (.ptr p), x16, x17, none, none]) ok ?_)
    refine ed_lst (ad_cons (ed_lst (ad_cons (ed_int (ad_cons (ed_tup (ad_cons (ed_int (ad_cons (ed_int (ad_nil ⟨by simp, ad_cons (ed_int (ad_cons (ed_tup (ad_cons (ed_int (ad_cons (ed_int (ad_nil ⟨by simp, ad_nil ⟨by simp, ?_⟩⟩))))))))⟩)))))))))))
    refine ad_cons (ed_lst (ad_cons (ed_var 3 rfl (ad_cons (ed_tup (ad_cons (ed_int (ad_cons (ed_int (ad_nil ⟨by simp, ad_cons (ed_neg (ed_int ⟨_, rfl, ad_cons (ed_tup (ad_cons (ed_neg (ed_int ⟨_, rfl, ad_cons (ed_int (ad_nil ⟨by simp, ad_nil ⟨by simp, ?_⟩⟩))⟩))))⟩))⟩))))))))))
    refine ad_nil ⟨by simp, _, rfl, ⟨rfl, none, rfl⟩, ?_, ?_⟩
    · intro j d ρ' μ2 hj ⟨hμ, x17, hρ⟩
      subst hμ hρ
      have f01 : Frac 0 1 := ⟨by decide, by decide, by decide, by decide, by unfold Rdc; decide⟩
      have f21 : Frac 2 1 := ⟨by decide, by decide, by decide, by decide, by unfold Rdc; decide⟩
      have fm1 : Frac (-1) 1 := ⟨by decide, by decide, by decide, by decide, by unfold Rdc; decide⟩
      obtain ⟨g1, t1, b1, g2, t2, b2, e, ff1, ff2⟩ : ∃ g1 t1 b1 g2 t2 b2 : Int, d = callD g1 t1 b1 g2 t2 b2 ∧ Frac t1 b1 ∧ Frac t2 b2 := by
        have := List.mem_of_getElem? hj
        simp only [List.mem_cons, List.not_mem_nil, or_false] at this
        rcases this with e | e
        · exact ⟨_, _, _, _, _, _, e, f01, f01⟩
        · exact ⟨_, _, _, _, _, _, e, f21, fm1⟩
      subst e
      have b100 : pb ≤ 10 ^ 100 := Int.le_trans c.b1 (by decide)
      have ll := len_le L.part
      refine sd_n20 rfl ?_
      refine sd_one (s1_if (td_not (td_val (ed_call (fd_same T 3) ok (ad_cons (ed_call (fd_called T) ok (ad_cons (ed_var 14 rfl (ad_cons (ed_var 17 rfl (ad_nil ⟨a, dx, h, ns, nl, fl, [], pt, pb, past, g1, t1, b1, g2, t2, b2, refD false [.str "Ended"], rfl, r.au, by omega, L, ff1, ff2, ⟨c.t0, c.t1, c.b0, b100⟩, .inl ⟨rfl, rfl⟩, ?_⟩)))))))))))
      exact ad_cons (ed_var 12 rfl (ad_nil ⟨_, rfl, pl_ref1, _, rfl, if_f rfl (sd_nil ⟨rfl, _, rfl⟩)⟩))
    · intro ρ' μ2 ⟨hμ, x17, hρ⟩
      subst hμ hρ
      exact sd_one (s1_ret (ed_call (fd_state T) ok (ad_cons (ed_var 14 rfl (ad_cons (ed_var 4 rfl (ad_cons (ed_ixL (ed_var 15 rfl (ed_int ⟨_, 1, _, lstOf_ptr r.bk.b, rfl, rfl, ad_cons (ed_ixL (ed_var 15 rfl (ed_int ⟨_, 2, _, lstOf_ptr r.bk.b, rfl, rfl, ad_nil ⟨a, dx, h, ns, nl, fl, [], pt, pb, past, ps, rfl, r.au, G, L, r.bk.s, hp, rfl⟩⟩)))⟩))))))))))
/-- what the law promises -/
def spLaw (K : PySem.W.Frag) : Sp := fun vs H Q _ => ∃ (ap : Addr) (sc : List Int), vs = [.ref ap] ∧ SqL K H ap (sc.map V.int) ∧ sc.length ≤ 63 ∧ ∀ H', Q (.bl true) H'
theorem fn_law (T : Txt P K mg A) {f : Addr} {fd : FuncData} (F : FunD K "law" "law" (defArgs s_law) (defBody s_law) (defScope s_law) [] [] f fd) : FnOk P w K mg base (L2.CX P w) 11 f fd p_law (spLaw K) := by
  refine F.ok sc_law (fun vs H Q E ⟨ap, sc, h, _⟩ => by rw [h]; rfl) fun cdv B outer s H vs Q E hr ⟨ap, sc, hvs, hS, hl, hq⟩ => ?_
  subst hvs
  refine ⟨_, pss_w, ?_⟩
  have ok : (gam P w K mg base n_law "law" (defScope s_law) f cdv B outer s H E (mns H mu0) X0).Ok 10 :=
    ⟨rfl, hr, passes_call (takes_of rfl rfl rfl rfl) (fun _ _ _ _ h => h), passes_of rfl, fun _ _ _ _ _ _ _ h => h.elim, sc_law.nd⟩
  refine sd_law T ok hS hl (L2.start n_law [.ref ap]) H _ ⟨env_start (IsL.cons rfl rfl), (fun _ _ h => by cases h), Same.refl _⟩ ⟨fun ρ' μ' σ' H' q en r e => q.elim, fun v d μ' H' q i r e => ?_, fun _ _ _ _ q => q.elim, fun _ _ _ _ q => q.elim⟩
  subst q
  have hv : v = .bl true := i
  subst hv
  exact hq H'
end
end DD
set_option Elab.async false
set_option linter.all false
set_option maxRecDepth 100000
set_option maxHeartbeats 4000000
/-! H3: the run's equation whole, the law's walk over the head's word. -/
namespace DD
open PySem PySem.Spec PyProof.Rows L2
theorem run_all (w : World) : HandSHeadRun.RunEqI RW QV hkX obT 10000 loose w := map2 (run_a w) (map2 (run_b w) (map2 (run_c w) (map2 (run_d w) (map2 (run_e w) (run_f w)))))
theorem walk_w {q : Program} {XP : (Str → Option Value) → Heap → Prop} {d : DefRec} (hn : (PySem.Challenge.rw_whosefork_k83_whole_purses_far).most = some 63) (hdf : d.params.defaults = []) (hdn : d.name = ("law" : Str)) (ts : (RW.prog.main.scope.names.lookup ("super" : Str)).isSome = false) (hr : Room 11 callerA) :
    PySem.W.WalkO q loose XP hkX.says (PySem.Challenge.rw_whosefork_k83_whole_purses_far).row.toRowW d [] (fun f vs => PySem.call f vs) := by
  refine Att.attach_call hn hdf fun w1 sa sb gm bm fa oo pm1 cd1 dc1 aa us1 zs GG YY e1 e2 e3 e4 e5 e6 e7 e8 => ?_
  obtain ⟨K, KX, c⟩ := YY
  rw [hdn] at e4
  have T := txt_of (P := RW.prog) ts KX GG.T.g c
  obtain ⟨fd, F⟩ := c.df 71
  have eg := e4.symm.trans (He.glo_ok KX GG.T.g (x := "law") (c.fa 100))
  cases eg
  exact law_call (sp := spLaw K) (k := 11) (x := "_law_script") KX GG.T.g GG.T.b GG.T.builtins GG.T.nolimit e8 e5 e6 (Nat.le_trans e7 (by decide)) hr (fun bs1 _ _ => fn_law T F) (fun s1 v1 => FunD.bindsA (ps := p_law) F bd_law s1 [v1] rfl) (fun H1 _ h2 => ⟨aa, zs, rfl, h2, e7, fun _ => rfl⟩) (fun H1 u1 s2 z => by
    obtain ⟨_, _, _, _, _, _, _, _, _, _, _, _, z⟩ := z
    exact z)
end DD
set_option Elab.async false
set_option linter.all false
set_option maxRecDepth 100000
set_option maxHeartbeats 0
open PySem PySem.W PySem.Calls PyProof.Rows
theorem PySem.Challenge.cw_whosefork_k83_whole_purses_far_holds : PySem.Challenge.rw_whosefork_k83_whole_purses_far.Holds := by
  w_on; o_law
  refine HandSHeadRun.head_imp (r := DD.RW) (q := DD.QV) (H := DD.hkX) (ob := DD.obT) (M := 10000) (loose := DD.loose) (d := HandSHeadRun.topDef DD.RW.prog 98) (kwd := []) DD.obT_eq DD.run_all
    ?h1 ?h2 ?h3 ?h4 ?h5 ?h6 ?h7 ?hw ?hc
  case h1 => kernel_rfl
  case h2 => kernel_rfl
  case h3 => kernel_rfl
  case h4 => rfl
  case h5 => first | assumption | decide +kernel
  case h6 => decide +kernel
  case h7 => exact ⟨rfl, rfl, rfl, rfl, rfl, by decide +kernel⟩
  case hw => w_witness2
  case hc => exact DD.walk_w rfl (by kernel_rfl) (by kernel_rfl) (by kernel_rfl) ⟨rfl, by decide, by decide⟩
