import PyProof.Rows.All
import KE.RegKSuper
import KE.RegKTryMore
import KE.RegKIsAll
import HandS.ForMost
import Wide.All
import OpenK.AllK
import HandS.Exc
import HandS.TupAny
import HandS.TupMul
import HandS.Wide
import HandS.Deep
import HandS.FStr
import HandS.Flow
import HandS.Style
import HandS.ExcOwn
import HandS.WordsExc
import HandS.Iter
import KE.GoesNew
import HandS.Comp
import HandS.Text
import HandS.StrMore
import HandS.Steps
import PyProof.ReprRoads
import PyProof.Rows.ListMulArg
import PyProof.Rows.SeqMore
import PyProof.StrOps2
import KE.KxField
import PyProof.P3Eq
import PyProof.Rows.RegFStrParts
import PyProof.Rows.ReprShort
import HandS.IsInst
import HandS.DictComp
import HandS.Dict
import HandS.Conv
import HandS.List
import HandS.SetFor
import HandS.Strs
import HandS.ExcInit
import KE.KExcSuper
import HandS.TryOnly
import HandS.ExcField
import HandS.ExcIs
import KE.KExcIs
import KE.SortCalls
import HandS.Star
import PySem.Challenge.RW_onceorlater_k24_groups_step_by_step
set_option Elab.async false
set_option linter.all false
set_option maxRecDepth 100000
set_option maxHeartbeats 4000000


/-! D layer, 1: data by value, environments, the simulation, the judgements. -/
namespace DL
open PySem PySem.Spec L2
abbrev St := L2.St

abbrev D := PyData
def keyD : Key → D
  | .inl i => .int i
  | .inr x => .str x

mutual
/-- the value v reads as the data d, over the part F of the heap that never changes any more -/
inductive Dr (K : PySem.W.Frag) (F : Hp) : V → D → Prop
  | non : Dr K F .non .none
  | bl (b : Bool) : Dr K F (.bl b) (.bool b)
  | int (i : Int) : Dr K F (.int i) (.int i)
  | str (x : Str) : Dr K F (.str x) (.str x)
  | lst {a : Addr} {xs : List V} {ds : List D} : SqL K F a xs → DrAll K F xs ds → Dr K F (.ref a) (.list ds)
  | tup {a : Addr} {xs : List V} {ds : List D} : SqT K F a xs → DrAll K F xs ds → Dr K F (.ref a) (.tuple ds)
  | dic {a : Addr} {kvs : List (Key × V)} {es : List (D × D)} : Rd F a (.dK kvs) → DrKv K F kvs es → Dr K F (.ref a) (.dict es)
inductive DrAll (K : PySem.W.Frag) (F : Hp) : List V → List D → Prop
  | nil : DrAll K F [] []
  | cons {v : V} {vs : List V} {d : D} {ds : List D} : Dr K F v d → DrAll K F vs ds → DrAll K F (v :: vs) (d :: ds)
inductive DrKv (K : PySem.W.Frag) (F : Hp) : List (Key × V) → List (D × D) → Prop
  | nil : DrKv K F [] []
  | cons {k : Key} {v : V} {kvs : List (Key × V)} {d : D} {es : List (D × D)} : Dr K F v d → DrKv K F kvs es → DrKv K F ((k, v) :: kvs) ((keyD k, d) :: es)
end

theorem sqT_mono {K : PySem.W.Frag} {F F' : Hp} {a : Addr} {xs : List V} (h : Same F F') (q : SqT K F a xs) : SqT K F' a xs := by
  rcases q with (q | ⟨o, q⟩) | q
  · exact .inl (.inl (h _ _ q))
  · exact .inl (.inr ⟨o, h _ _ q⟩)
  · exact .inr q
theorem rd_mono {F F' : Hp} {a : Addr} {u : HO} (h : Same F F') (q : Rd F a u) : Rd F' a u := by
  rcases q with q | ⟨o, q⟩
  · exact .inl (h _ _ q)
  · exact .inr ⟨o, h _ _ q⟩

mutual
theorem Dr.mono {K : PySem.W.Frag} {F F' : Hp} (h : Same F F') : ∀ (d : D) (v : V), Dr K F v d → Dr K F' v d
  | .none, _, q => by cases q; exact .non
  | .bool b, _, q => by cases q; exact .bl b
  | .int i, _, q => by cases q; exact .int i
  | .str x, _, q => by cases q; exact .str x
  | .list ds, _, q => by cases q with | lst a b => exact .lst (h.seq a) (DrAll.mono h ds _ b)
  | .tuple ds, _, q => by cases q with | tup a b => exact .tup (sqT_mono h a) (DrAll.mono h ds _ b)
  | .dict es, _, q => by cases q with | dic a b => exact .dic (rd_mono h a) (DrKv.mono h es _ b)
theorem DrAll.mono {K : PySem.W.Frag} {F F' : Hp} (h : Same F F') : ∀ (ds : List D) (vs : List V), DrAll K F vs ds → DrAll K F' vs ds
  | [], _, q => by cases q; exact .nil
  | d :: ds, _, q => by cases q with | cons a b => exact .cons (Dr.mono h d _ a) (DrAll.mono h ds _ b)
theorem DrKv.mono {K : PySem.W.Frag} {F F' : Hp} (h : Same F F') : ∀ (es : List (D × D)) (kvs : List (Key × V)), DrKv K F kvs es → DrKv K F' kvs es
  | [], _, q => by cases q; exact .nil
  | (_, d) :: es, _, q => by cases q with | cons a b => exact .cons (Dr.mono h d _ a) (DrKv.mono h es _ b)
end
theorem Dr.up {K : PySem.W.Frag} {F F' : Hp} {d : D} {v : V} (q : Dr K F v d) (h : Same F F') : Dr K F' v d := Dr.mono h d v q
theorem DrAll.up {K : PySem.W.Frag} {F F' : Hp} {d : List D} {v : List V} (q : DrAll K F v d) (h : Same F F') : DrAll K F' v d := DrAll.mono h d v q
theorem DrKv.up {K : PySem.W.Frag} {F F' : Hp} {d : List (D × D)} {v : List (Key × V)} (q : DrKv K F v d) (h : Same F F') : DrKv K F' v d := DrKv.mono h d v q

theorem DrAll.length {K : PySem.W.Frag} {F : Hp} : ∀ {vs : List V} {ds : List D}, DrAll K F vs ds → vs.length = ds.length
  | _, _, .nil => rfl
  | _, _, .cons _ t => congrArg (· + 1) (DrAll.length t)
theorem DrAll.append {K : PySem.W.Frag} {F : Hp} : ∀ {vs us : List V} {ds es : List D}, DrAll K F vs ds → DrAll K F us es → DrAll K F (vs ++ us) (ds ++ es)
  | _, _, _, _, .nil, q => q
  | _, _, _, _, .cons a t, q => .cons a (DrAll.append t q)
theorem DrAll.get {K : PySem.W.Frag} {F : Hp} : ∀ {vs : List V} {ds : List D} {i : Nat} {d : D}, DrAll K F vs ds → ds[i]? = some d → ∃ v, vs[i]? = some v ∧ Dr K F v d
  | _, _, _, _, .nil, e => by simp at e
  | _, _, 0, d, .cons a t, e => by simp at e; subst e; exact ⟨_, rfl, a⟩
  | _, _, i + 1, d, .cons a t, e => by
    obtain ⟨v, h1, h2⟩ := DrAll.get (i := i) t (by simpa using e)
    exact ⟨v, by simpa using h1, h2⟩
theorem DrAll.getV {K : PySem.W.Frag} {F : Hp} : ∀ {vs : List V} {ds : List D} {i : Nat} {v : V}, DrAll K F vs ds → vs[i]? = some v → ∃ d, ds[i]? = some d ∧ Dr K F v d
  | _, _, _, _, .nil, e => by simp at e
  | _, _, 0, d, .cons a t, e => by simp at e; subst e; exact ⟨_, rfl, a⟩
  | _, _, i + 1, d, .cons a t, e => by
    obtain ⟨v, h1, h2⟩ := DrAll.getV (i := i) t (by simpa using e)
    exact ⟨v, by simpa using h1, h2⟩
theorem DrAll.take {K : PySem.W.Frag} {F : Hp} : ∀ {vs : List V} {ds : List D} (n : Nat), DrAll K F vs ds → DrAll K F (vs.take n) (ds.take n)
  | _, _, 0, _ => by simp only [List.take_zero]; exact .nil
  | _, _, _ + 1, .nil => .nil
  | _, _, n + 1, .cons a t => .cons a (DrAll.take n t)
theorem DrAll.drop {K : PySem.W.Frag} {F : Hp} : ∀ {vs : List V} {ds : List D} (n : Nat), DrAll K F vs ds → DrAll K F (vs.drop n) (ds.drop n)
  | _, _, 0, q => q
  | _, _, _ + 1, .nil => .nil
  | _, _, n + 1, .cons _ t => DrAll.drop n t
theorem DrAll.set {K : PySem.W.Frag} {F : Hp} {v : V} {d : D} (r : Dr K F v d) : ∀ {vs : List V} {ds : List D} (i : Nat), DrAll K F vs ds → DrAll K F (vs.set i v) (ds.set i d)
  | _, _, _, .nil => .nil
  | _, _, 0, .cons _ t => .cons r t
  | _, _, i + 1, .cons a t => .cons a (DrAll.set r i t)
theorem DrAll.eraseIdx {K : PySem.W.Frag} {F : Hp} : ∀ {vs : List V} {ds : List D} (i : Nat), DrAll K F vs ds → DrAll K F (vs.eraseIdx i) (ds.eraseIdx i)
  | _, _, _, .nil => .nil
  | _, _, 0, .cons _ t => t
  | _, _, i + 1, .cons a t => .cons a (DrAll.eraseIdx i t)
theorem DrAll.reverse {K : PySem.W.Frag} {F : Hp} : ∀ {vs : List V} {ds : List D}, DrAll K F vs ds → DrAll K F vs.reverse ds.reverse
  | _, _, .nil => .nil
  | _, _, .cons a t => by simp only [List.reverse_cons]; exact (DrAll.reverse t).append (.cons a .nil)
theorem DrAll.ints {K : PySem.W.Frag} {F : Hp} : ∀ (ns : List Int), DrAll K F (ns.map V.int) (ns.map PyData.int)
  | [] => .nil
  | n :: ns => .cons (.int n) (DrAll.ints ns)
theorem DrAll.strs {K : PySem.W.Frag} {F : Hp} : ∀ (ns : List Str), DrAll K F (ns.map V.str) (ns.map PyData.str)
  | [] => .nil
  | n :: ns => .cons (.str n) (DrAll.strs ns)
theorem DrAll.of_ints {K : PySem.W.Frag} {F : Hp} : ∀ {vs : List V} {ns : List Int}, DrAll K F vs (ns.map PyData.int) → vs = ns.map V.int
  | _, [], .nil => rfl
  | _, n :: ns, .cons a t => by cases a; rw [DrAll.of_ints t]; rfl
theorem DrAll.of_strs {K : PySem.W.Frag} {F : Hp} : ∀ {vs : List V} {ns : List Str}, DrAll K F vs (ns.map PyData.str) → vs = ns.map V.str
  | _, [], .nil => rfl
  | _, n :: ns, .cons a t => by cases a; rw [DrAll.of_strs t]; rfl
theorem DrAll.of_bools {K : PySem.W.Frag} {F : Hp} : ∀ {vs : List V} {ns : List Bool}, DrAll K F vs (ns.map PyData.bool) → vs = ns.map V.bl
  | _, [], .nil => rfl
  | _, n :: ns, .cons a t => by cases a; rw [DrAll.of_bools t]; rfl

/-! ### environments -/
inductive Cell where
  | dat (d : D)
  /-- a list or dict that this slot may change; own: it was made since the def was entered -/
  | own (o : Bool) (d : D)
abbrev Env := List (Option Cell)
/-- a value: data, or the mutable object of a slot -/
inductive Rv where
  | dat (d : D)
  | slot (i : Nat)
structure Exc where
  cls : Str
  fs : List (Str × D)
inductive Ans (α : Type) where
  | ok (a : α) (ρ : Env)
  | exc (x : Exc) (ρ : Env)
  | bad
namespace Ans
def bind {α β : Type} (m : Ans α) (f : α → Env → Ans β) : Ans β := match m with
  | ok a ρ => f a ρ
  | exc x ρ => exc x ρ
  | bad => bad
@[simp] theorem bind_ok {α β : Type} (a : α) (ρ : Env) (f : α → Env → Ans β) : (Ans.ok a ρ).bind f = f a ρ := (rfl)
@[simp] theorem bind_exc {α β : Type} (x : Exc) (ρ : Env) (f : α → Env → Ans β) : (Ans.exc x ρ).bind f = .exc x ρ := (rfl)
@[simp] theorem bind_bad {α β : Type} (f : α → Env → Ans β) : (Ans.bad : Ans α).bind f = .bad := (rfl)
end Ans
def Wp {α : Type} (m : Ans α) (P : α → Env → Prop) (E : Exc → Env → Prop) : Prop := match m with
  | .ok a ρ => P a ρ
  | .exc x ρ => E x ρ
  | .bad => False
theorem wp_bind {α β : Type} {m : Ans α} {f : α → Env → Ans β} {P : β → Env → Prop} {E : Exc → Env → Prop} (h : Wp (m.bind f) P E) : Wp m (fun a ρ => Wp (f a ρ) P E) E := by
  cases m with
  | ok a ρ => exact h
  | exc x ρ => exact h
  | bad => exact h
theorem wp_mono {α : Type} {m : Ans α} {P P' : α → Env → Prop} {E E' : Exc → Env → Prop} (h : Wp m P E) (hp : ∀ a ρ, P a ρ → P' a ρ) (he : ∀ x ρ, E x ρ → E' x ρ) : Wp m P' E' := by
  cases m with
  | ok a ρ => exact hp _ _ h
  | exc x ρ => exact he _ _ h
  | bad => exact h
/-- a partial result -/
def ofO {α : Type} (o : Option α) (ρ : Env) : Ans α := match o with
  | some a => .ok a ρ
  | none => .bad
@[simp] theorem ofO_some {α : Type} (a : α) (ρ : Env) : ofO (some a) ρ = .ok a ρ := (rfl)
@[simp] theorem ofO_none {α : Type} (ρ : Env) : ofO (none : Option α) ρ = .bad := (rfl)
theorem wp_ofO {α : Type} {o : Option α} {ρ : Env} {P : α → Env → Prop} {E : Exc → Env → Prop} (h : Wp (ofO o ρ) P E) : ∃ a, o = some a ∧ P a ρ := by
  cases o with
  | none => exact h.elim
  | some a => exact ⟨a, rfl, h⟩

def look (ρ : Env) : Rv → Option D
  | .dat d => some d
  | .slot i => match ρ[i]? with
    | some (some (.dat d)) => some d
    | some (some (.own _ d)) => some d
    | _ => none
@[simp] theorem look_dat (ρ : Env) (d : D) : look ρ (.dat d) = some d := (rfl)

/-- what a mutable object holds -/
def Cont (K : PySem.W.Frag) (F : Hp) : HO → D → Prop
  | .lst vs, .list ds => DrAll K F vs ds
  | .dK kvs, .dict es => DrKv K F kvs es
  | _, _ => False
theorem Cont.up {K : PySem.W.Frag} {F F' : Hp} {o : HO} {d : D} (q : Cont K F o d) (h : Same F F') : Cont K F' o d := by
  cases o <;> cases d <;> first | exact False.elim q | skip
  · exact DrAll.up q h
  · exact DrKv.up q h
theorem Cont.dr {K : PySem.W.Frag} {F H : Hp} {o : HO} {d : D} {p : Addr} (q : Cont K F o d) (h : Same F H) (e : H p = some o) : Dr K H (.ref p) d := by
  cases o <;> cases d <;> first | exact False.elim q | skip
  · exact .lst (SqL.of e) (DrAll.up q h)
  · exact .dic (Rd.of e) (DrKv.up q h)
theorem Cont.list {K : PySem.W.Frag} {F : Hp} {o : HO} {ds : List D} (q : Cont K F o (.list ds)) : ∃ vs, o = .lst vs ∧ DrAll K F vs ds := by
  cases o <;> first | exact False.elim q | exact ⟨_, rfl, q⟩
theorem Cont.dict {K : PySem.W.Frag} {F : Hp} {o : HO} {ds : List (D × D)} (q : Cont K F o (.dict ds)) : ∃ vs, o = .dK vs ∧ DrKv K F vs ds := by
  cases o <;> first | exact False.elim q | exact ⟨_, rfl, q⟩

/-! ### the simulation -/
/-- what stays of a def's entry: G what is kept as it is, F what was data, H all that was tracked, σ the parameters -/
structure Base where
  G : Hp
  F : Hp
  H : Hp
  σ : St
structure Sim (K : PySem.W.Frag) (B : Base) (F : Hp) (ρ : Env) (σ : St) (H : Hp) : Prop where
  g : Same B.G H
  f : Same F H
  bf : Same B.F F
  fr : ∀ b, F b ≠ none → B.F b ≠ none ∨ B.H b = none
  gr : ∀ b, B.H b ≠ none → H b ≠ none
  len : σ.length = ρ.length
  dat : ∀ (i : Nat) (d : D), ρ[i]? = some (some (.dat d)) → ∃ v, σ[i]? = some (some v) ∧ Dr K F v d
  mu : ∀ (i : Nat) (o : Bool) (d : D), ρ[i]? = some (some (.own o d)) → ∃ p c, σ[i]? = some (some (.ref p)) ∧ H p = some c ∧ Cont K F c d ∧ B.G p = none ∧ F p = none ∧
    (o = true → B.H p = none) ∧ (o = false → B.σ[i]? = some (some (.ref p)))
  apart : ∀ (i j : Nat) (o o' : Bool) (d d' : D) (p : Addr), ρ[i]? = some (some (.own o d)) → ρ[j]? = some (some (.own o' d')) → σ[i]? = some (some (.ref p)) → σ[j]? = some (some (.ref p)) → i = j

def RvOk (K : PySem.W.Frag) (F : Hp) (σ : St) : Rv → V → Prop
  | .dat d, v => Dr K F v d
  | .slot i, v => σ[i]? = some (some v)
theorem RvOk.up {K : PySem.W.Frag} {F F' : Hp} {σ : St} {r : Rv} {v : V} (q : RvOk K F σ r v) (h : Same F F') : RvOk K F' σ r v := by
  cases r with
  | dat d => exact Dr.up q h
  | slot i => exact q
inductive RvsOk (K : PySem.W.Frag) (F : Hp) (σ : St) : List Rv → List V → Prop
  | nil : RvsOk K F σ [] []
  | cons {r : Rv} {v : V} {rs : List Rv} {vs : List V} : RvOk K F σ r v → RvsOk K F σ rs vs → RvsOk K F σ (r :: rs) (v :: vs)
theorem RvsOk.up {K : PySem.W.Frag} {F F' : Hp} {σ : St} (h : Same F F') : ∀ {rs : List Rv} {vs : List V}, RvsOk K F σ rs vs → RvsOk K F' σ rs vs
  | _, _, .nil => .nil
  | _, _, .cons a t => .cons (a.up h) (t.up h)

section
variable {K : PySem.W.Frag} {B : Base} {F : Hp} {ρ : Env} {σ : St} {H : Hp}
/-- a value is read as the heap stands -/
theorem Sim.look (S : Sim K B F ρ σ H) {r : Rv} {v : V} {d : D} (q : RvOk K F σ r v) (e : look ρ r = some d) : Dr K H v d := by
  cases r with
  | dat d' =>
    have e' : d' = d := Option.some.inj e
    subst e'
    exact Dr.up q S.f
  | slot i =>
    have q' : σ[i]? = some (some v) := q
    unfold DL.look at e
    simp only at e
    cases h : ρ[i]? with
    | none => rw [h] at e; cases e
    | some c =>
      rw [h] at e
      cases c with
      | none => cases e
      | some c =>
        cases c with
        | dat d' =>
          have e' : d' = d := Option.some.inj e
          subst e'
          obtain ⟨w, h1, h2⟩ := S.dat i d' h
          rw [q'] at h1; cases h1
          exact h2.up S.f
        | own o d' =>
          have e' : d' = d := Option.some.inj e
          subst e'
          obtain ⟨p, c, h1, h2, h3, _⟩ := S.mu i o d' h
          rw [q'] at h1; cases h1
          exact h3.dr S.f h2
/-- a list's items are data -/
theorem Sim.items (S : Sim K B F ρ σ H) {r : Rv} {v : V} {ds : List D} (q : RvOk K F σ r v) (e : DL.look ρ r = some (.list ds)) : ∃ p vs, v = .ref p ∧ SqL K H p vs ∧ DrAll K F vs ds := by
  cases r with
  | dat d' =>
    have e' : d' = .list ds := Option.some.inj e
    subst e'
    cases q with
    | lst a b => exact ⟨_, _, rfl, S.f.seq a, b⟩
  | slot i =>
    have q' : σ[i]? = some (some v) := q
    unfold DL.look at e
    simp only at e
    cases h : ρ[i]? with
    | none => rw [h] at e; cases e
    | some c =>
      rw [h] at e
      cases c with
      | none => cases e
      | some c =>
        cases c with
        | dat d' =>
          have e' : d' = .list ds := Option.some.inj e
          subst e'
          obtain ⟨w, h1, h2⟩ := S.dat i _ h
          rw [q'] at h1; cases h1
          cases h2 with
          | lst a b => exact ⟨_, _, rfl, S.f.seq a, b⟩
        | own o d' =>
          have e' : d' = .list ds := Option.some.inj e
          subst e'
          obtain ⟨p, c, h1, h2, h3, _⟩ := S.mu i o _ h
          rw [q'] at h1; cases h1
          obtain ⟨vs, rfl, h4⟩ := h3.list
          exact ⟨p, vs, rfl, SqL.of h2, h4⟩
/-- a tuple is data -/
theorem Sim.tuple (S : Sim K B F ρ σ H) {r : Rv} {v : V} {ds : List D} (q : RvOk K F σ r v) (e : DL.look ρ r = some (.tuple ds)) : ∃ p vs, v = .ref p ∧ SqT K F p vs ∧ DrAll K F vs ds := by
  cases r with
  | dat d' =>
    have e' : d' = .tuple ds := Option.some.inj e
    subst e'
    cases q with
    | tup a b => exact ⟨_, _, rfl, a, b⟩
  | slot i =>
    have q' : σ[i]? = some (some v) := q
    unfold DL.look at e
    simp only at e
    cases h : ρ[i]? with
    | none => rw [h] at e; cases e
    | some c =>
      rw [h] at e
      cases c with
      | none => cases e
      | some c =>
        cases c with
        | dat d' =>
          have e' : d' = .tuple ds := Option.some.inj e
          subst e'
          obtain ⟨w, h1, h2⟩ := S.dat i _ h
          rw [q'] at h1; cases h1
          cases h2 with
          | tup a b => exact ⟨_, _, rfl, a, b⟩
        | own o d' =>
          have e' : d' = .tuple ds := Option.some.inj e
          subst e'
          obtain ⟨p, c, h1, h2, h3, _⟩ := S.mu i o _ h
          cases c <;> exact False.elim h3

theorem Sim.free (S : Sim K B F ρ σ H) {p : Addr} (e : H p = none) : B.G p = none ∧ F p = none ∧ B.H p = none := by
  refine ⟨S.g.free e, S.f.free e, ?_⟩
  cases h : B.H p with
  | none => rfl
  | some o => exact absurd e (S.gr p (by rw [h]; simp))
theorem same_upd {H : Hp} {p : Addr} {o : HO} (h : H p = none) : Same H (upd H p o) := fun b x e => by
  rw [upd_ne (ne_of_none e h)]
  exact e
theorem upd_some {H : Hp} {p b : Addr} {o : HO} (h : H b ≠ none) : upd H p o b ≠ none := by
  by_cases e : b = p
  · subst e; rw [upd_same]; simp
  · rw [upd_ne e]; exact h
/-- a new object comes that is no slot's: it is tracked, no data yet -/
theorem Sim.fresh (S : Sim K B F ρ σ H) {p : Addr} {o : HO} (e : H p = none) : Sim K B F ρ σ (upd H p o) where
  g := S.g.trans (same_upd e)
  f := S.f.trans (same_upd e)
  bf := S.bf
  fr := S.fr
  gr := fun b h => upd_some (S.gr b h)
  len := S.len
  dat := S.dat
  mu := fun i ow d h => by
    obtain ⟨q, c, h1, h2, r⟩ := S.mu i ow d h
    exact ⟨q, c, h1, by rw [upd_ne (ne_of_none h2 e)]; exact h2, r⟩
  apart := S.apart
/-- an object that no slot changes becomes data -/
theorem Sim.frozen (S : Sim K B F ρ σ H) {p : Addr} {o : HO} (e : H p = some o) (f0 : F p = none) (h0 : B.H p = none) (hn : ∀ (i : Nat) (ow : Bool) (d : D), ρ[i]? = some (some (.own ow d)) → σ[i]? ≠ some (some (.ref p))) :
    Sim K B (upd F p o) ρ σ H where
  g := S.g
  f := fun b x h => by
    by_cases q : b = p
    · subst q; rw [upd_same] at h; cases h; exact e
    · rw [upd_ne q] at h; exact S.f b x h
  bf := S.bf.trans (same_upd f0)
  fr := fun b h => by
    by_cases q : b = p
    · subst q; exact .inr h0
    · rw [upd_ne q] at h; exact S.fr b h
  gr := S.gr
  len := S.len
  dat := fun i d h => by
    obtain ⟨v, h1, h2⟩ := S.dat i d h
    exact ⟨v, h1, h2.up (same_upd f0)⟩
  mu := fun i ow d h => by
    obtain ⟨q, c, h1, h2, h3, h4, h5, h6⟩ := S.mu i ow d h
    refine ⟨q, c, h1, h2, h3.up (same_upd f0), h4, ?_, h6⟩
    rw [upd_ne]
    · exact h5
    · rintro rfl
      exact hn i ow d h h1
  apart := S.apart
/-- a new object that is data at once -/
theorem Sim.made (S : Sim K B F ρ σ H) {p : Addr} {o : HO} (e : H p = none) : Sim K B (upd F p o) ρ σ (upd H p o) ∧ Same F (upd F p o) := by
  obtain ⟨_, f0, h0⟩ := S.free e
  refine ⟨(S.fresh e).frozen upd_same f0 h0 fun i ow d h q => ?_, same_upd f0⟩
  obtain ⟨p', c, h1, h2, _⟩ := S.mu i ow d h
  rw [h1] at q; cases q
  rw [h2] at e; cases e
theorem Sim.noslot (S : Sim K B F ρ σ H) {p : Addr} (e : H p = none) : ∀ (i : Nat) (ow : Bool) (d : D), ρ[i]? = some (some (.own ow d)) → σ[i]? ≠ some (some (.ref p)) := fun i ow d h q => by
  obtain ⟨p', c, h1, h2, _⟩ := S.mu i ow d h
  rw [h1] at q; cases q
  rw [h2] at e; cases e
end

/-! ### the judgements -/
def DrFs (K : PySem.W.Frag) (F : Hp) : List (Str × V) → List (Str × D) → Prop := Paired fun (a : Str × V) (b : Str × D) => a.1 = b.1 ∧ Dr K F a.2 b.2
/-- an exception as it lies: its class stands under its name, its own dict holds the fields -/
def ExcOk (K : PySem.W.Frag) (F H : Hp) (x : Exc) (cls : Value) (d : Option Addr) : Prop :=
  ∃ (C a : Addr) (fs : List (Str × V)), cls = .ref C ∧ PySem.W.nsIn K mainGlobals x.cls = some (some (.ref C)) ∧ d = some a ∧ F a = some (.xd fs) ∧ DrFs K F fs x.fs
/-- nothing may be raised -/
abbrev W0 : WX := fun _ _ _ _ => False
def XQ (K : PySem.W.Frag) (W : WX) (B : Base) (F : Hp) (σ : St) (x : Exc) (ρ' : Env) : Prop :=
  ∀ F' H' cls d, Same F F' → Sim K B F' ρ' σ H' → ExcOk K F' H' x cls d → W cls d σ H'
theorem XQ.up {K : PySem.W.Frag} {W : WX} {B : Base} {F F1 : Hp} {σ : St} {x : Exc} {ρ' : Env} (h : XQ K W B F σ x ρ') (s : Same F F1) : XQ K W B F1 σ x ρ' :=
  fun F' H' cls d hs S e => h F' H' cls d (s.trans hs) S e

abbrev Den (α : Type) := Env → Ans α
def tDE (K : PySem.W.Frag) (W : WX) (φ : Den Rv) : TE := fun σ H Q => ∃ B F ρ, Sim K B F ρ σ H ∧
  Wp (φ ρ) (fun r ρ' => ∀ F' v H', Same F F' → Sim K B F' ρ' σ H' → RvOk K F' σ r v → Q v H') (XQ K W B F σ)
/-- e is worth φ -/
def DE (X : Cx) (W : WX) (e : Expr) (φ : Den Rv) : Prop := PE X e (tDE X.K W φ)
def tDT (K : PySem.W.Frag) (W : WX) (φ : Den Bool) : TT := fun σ H Q => ∃ B F ρ, Sim K B F ρ σ H ∧
  Wp (φ ρ) (fun b ρ' => ∀ F' H', Same F F' → Sim K B F' ρ' σ H' → Q b H') (XQ K W B F σ)
def DT (X : Cx) (W : WX) (e : Expr) (φ : Den Bool) : Prop := PT X e (tDT X.K W φ)
def tDA (K : PySem.W.Frag) (W : WX) (φ : Den (List Rv)) : TA := fun σ H Q => ∃ B F ρ, Sim K B F ρ σ H ∧
  Wp (φ ρ) (fun rs ρ' => ∀ F' vs H', Same F F' → Sim K B F' ρ' σ H' → RvsOk K F' σ rs vs → Q vs H') (XQ K W B F σ)
def DA (X : Cx) (W : WX) (es : List Expr) (φ : Den (List Rv)) : Prop := PA X es (tDA X.K W φ)
/-- a new list or dict that nobody else holds -/
structure NewAt (K : PySem.W.Frag) (B : Base) (F : Hp) (ρ : Env) (σ : St) (H : Hp) (p : Addr) (d : D) : Prop where
  ct : ∃ c, H p = some c ∧ Cont K F c d
  f0 : F p = none
  g0 : B.G p = none
  h0 : B.H p = none
  ns : ∀ (i : Nat) (ow : Bool) (d : D), ρ[i]? = some (some (.own ow d)) → σ[i]? ≠ some (some (.ref p))
def tDN (K : PySem.W.Frag) (W : WX) (φ : Den D) : TE := fun σ H Q => ∃ B F ρ, Sim K B F ρ σ H ∧
  Wp (φ ρ) (fun d ρ' => ∀ F' p H', Same F F' → Sim K B F' ρ' σ H' → NewAt K B F' ρ' σ H' p d → Q (.ref p) H') (XQ K W B F σ)
def DN (X : Cx) (W : WX) (e : Expr) (φ : Den D) : Prop := PE X e (tDN X.K W φ)

inductive Rt where
  | dat (d : D)
  | own (d : D)
inductive Out where
  | next (ρ : Env)
  | ret (r : Rt) (ρ : Env)
  | brk (ρ : Env)
  | cont (ρ : Env)
  | exc (x : Exc) (ρ : Env)
  | bad
def RtOk (K : PySem.W.Frag) (B : Base) (F' : Hp) (H' : Hp) : Rt → V → Prop
  | .dat d, v => Dr K F' v d
  | .own d, v => ∃ p c, v = .ref p ∧ H' p = some c ∧ Cont K F' c d ∧ F' p = none ∧ B.G p = none ∧ B.H p = none
def SPost (K : PySem.W.Frag) (W : WX) (B : Base) (F : Hp) (Dd : Ends) : Out → Prop
  | .next ρ' => ∀ F' σ' H', Same F F' → Sim K B F' ρ' σ' H' → Dd.nx σ' H'
  | .brk ρ' => ∀ F' σ' H', Same F F' → Sim K B F' ρ' σ' H' → Dd.bk σ' H'
  | .cont ρ' => ∀ F' σ' H', Same F F' → Sim K B F' ρ' σ' H' → Dd.ct σ' H'
  | .ret r ρ' => ∀ F' σ' v H', Same F F' → Sim K B F' ρ' σ' H' → RtOk K B F' H' r v → Dd.rt v H'
  | .exc x ρ' => ∀ F' σ' H' cls d, Same F F' → Sim K B F' ρ' σ' H' → ExcOk K F' H' x cls d → W cls d σ' H'
  | .bad => False
theorem SPost.up {K : PySem.W.Frag} {W : WX} {B : Base} {F F1 : Hp} {Dd : Ends} {o : Out} (h : SPost K W B F Dd o) (s : Same F F1) : SPost K W B F1 Dd o := by
  cases o with
  | next ρ' => exact fun F' σ' H' hs S => h F' σ' H' (s.trans hs) S
  | brk ρ' => exact fun F' σ' H' hs S => h F' σ' H' (s.trans hs) S
  | cont ρ' => exact fun F' σ' H' hs S => h F' σ' H' (s.trans hs) S
  | ret r ρ' => exact fun F' σ' v H' hs S q => h F' σ' v H' (s.trans hs) S q
  | exc x ρ' => exact fun F' σ' H' cls d hs S q => h F' σ' H' cls d (s.trans hs) S q
  | bad => exact h
abbrev DenS := Env → Out
def tDS (K : PySem.W.Frag) (W : WX) (ψ : DenS) : TS := fun Dd σ H => ∃ B F ρ, Sim K B F ρ σ H ∧ SPost K W B F Dd (ψ ρ)
def DS (X : Cx) (W : WX) (st : Stmt) (ψ : DenS) : Prop := PS X st (tDS X.K W ψ)
def DSs (X : Cx) (W : WX) (st : List Stmt) (ψ : DenS) : Prop := PSs X st (tDS X.K W ψ)

section
variable {X : Cx}
theorem pe_imp {e : Expr} {t t' : TE} (h : PE X e t) (hi : ∀ σ H Q, t' σ H Q → t σ H Q) : PE X e t' := ⟨fun pins s σ H Q I q => h.run pins s σ H Q I (hi σ H Q q)⟩
theorem pt_imp {e : Expr} {t t' : TT} (h : PT X e t) (hi : ∀ σ H Q, t' σ H Q → t σ H Q) : PT X e t' := ⟨fun pins s σ H Q I q => h.run pins s σ H Q I (hi σ H Q q)⟩
theorem pw_imp {e : Expr} {t t' : TT} (h : PW X e t) (hi : ∀ σ H Q, t' σ H Q → t σ H Q) : PW X e t' := ⟨fun wh pins s σ H Q I q => h.run wh pins s σ H Q I (hi σ H Q q)⟩
theorem pa_imp {e : List Expr} {t t' : TA} (h : PA X e t) (hi : ∀ σ H Q, t' σ H Q → t σ H Q) : PA X e t' := ⟨fun pos pins s σ H Q I q => h.run pos pins s σ H Q I (hi σ H Q q)⟩
theorem ps_imp {e : Stmt} {t t' : TS} (h : PS X e t) (hi : ∀ D σ H, t' D σ H → t D σ H) : PS X e t' := ⟨fun pins s σ H D I q => h.run pins s σ H D I (hi D σ H q)⟩
theorem pss_imp {e : List Stmt} {t t' : TS} (h : PSs X e t) (hi : ∀ D σ H, t' D σ H → t D σ H) : PSs X e t' := ⟨fun pins s σ H D I q => h.run pins s σ H D I (hi D σ H q)⟩
end
/-- what a body's context must give -/
structure Cok (X : Cx) (W : WX) (k : Nat) : Prop where
  calm : X.calm = true
  nd : X.N.Nodup
  po : PassesOwn (model X.prog X.w) X.A X.env X.xe
  rm : Room k X.A
  gd : X.A.guards = some []
  tk : Takes X W
end DL


/-! D layer, 2: expressions. -/
namespace DL
open PySem PySem.Spec L2

section
variable {K : PySem.W.Frag} {B : Base} {F : Hp} {ρ : Env} {σ : St} {H : Hp} {r : Rv} {v : V}
theorem Sim.int (S : Sim K B F ρ σ H) {i : Int} (q : RvOk K F σ r v) (e : DL.look ρ r = some (.int i)) : v = .int i := by
  cases S.look q e; rfl
theorem Sim.str (S : Sim K B F ρ σ H) {i : Str} (q : RvOk K F σ r v) (e : DL.look ρ r = some (.str i)) : v = .str i := by
  cases S.look q e; rfl
theorem Sim.bool (S : Sim K B F ρ σ H) {i : Bool} (q : RvOk K F σ r v) (e : DL.look ρ r = some (.bool i)) : v = .bl i := by
  cases S.look q e; rfl
theorem Sim.nonV (S : Sim K B F ρ σ H) (q : RvOk K F σ r v) (e : DL.look ρ r = some .none) : v = .non := by
  cases S.look q e; rfl
end

/-! ### names, constants -/
def xName (i : Nat) : Den Rv := fun ρ => match ρ[i]? with
  | some (some (.dat d)) => .ok (.dat d) ρ
  | some (some (.own _ _)) => .ok (.slot i) ρ
  | _ => .bad
def xC (d : D) : Den Rv := fun ρ => .ok (.dat d) ρ
section
variable {X : Cx} {W : WX}
theorem de_name {i : Nat} {x : Str} {pos : Pos} (hN : X.N[i]? = some x := by rfl) (hv : Vis X.env.scope x := by first | exact Or.inl rfl | exact Or.inr (Or.inl rfl) | exact Or.inr (Or.inr rfl)) (hd : (x == ("__debug__" : Str)) = false := by decide)
    (hcd : (x == ("__classdict__" : Str)) = false := by decide) : DE X W (.Name x pos) (xName i) := by
  refine pe_imp (pe_var hN hv hd hcd) fun σ H Q h => ?_
  obtain ⟨B, F, ρ, S, w⟩ := h
  unfold xName at w
  cases e : ρ[i]? with
  | none => rw [e] at w; exact w.elim
  | some c =>
    rw [e] at w
    cases c with
    | none => exact w.elim
    | some c =>
      cases c with
      | dat d =>
        obtain ⟨v, h1, h2⟩ := S.dat i d e
        exact ⟨v, h1, w F v H (Same.refl F) S h2⟩
      | own o d =>
        obtain ⟨p, c, h1, _⟩ := S.mu i o d e
        exact ⟨.ref p, h1, w F _ H (Same.refl F) S h1⟩
theorem de_const {e : Expr} {v : V} {d : D} (h : PE X e (tC v)) (r : ∀ F, Dr X.K F v d) : DE X W e (xC d) := by
  refine pe_imp h fun σ H Q h => ?_
  obtain ⟨B, F, ρ, S, w⟩ := h
  exact w F v H (Same.refl F) S (r F)
theorem de_int {i j pos} : DE X W (.Constant (.int i) j pos) (xC (.int i)) := de_const pe_int fun _ => .int i
theorem de_bool {b j pos} : DE X W (.Constant (.bool b) j pos) (xC (.bool b)) := de_const pe_bl fun _ => .bl b
theorem de_none {j pos} : DE X W (.Constant .none j pos) (xC .none) := de_const pe_non fun _ => .non
theorem de_str {x j pos} : DE X W (.Constant (.str x) j pos) (xC (.str x)) := de_const pe_str fun _ => .str x
/-- a constant of the module -/
theorem de_glob {x : Str} {v : V} {u : Value} {d : D} {pos : Pos} (hg : Gl X x) (hm : X.mg x = some u) (r : RelV v u) (q : ∀ F, Dr X.K F v d) (hd : (x == ("__debug__" : Str)) = false := by decide) : DE X W (.Name x pos) (xC d) :=
  de_const (pe_glob hg hm r hd) q
end

/-! ### a slot's own object becomes data -/
def frz (r : Rv) (ρ : Env) : Ans D := match r with
  | .dat d => .ok d ρ
  | .slot i => match ρ[i]? with
    | some (some (.dat d)) => .ok d ρ
    | some (some (.own true d)) => .ok d (ρ.set i (some (.dat d)))
    | _ => .bad
@[simp] theorem frz_dat (d : D) (ρ : Env) : frz (.dat d) ρ = .ok d ρ := (rfl)
def xFrz (φ : Den Rv) : Den Rv := fun ρ => (φ ρ).bind fun r ρ1 => (frz r ρ1).bind fun d ρ2 => .ok (.dat d) ρ2
theorem Sim.freeze {K : PySem.W.Frag} {B : Base} {F : Hp} {ρ : Env} {σ : St} {H : Hp} (S : Sim K B F ρ σ H) {i : Nat} {d : D} (e : ρ[i]? = some (some (.own true d))) :
    ∃ F' v, Same F F' ∧ σ[i]? = some (some v) ∧ Dr K F' v d ∧ Sim K B F' (ρ.set i (some (.dat d))) σ H := by
  obtain ⟨p, c, h1, h2, h3, h4, h5, h6, _⟩ := S.mu i true d e
  have hi : i < ρ.length := (List.getElem?_eq_some_iff.mp e).1
  have so := same_upd (o := c) h5
  have dr : Dr K (upd F p c) (.ref p) d := h3.dr so upd_same
  refine ⟨upd F p c, .ref p, so, h1, dr, ?_⟩
  have back : ∀ (j : Nat) (o : Bool) (d' : D), (ρ.set i (some (.dat d)))[j]? = some (some (.own o d')) → j ≠ i ∧ ρ[j]? = some (some (.own o d')) := fun j o d' h => by
    by_cases q : j = i
    · subst q; rw [List.getElem?_set_self hi] at h; cases h
    · rw [List.getElem?_set_ne (Ne.symm q)] at h; exact ⟨q, h⟩
  exact {
    g := S.g
    f := fun b x h => by
      by_cases q : b = p
      · subst q; rw [upd_same] at h; cases h; exact h2
      · rw [upd_ne q] at h; exact S.f b x h
    bf := S.bf.trans so
    fr := fun b h => by
      by_cases q : b = p
      · subst q; exact .inr (h6 rfl)
      · rw [upd_ne q] at h; exact S.fr b h
    gr := S.gr
    len := by rw [List.length_set]; exact S.len
    dat := fun j d' h => by
      by_cases q : j = i
      · subst q
        rw [List.getElem?_set_self hi] at h
        cases h
        exact ⟨.ref p, h1, dr⟩
      · rw [List.getElem?_set_ne (Ne.symm q)] at h
        obtain ⟨v, a, b⟩ := S.dat j d' h
        exact ⟨v, a, b.up so⟩
    mu := fun j o d' h => by
      obtain ⟨q, h⟩ := back j o d' h
      obtain ⟨p', c', a1, a2, a3, a4, a5, a6⟩ := S.mu j o d' h
      refine ⟨p', c', a1, a2, a3.up so, a4, ?_, a6⟩
      rw [upd_ne]
      · exact a5
      · rintro rfl
        exact q (S.apart j i o true d' d p' h e a1 h1)
    apart := fun j k o o' d1 d2 q a b a1 b1 => S.apart j k o o' d1 d2 q (back j o d1 a).2 (back k o' d2 b).2 a1 b1 }
/-- freezing a value: what it is worth -/
theorem Sim.frz {K : PySem.W.Frag} {B : Base} {F : Hp} {ρ ρ2 : Env} {σ : St} {H : Hp} (S : Sim K B F ρ σ H) {r : Rv} {v : V} {d : D} (q : RvOk K F σ r v) (e : DL.frz r ρ = .ok d ρ2) : ∃ F', Same F F' ∧ Dr K F' v d ∧ Sim K B F' ρ2 σ H := by
  cases r with
  | dat d' => cases e; exact ⟨F, Same.refl F, q, S⟩
  | slot i =>
    have q' : σ[i]? = some (some v) := q
    unfold DL.frz at e
    simp only at e
    cases h : ρ[i]? with
    | none => rw [h] at e; cases e
    | some c =>
      rw [h] at e
      cases c with
      | none => cases e
      | some c =>
        cases c with
        | dat d' =>
          cases e
          obtain ⟨w, h1, h2⟩ := S.dat i _ h
          rw [q'] at h1; cases h1
          exact ⟨F, Same.refl F, h2, S⟩
        | own o d' =>
          cases o with
          | false => cases e
          | true =>
            cases e
            obtain ⟨F', w, s, h1, h2, S'⟩ := S.freeze h
            rw [q'] at h1; cases h1
            exact ⟨F', s, h2, S'⟩
theorem frz_exc {r : Rv} {ρ ρ' : Env} {x : Exc} : frz r ρ ≠ .exc x ρ' := by
  intro h
  cases r with
  | dat d => cases h
  | slot i =>
    unfold frz at h
    simp only at h
    cases e : ρ[i]? with
    | none => rw [e] at h; cases h
    | some c =>
      rw [e] at h
      cases c with
      | none => cases h
      | some c =>
        cases c with
        | dat d => cases h
        | own o d => cases o <;> cases h
theorem wp_frz {r : Rv} {ρ : Env} {P : D → Env → Prop} {E : Exc → Env → Prop} (h : Wp (frz r ρ) P E) : ∃ d ρ', frz r ρ = .ok d ρ' ∧ P d ρ' := by
  cases e : frz r ρ with
  | ok d ρ' => rw [e] at h; exact ⟨d, ρ', rfl, h⟩
  | exc x ρ' => exact absurd e frz_exc
  | bad => rw [e] at h; exact h.elim
section
variable {X : Cx} {W : WX}
theorem de_frz {e : Expr} {φ : Den Rv} (h : DE X W e φ) : DE X W e (xFrz φ) := by
  refine pe_imp h fun σ H Q hq => ?_
  obtain ⟨B, F, ρ, S, w⟩ := hq
  refine ⟨B, F, ρ, S, wp_mono (wp_bind w) (fun r ρ1 w1 F1 v H1 s1 S1 q1 => ?_) fun _ _ z => z⟩
  obtain ⟨d, ρ2, e2, w2⟩ := wp_frz (wp_mono (wp_bind w1) (fun _ _ z => z) fun _ _ z => z)
  obtain ⟨F2, s2, r2, S2⟩ := S1.frz q1 e2
  exact w2 F2 v H1 (s1.trans s2) S2 r2
end

/-! ### two-place operations -/
def S2 (K : PySem.W.Frag) (r : R2) (op : D → D → Option D) : Prop :=
  ∀ (B : Base) (F : Hp) (ρ : Env) (σ : St) (H : Hp) (x y : V) (a b : Rv) (da db dz : D) (Q : VK), Sim K B F ρ σ H → RvOk K F σ a x → RvOk K F σ b y → look ρ a = some da → look ρ b = some db → op da db = some dz →
    (∀ F' v H', Same F F' → Sim K B F' ρ σ H' → Dr K F' v dz → Q v H') → r x y H Q
theorem S2.or {K : PySem.W.Frag} {r r' : R2} {op op' : D → D → Option D} (h : S2 K r op) (h' : S2 K r' op') : S2 K (fun x y H Q => r x y H Q ∨ r' x y H Q) (fun a b => (op a b).or (op' a b)) := by
  intro B F ρ σ H x y a b da db dz Q S ra rb ea eb e q
  have e : (op da db).or (op' da db) = some dz := e
  cases e1 : op da db with
  | some z =>
    rw [e1] at e
    have e2 : z = dz := Option.some.inj e
    subst e2
    exact .inl (h B F ρ σ H x y a b da db z Q S ra rb ea eb e1 q)
  | none =>
    rw [e1] at e
    exact .inr (h' B F ρ σ H x y a b da db dz Q S ra rb ea eb e q)
def looks (ρ : Env) : List Rv → Option (List D)
  | [] => some []
  | r :: rs => match look ρ r, looks ρ rs with
    | some d, some ds => some (d :: ds)
    | _, _ => none
@[simp] theorem looks_nil (ρ : Env) : looks ρ [] = some [] := (rfl)
@[simp] theorem looks_dat (ρ : Env) (d : D) (rs : List Rv) : looks ρ (.dat d :: rs) = (looks ρ rs).map (d :: ·) := by
  show (match some d, looks ρ rs with | some d, some ds => some (d :: ds) | _, _ => none) = _
  cases looks ρ rs <;> rfl
theorem looks_cons {ρ : Env} {r : Rv} {rs : List Rv} {ds : List D} (h : looks ρ (r :: rs) = some ds) : ∃ d ds', ds = d :: ds' ∧ look ρ r = some d ∧ looks ρ rs = some ds' := by
  unfold looks at h
  cases e : look ρ r with
  | none => rw [e] at h; cases h
  | some d =>
    rw [e] at h
    cases e2 : looks ρ rs with
    | none => rw [e2] at h; cases h
    | some ds' => rw [e2] at h; cases h; exact ⟨d, ds', rfl, rfl, rfl⟩
def appl2 (op : D → D → Option D) (a b : Rv) (ρ : Env) : Ans Rv := match look ρ a, look ρ b with
  | some x, some y => match op x y with
    | some z => .ok (.dat z) ρ
    | none => .bad
  | _, _ => .bad
@[simp] theorem appl2_dat (op : D → D → Option D) (a b : D) (ρ : Env) : appl2 op (.dat a) (.dat b) ρ = match op a b with | some z => .ok (.dat z) ρ | none => .bad := (rfl)
theorem wp_appl2 {op : D → D → Option D} {a b : Rv} {ρ : Env} {P : Rv → Env → Prop} {E : Exc → Env → Prop} (h : Wp (appl2 op a b ρ) P E) : ∃ x y z, look ρ a = some x ∧ look ρ b = some y ∧ op x y = some z ∧ P (.dat z) ρ := by
  unfold appl2 at h
  cases e1 : look ρ a with
  | none => rw [e1] at h; exact h.elim
  | some x =>
    cases e2 : look ρ b with
    | none => rw [e1, e2] at h; exact h.elim
    | some y =>
      rw [e1, e2] at h
      simp only at h
      cases e3 : op x y with
      | none => rw [e3] at h; exact h.elim
      | some z => rw [e3] at h; exact ⟨x, y, z, rfl, rfl, e3, h⟩
def xOp (op : D → D → Option D) (φ ψ : Den Rv) : Den Rv := fun ρ => (φ ρ).bind fun a ρ1 => (ψ ρ1).bind fun b ρ2 => appl2 op a b ρ2
section
variable {X : Cx} {W : WX}
theorem top_sound {r : R2} {op : D → D → Option D} (hs : S2 X.K r op) {φ ψ : Den Rv} {σ : St} {H : Hp} {Q : VK} (h : tDE X.K W (xOp op φ ψ) σ H Q) : tOp r (tDE X.K W φ) (tDE X.K W ψ) σ H Q := by
  obtain ⟨B, F, ρ, S, w⟩ := h
  refine ⟨B, F, ρ, S, wp_mono (wp_bind w) (fun a ρ1 w1 F1 x H1 s1 S1 q1 => ?_) fun _ _ z => z⟩
  refine ⟨B, F1, ρ1, S1, wp_mono (wp_bind w1) (fun b ρ2 w2 F2 y H2 s2 S2 q2 => ?_) fun _ _ z => z.up s1⟩
  obtain ⟨da, db, dz, e1, e2, e3, w3⟩ := wp_appl2 w2
  exact hs B F2 ρ2 σ H2 x y a b da db dz Q S2 (q1.up s2) q2 e1 e2 e3 fun F3 v H3 s3 S3 r3 => w3 F3 v H3 ((s1.trans s2).trans s3) S3 r3
theorem de_op {op : Operator} {r : R2} {g : D → D → Option D} {a b : Expr} {pos : Pos} {φ ψ : Den Rv} (ho : OpR X (binaryOp op) r) (hs : S2 X.K r g) (ha : DE X W a φ) (hb : DE X W b ψ) : DE X W (.BinOp a op b pos) (xOp g φ ψ) :=
  pe_imp (pe_op ho ha hb) fun _ _ _ h => top_sound hs h
theorem de_cmp {op : CmpOp} {r : R2} {g : D → D → Option D} {a b : Expr} {pos : Pos} {φ ψ : Den Rv} (ho : OpR X (compareOp op) r) (hs : S2 X.K r g) (ha : DE X W a φ) (hb : DE X W b ψ) (hm : behindInMarks op b = false) : DE X W (.Compare a [op] [b] pos) (xOp g φ ψ) :=
  pe_imp (pe_cmpR ho ha hb hm) fun _ _ _ h => top_sound hs h
end

/-! ### ints -/
def gAdd : D → D → Option D
  | .int i, .int j => some (.int (i + j))
  | .str x, .str y => if x.length + y.length ≤ sizeLine then some (.str (x ++ y)) else none
  | .tuple xs, .tuple ys => if xs.length + ys.length ≤ sizeLine then some (.tuple (xs ++ ys)) else none
  | _, _ => none
def gSub : D → D → Option D
  | .int i, .int j => some (.int (i - j))
  | _, _ => none
def gMul : D → D → Option D
  | .int i, .int j => if -(2 ^ 64) < i ∧ i < 2 ^ 64 ∨ -(2 ^ 64) < j ∧ j < 2 ^ 64 then some (.int (i * j)) else none
  | _, _ => none
def gMod : D → D → Option D
  | .int i, .int j => if 0 < j then some (.int (i % j)) else none
  | _, _ => none
def gDiv : D → D → Option D
  | .int i, .int j => if 0 < j ∧ j < 1073741824 then some (.int (i / j)) else none
  | _, _ => none
def gPow : D → D → Option D
  | .int i, .int j => if 0 ≤ j ∧ j ≤ 1000000 ∧ i.natAbs < 2 ^ 64 then some (.int (i ^ j.toNat)) else none
  | _, _ => none
section
variable {X : Cx} {K : PySem.W.Frag}
theorem s2_rI {C : Int → Int → Prop} {g : Int → Int → V} {op : D → D → Option D}
    (h : ∀ da db dz, op da db = some dz → ∃ i j, da = .int i ∧ db = .int j ∧ C i j ∧ ∀ F, Dr K F (g i j) dz) : S2 K (rI C g) op := by
  intro B F ρ σ H x y a b da db dz Q S ra rb ea eb e q
  obtain ⟨i, j, rfl, rfl, hc, hd⟩ := h _ _ _ e
  exact ⟨i, j, S.int ra ea, S.int rb eb, hc, q F _ H (Same.refl F) S (hd F)⟩
theorem s2_rI0 {g : Int → Int → V} {op : D → D → Option D}
    (h : ∀ da db dz, op da db = some dz → ∃ i j, da = .int i ∧ db = .int j ∧ ∀ F, Dr K F (g i j) dz) : S2 K (rI0 g) op := by
  intro B F ρ σ H x y a b da db dz Q S ra rb ea eb e q
  obtain ⟨i, j, rfl, rfl, hd⟩ := h _ _ _ e
  exact ⟨i, j, S.int ra ea, S.int rb eb, q F _ H (Same.refl F) S (hd F)⟩
theorem if_some {α : Type} {c : Prop} [Decidable c] {a b : α} (h : (if c then some a else none) = some b) : c ∧ a = b := by
  by_cases hc : c
  · rw [if_pos hc] at h; exact ⟨hc, Option.some.inj h⟩
  · rw [if_neg hc] at h; cases h
theorem s2_sub : S2 K (rI0 fun i j => .int (i - j)) gSub := s2_rI0 fun da db dz e => by
  cases da <;> cases db <;> simp only [gSub, reduceCtorEq, Option.some.injEq] at e
  subst e
  exact ⟨_, _, rfl, rfl, fun _ => .int _⟩
theorem s2_mul : S2 K (rI CMul fun i j => .int (i * j)) gMul := s2_rI fun da db dz e => by
  cases da <;> cases db <;> simp only [gMul, reduceCtorEq] at e
  obtain ⟨hc, e⟩ := if_some e
  subst e
  exact ⟨_, _, rfl, rfl, hc, fun _ => .int _⟩
theorem s2_mod : S2 K (rI (fun _ j => 0 < j) fun i j => .int (i % j)) gMod := s2_rI fun da db dz e => by
  cases da <;> cases db <;> simp only [gMod, reduceCtorEq] at e
  obtain ⟨hc, e⟩ := if_some e
  subst e
  exact ⟨_, _, rfl, rfl, hc, fun _ => .int _⟩
theorem s2_div : S2 K (rI CDiv fun i j => .int (i / j)) gDiv := s2_rI fun da db dz e => by
  cases da <;> cases db <;> simp only [gDiv, reduceCtorEq] at e
  obtain ⟨hc, e⟩ := if_some e
  subst e
  exact ⟨_, _, rfl, rfl, hc, fun _ => .int _⟩
theorem s2_pow : S2 K (rI CPow fun i j => .int (i ^ j.toNat)) gPow := s2_rI fun da db dz e => by
  cases da <;> cases db <;> simp only [gPow, reduceCtorEq] at e
  obtain ⟨hc, e⟩ := if_some e
  subst e
  exact ⟨_, _, rfl, rfl, hc, fun _ => .int _⟩
/-- a new tuple at p -/
theorem Sim.newTup {B : Base} {F : Hp} {ρ : Env} {σ : St} {H : Hp} (S : Sim K B F ρ σ H) {p : Addr} {vs : List V} {ds : List D} (e : H p = none) (r : DrAll K F vs ds) {Q : VK} {dz : D} (hz : dz = .tuple ds)
    (q : ∀ F' v H', Same F F' → Sim K B F' ρ σ H' → Dr K F' v dz → Q v H') : Q (.ref p) (upd H p (.tup vs)) := by
  subst hz
  obtain ⟨S', s⟩ := S.made (o := .tup vs) e
  exact q _ _ _ s S' (.tup (SqT.of upd_same) (r.up s))
theorem Sim.newLst {B : Base} {F : Hp} {ρ : Env} {σ : St} {H : Hp} (S : Sim K B F ρ σ H) {p : Addr} {vs : List V} {ds : List D} (e : H p = none) (r : DrAll K F vs ds) {Q : VK} {dz : D} (hz : dz = .list ds)
    (q : ∀ F' v H', Same F F' → Sim K B F' ρ σ H' → Dr K F' v dz → Q v H') : Q (.ref p) (upd H p (.lst vs)) := by
  subst hz
  obtain ⟨S', s⟩ := S.made (o := .lst vs) e
  exact q _ _ _ s S' (.lst (SqL.of upd_same) (r.up s))
theorem Sim.dr_tuple {B : Base} {F : Hp} {ρ : Env} {σ : St} {H : Hp} (S : Sim K B F ρ σ H) {r : Rv} {v : V} {ds : List D} (q : RvOk K F σ r v) (e : DL.look ρ r = some (.tuple ds)) : Dr K F v (.tuple ds) := by
  obtain ⟨p, vs, rfl, h1, h2⟩ := S.tuple q e
  exact .tup h1 h2

def rAdd (K : PySem.W.Frag) : R2 := fun x y H Q => (rI0 (fun i j => .int (i + j)) x y H Q ∨ (∃ i j, x = .str i ∧ y = .str j ∧ i.length + j.length ≤ sizeLine ∧ Q (.str (i ++ j)) H)) ∨ rCatA K x y H Q
theorem op_addA : OpR X (binaryOp .Add) (rAdd X.K) := OpR.or (OpR.or op_add op_add_str) op_catA
theorem s2_add : S2 K (rAdd K) gAdd := by
  intro B F ρ σ H x y a b da db dz Q S ra rb ea eb e q
  cases da <;> cases db <;> simp only [gAdd, reduceCtorEq] at e
  · cases e
    exact .inl (.inl ⟨_, _, S.int ra ea, S.int rb eb, q F _ H (Same.refl F) S (.int _)⟩)
  · obtain ⟨hc, e⟩ := if_some e
    subst e
    exact .inl (.inr ⟨_, _, S.str ra ea, S.str rb eb, hc, q F _ H (Same.refl F) S (.str _)⟩)
  · obtain ⟨hc, e⟩ := if_some e
    obtain ⟨p, vs, rfl, h1, h2⟩ := S.tuple ra ea
    obtain ⟨p', us, rfl, g1, g2⟩ := S.tuple rb eb
    refine .inr ⟨p, p', vs, us, rfl, rfl, sqT_mono S.f h1, sqT_mono S.f g1, by rw [h2.length, g2.length]; exact hc, fun z => ?_, fun _ z => ?_, fun _ _ p2 n => ?_⟩
    · subst z
      cases h2
      subst e
      exact q F _ H (Same.refl F) S (.tup g1 g2)
    · subst z
      cases g2
      rw [List.append_nil] at e
      subst e
      exact q F _ H (Same.refl F) S (.tup h1 h2)
    · exact S.newTup n (h2.append g2) e.symm q
/-- lists one behind the other (a new one; both tracked) -/
def gCat : D → D → Option D
  | .list xs, .list ys => if xs.length + ys.length ≤ sizeLine then some (.list (xs ++ ys)) else none
  | _, _ => none
end

/-! ### comparisons -/
def gEq (a b : D) : Option D := if SeqAt.shaped a ∧ SeqAt.shaped b then some (.bool (PyData.eqv a b)) else none
def gNe (a b : D) : Option D := if SeqAt.shaped a ∧ SeqAt.shaped b then some (.bool (!PyData.eqv a b)) else none
section
variable {X : Cx} {K : PySem.W.Frag}
mutual
theorem Dr.dp {F : Hp} : ∀ (d : D) (v : V), d.canLay0 = true → Dr K F v d → Dp K F v d
  | .none, _, _, q => by cases q; exact .non
  | .bool b, _, _, q => by cases q; exact .bl b
  | .int i, _, _, q => by cases q; exact .int i
  | .str x, _, _, q => by cases q; exact .str x
  | .list ds, _, h, q => by cases q with | lst a b => exact .lst a (DrAll.dp ds _ (by simpa [PyData.canLay0] using h) b)
  | .tuple ds, _, h, q => by cases q with | tup a b => exact .tup a (DrAll.dp ds _ (by simpa [PyData.canLay0] using h) b)
  | .dict es, _, h, q => by simp [PyData.canLay0] at h
theorem DrAll.dp {F : Hp} : ∀ (ds : List D) (vs : List V), PyData.canLayAll0 ds = true → DrAll K F vs ds → DpAll K F vs ds
  | [], _, _, q => by cases q; exact .nil
  | d :: ds, _, h, q => by
    have h' : d.canLay0 = true ∧ PyData.canLayAll0 ds = true := by simpa [PyData.canLayAll0] using h
    cases q with | cons a b => exact .cons (Dr.dp d _ h'.1 a) (DrAll.dp ds _ h'.2 b)
end
theorem s2_eq : S2 K (rEqD K) gEq := by
  intro B F ρ σ H x y a b da db dz Q S ra rb ea eb e q
  obtain ⟨⟨s1, s2⟩, e⟩ := if_some e
  subst e
  exact ⟨da, db, Dr.dp _ _ (SeqAt.canLay_of_shaped s1) (S.look ra ea), Dr.dp _ _ (SeqAt.canLay_of_shaped s2) (S.look rb eb), s1, s2, q F _ H (Same.refl F) S (.bl _)⟩
theorem s2_ne : S2 K (rNeD K) gNe := by
  intro B F ρ σ H x y a b da db dz Q S ra rb ea eb e q
  obtain ⟨⟨s1, s2⟩, e⟩ := if_some e
  subst e
  exact ⟨da, db, Dr.dp _ _ (SeqAt.canLay_of_shaped s1) (S.look ra ea), Dr.dp _ _ (SeqAt.canLay_of_shaped s2) (S.look rb eb), s1, s2, q F _ H (Same.refl F) S (.bl _)⟩
/-- orders of ints and texts -/
def gLt : D → D → Option D
  | .int i, .int j => some (.bool (decide (i < j)))
  | .str i, .str j => some (.bool (decide (i.cps.toList < j.cps.toList)))
  | _, _ => none
def gLe : D → D → Option D
  | .int i, .int j => some (.bool (decide (i ≤ j)))
  | .str i, .str j => some (.bool (!decide (j.cps.toList < i.cps.toList)))
  | _, _ => none
def gGt : D → D → Option D
  | .int i, .int j => some (.bool (decide (j < i)))
  | .str i, .str j => some (.bool (decide (j.cps.toList < i.cps.toList)))
  | _, _ => none
def gGe : D → D → Option D
  | .int i, .int j => some (.bool (decide (j ≤ i)))
  | .str i, .str j => some (.bool (!decide (i.cps.toList < j.cps.toList)))
  | _, _ => none
abbrev rStr (g : Str → Str → V) : R2 := fun x y H Q => ∃ i j, x = .str i ∧ y = .str j ∧ Q (g i j) H
theorem s2_ord {gi : Int → Int → Bool} {gs : Str → Str → Bool} {op : D → D → Option D}
    (h : ∀ da db dz, op da db = some dz → (∃ i j, da = .int i ∧ db = .int j ∧ dz = .bool (gi i j)) ∨ (∃ i j, da = .str i ∧ db = .str j ∧ dz = .bool (gs i j))) :
    S2 K (fun x y H Q => rI0 (fun i j => .bl (gi i j)) x y H Q ∨ rStr (fun i j => .bl (gs i j)) x y H Q) op := by
  intro B F ρ σ H x y a b da db dz Q S ra rb ea eb e q
  rcases h _ _ _ e with ⟨i, j, rfl, rfl, rfl⟩ | ⟨i, j, rfl, rfl, rfl⟩
  · exact .inl ⟨i, j, S.int ra ea, S.int rb eb, q F _ H (Same.refl F) S (.bl _)⟩
  · exact .inr ⟨i, j, S.str ra ea, S.str rb eb, q F _ H (Same.refl F) S (.bl _)⟩
theorem op_ltA : OpR X (compareOp .Lt) (fun x y H Q => rI0 (fun i j => .bl (decide (i < j))) x y H Q ∨ rStr (fun i j => .bl (decide (i.cps.toList < j.cps.toList))) x y H Q) := OpR.or op_lt op_lt_str
theorem op_leA : OpR X (compareOp .LtE) (fun x y H Q => rI0 (fun i j => .bl (decide (i ≤ j))) x y H Q ∨ rStr (fun i j => .bl (!decide (j.cps.toList < i.cps.toList))) x y H Q) := OpR.or op_le op_le_str
theorem op_gtA : OpR X (compareOp .Gt) (fun x y H Q => rI0 (fun i j => .bl (decide (j < i))) x y H Q ∨ rStr (fun i j => .bl (decide (j.cps.toList < i.cps.toList))) x y H Q) := OpR.or op_gt op_gt_str
theorem op_geA : OpR X (compareOp .GtE) (fun x y H Q => rI0 (fun i j => .bl (decide (j ≤ i))) x y H Q ∨ rStr (fun i j => .bl (!decide (i.cps.toList < j.cps.toList))) x y H Q) := OpR.or op_ge op_ge_str
theorem s2_lt : S2 K (fun x y H Q => rI0 (fun i j => .bl (decide (i < j))) x y H Q ∨ rStr (fun i j => .bl (decide (i.cps.toList < j.cps.toList))) x y H Q) gLt := s2_ord fun da db dz e => by
  cases da <;> cases db <;> simp only [gLt, reduceCtorEq] at e <;> cases e
  · exact .inl ⟨_, _, rfl, rfl, rfl⟩
  · exact .inr ⟨_, _, rfl, rfl, rfl⟩
theorem s2_le : S2 K (fun x y H Q => rI0 (fun i j => .bl (decide (i ≤ j))) x y H Q ∨ rStr (fun i j => .bl (!decide (j.cps.toList < i.cps.toList))) x y H Q) gLe := s2_ord fun da db dz e => by
  cases da <;> cases db <;> simp only [gLe, reduceCtorEq] at e <;> cases e
  · exact .inl ⟨_, _, rfl, rfl, rfl⟩
  · exact .inr ⟨_, _, rfl, rfl, rfl⟩
theorem s2_gt : S2 K (fun x y H Q => rI0 (fun i j => .bl (decide (j < i))) x y H Q ∨ rStr (fun i j => .bl (decide (j.cps.toList < i.cps.toList))) x y H Q) gGt := s2_ord fun da db dz e => by
  cases da <;> cases db <;> simp only [gGt, reduceCtorEq] at e <;> cases e
  · exact .inl ⟨_, _, rfl, rfl, rfl⟩
  · exact .inr ⟨_, _, rfl, rfl, rfl⟩
theorem s2_ge : S2 K (fun x y H Q => rI0 (fun i j => .bl (decide (j ≤ i))) x y H Q ∨ rStr (fun i j => .bl (!decide (i.cps.toList < j.cps.toList))) x y H Q) gGe := s2_ord fun da db dz e => by
  cases da <;> cases db <;> simp only [gGe, reduceCtorEq] at e <;> cases e
  · exact .inl ⟨_, _, rfl, rfl, rfl⟩
  · exact .inr ⟨_, _, rfl, rfl, rfl⟩
/-- is None -/
def isNone : D → Bool
  | .none => true
  | _ => false
def gIsN (neg : Bool) (a b : D) : Option D := if isNone b then some (.bool (if neg then !isNone a else isNone a)) else none
theorem isNone_of {F : Hp} {v : V} {d : D} (h : Dr K F v d) : decide (v = .non) = isNone d := by
  cases h <;> simp [isNone]
theorem s2_isN : S2 K (fun x y H Q => y = .non ∧ Q (.bl (decide (x = .non))) H) (gIsN false) := by
  intro B F ρ σ H x y a b da db dz Q S ra rb ea eb e q
  obtain ⟨h, e⟩ := if_some e
  subst e
  have hb : db = .none := by cases db <;> first | rfl | cases h
  subst hb
  refine ⟨S.nonV rb eb, ?_⟩
  rw [isNone_of (S.look ra ea)]
  exact q F _ H (Same.refl F) S (.bl _)
theorem s2_notN : S2 K (fun x y H Q => y = .non ∧ Q (.bl (!decide (x = .non))) H) (gIsN true) := by
  intro B F ρ σ H x y a b da db dz Q S ra rb ea eb e q
  obtain ⟨h, e⟩ := if_some e
  subst e
  have hb : db = .none := by cases db <;> first | rfl | cases h
  subst hb
  refine ⟨S.nonV rb eb, ?_⟩
  rw [isNone_of (S.look ra ea)]
  exact q F _ H (Same.refl F) S (.bl _)
end
end DL


/-! D layer, 3: tests, displays, built-ins, subscripts. -/
namespace DL
open PySem PySem.Spec L2

/-! ### tests -/
def bit (r : Rv) (ρ : Env) : Ans Bool := match look ρ r with
  | some (.bool b) => .ok b ρ
  | _ => .bad
@[simp] theorem bit_dat (b : Bool) (ρ : Env) : bit (.dat (.bool b)) ρ = .ok b ρ := (rfl)
theorem wp_bit {r : Rv} {ρ : Env} {P : Bool → Env → Prop} {E : Exc → Env → Prop} (h : Wp (bit r ρ) P E) : ∃ b, look ρ r = some (.bool b) ∧ P b ρ := by
  unfold bit at h
  cases e : look ρ r with
  | none => rw [e] at h; exact h.elim
  | some d =>
    rw [e] at h
    cases d <;> first | exact h.elim | exact ⟨_, rfl, h⟩
def xTest (φ : Den Rv) : Den Bool := fun ρ => (φ ρ).bind bit
def truth : D → Option Bool
  | .none => some false
  | .bool b => some b
  | .int i => some (i != 0)
  | .str x => if x.length ≤ sizeLine then some ((x.length : Int) != 0) else none
  | .list xs => some (!xs.isEmpty)
  | .tuple xs => some (!xs.isEmpty)
  | .dict _ => none
def truthy' (r : Rv) (ρ : Env) : Ans Bool := match look ρ r with
  | some d => ofO (truth d) ρ
  | none => .bad
@[simp] theorem truthy'_dat (d : D) (ρ : Env) : truthy' (.dat d) ρ = ofO (truth d) ρ := (rfl)
theorem wp_truthy {r : Rv} {ρ : Env} {P : Bool → Env → Prop} {E : Exc → Env → Prop} (h : Wp (truthy' r ρ) P E) : ∃ d b, look ρ r = some d ∧ truth d = some b ∧ P b ρ := by
  unfold truthy' at h
  cases e : look ρ r with
  | none => rw [e] at h; exact h.elim
  | some d =>
    rw [e] at h
    obtain ⟨b, h1, h2⟩ := wp_ofO h
    exact ⟨d, b, rfl, h1, h2⟩
def xTruth (φ : Den Rv) : Den Bool := fun ρ => (φ ρ).bind truthy'
theorem truth_ok {K : PySem.W.Frag} {H : Hp} {v : V} {d : D} {b : Bool} (q : Dr K H v d) (e : truth d = some b) : TruV K v H b := by
  cases q with
  | non => cases e; rfl
  | bl b => cases e; rfl
  | int i => cases e; rfl
  | str x =>
    obtain ⟨h, e⟩ := if_some e
    exact ⟨h, e.symm⟩
  | lst a t =>
    cases e
    refine .inl ⟨_, a, ?_⟩
    cases t <;> rfl
  | tup a t =>
    cases e
    refine .inr (.inl ⟨_, a, ?_⟩)
    cases t <;> rfl
  | dic a t => cases e
def xNot (φ : Den Bool) : Den Bool := fun ρ => (φ ρ).bind fun b ρ1 => .ok (!b) ρ1
def xAnd (φ ψ : Den Bool) : Den Bool := fun ρ => (φ ρ).bind fun b ρ1 => if b = true then ψ ρ1 else .ok false ρ1
def xOr (φ ψ : Den Bool) : Den Bool := fun ρ => (φ ρ).bind fun b ρ1 => if b = true then .ok true ρ1 else ψ ρ1
/-- a and b, a or b, the first a bool; not a -/
def xAndV (φ ψ : Den Rv) : Den Rv := fun ρ => (φ ρ).bind fun a ρ1 => (bit a ρ1).bind fun b ρ2 => if b = true then ψ ρ2 else .ok (.dat (.bool false)) ρ2
def xOrV (φ ψ : Den Rv) : Den Rv := fun ρ => (φ ρ).bind fun a ρ1 => (bit a ρ1).bind fun b ρ2 => if b = true then .ok (.dat (.bool true)) ρ2 else ψ ρ2
def xNotV (φ : Den Rv) : Den Rv := fun ρ => (φ ρ).bind fun a ρ1 => (truthy' a ρ1).bind fun b ρ2 => .ok (.dat (.bool (!b))) ρ2
def xIf (c : Den Bool) (φ ψ : Den Rv) : Den Rv := fun ρ => (c ρ).bind fun b ρ1 => if b = true then φ ρ1 else ψ ρ1
section
variable {X : Cx} {W : WX} {a b c e : Expr} {pos : Pos} {φ ψ : Den Rv} {β γ : Den Bool} {rest : List Expr}
theorem dt_val (h : DE X W e φ) (he : ∀ whole, isTrue e X.env whole = (do let v ← whole; standAt e.pos; holding [v] (truthy v)) := by intro _; rfl) : DT X W e (xTest φ) := by
  refine pt_imp (pt_val h he) fun σ H Q hq => ?_
  obtain ⟨B, F, ρ, S, w⟩ := hq
  refine ⟨B, F, ρ, S, wp_mono (wp_bind w) (fun r ρ1 w1 F1 v H1 s1 S1 q1 => ?_) fun _ _ z => z⟩
  obtain ⟨b, e1, w2⟩ := wp_bit w1
  exact ⟨b, S1.bool q1 e1, w2 F1 H1 s1 S1⟩
theorem dt_truth (h : DE X W e φ) (he : ∀ whole, isTrue e X.env whole = (do let v ← whole; standAt e.pos; holding [v] (truthy v)) := by intro _; rfl) : DT X W e (xTruth φ) := by
  refine pt_imp (pt_truth h he) fun σ H Q hq => ?_
  obtain ⟨B, F, ρ, S, w⟩ := hq
  refine ⟨B, F, ρ, S, wp_mono (wp_bind w) (fun r ρ1 w1 F1 v H1 s1 S1 q1 => ?_) fun _ _ z => z⟩
  obtain ⟨d, b, e1, e2, w2⟩ := wp_truthy w1
  exact ⟨b, truth_ok (S1.look q1 e1) e2, w2 F1 H1 s1 S1⟩
theorem ttest_sound {t : TE} {σ : St} {H : Hp} {Q : Bool → Hp → Prop} (ht : ∀ Q, tDE X.K W φ σ H Q → t σ H Q) (h : tDT X.K W (xTest φ) σ H Q) : tTest t σ H Q := by
  refine ht _ ?_
  obtain ⟨B, F, ρ, S, w⟩ := h
  refine ⟨B, F, ρ, S, wp_mono (wp_bind w) (fun r ρ1 w1 F1 v H1 s1 S1 q1 => ?_) fun _ _ z => z⟩
  obtain ⟨b, e1, w2⟩ := wp_bit w1
  exact ⟨b, S1.bool q1 e1, w2 F1 H1 s1 S1⟩
theorem dt_cmp {op : CmpOp} {r : R2} {g : D → D → Option D} (ho : OpR X (compareOp op) r) (hs : S2 X.K r g) (ha : DE X W a φ) (hb : DE X W b ψ) (hm : behindInMarks op b = false) : DT X W (.Compare a [op] [b] pos) (xTest (xOp g φ ψ)) :=
  pt_imp (pt_cmpR ho ha hb hm) fun _ _ _ h => ttest_sound (fun _ h => top_sound hs h) h
theorem dt_not (h : DT X W a β) : DT X W (.UnaryOp .Not a pos) (xNot β) := by
  refine pt_imp (pt_not h) fun σ H Q hq => ?_
  obtain ⟨B, F, ρ, S, w⟩ := hq
  exact ⟨B, F, ρ, S, wp_mono (wp_bind w) (fun r ρ1 w1 F1 H1 s1 S1 => w1 F1 H1 s1 S1) fun _ _ z => z⟩
/-- chains of and, or -/
def DW (X : Cx) (W : WX) (e : Expr) (φ : Den Bool) : Prop := PW X e (tDT X.K W φ)
theorem DW.dt (h : DW X W e β) : DT X W e β := PW.pt h
theorem dw_and1 (h : DT X W a β) : DW X W (.BoolOp .And [a] pos) β := pw_and1 h
theorem dw_or1 (h : DT X W a β) : DW X W (.BoolOp .Or [a] pos) β := pw_or1 h
theorem dw_and (ha : DT X W a β) (hb : DW X W (.BoolOp .And (b :: rest) pos) γ) : DW X W (.BoolOp .And (a :: b :: rest) pos) (xAnd β γ) := by
  refine pw_imp (pw_and ha hb) fun σ H Q hq => ?_
  obtain ⟨B, F, ρ, S, w⟩ := hq
  refine ⟨B, F, ρ, S, wp_mono (wp_bind w) (fun k ρ1 w1 F1 H1 s1 S1 => ?_) fun _ _ z => z⟩
  cases k with
  | true =>
    rw [if_pos rfl] at w1 ⊢
    exact ⟨B, F1, ρ1, S1, wp_mono w1 (fun k ρ2 w2 F2 H2 s2 S2 => w2 F2 H2 (s1.trans s2) S2) fun _ _ z => z.up s1⟩
  | false =>
    rw [if_neg (by simp)] at w1 ⊢
    exact w1 F1 H1 s1 S1
theorem dw_or (ha : DT X W a β) (hb : DW X W (.BoolOp .Or (b :: rest) pos) γ) : DW X W (.BoolOp .Or (a :: b :: rest) pos) (xOr β γ) := by
  refine pw_imp (pw_or ha hb) fun σ H Q hq => ?_
  obtain ⟨B, F, ρ, S, w⟩ := hq
  refine ⟨B, F, ρ, S, wp_mono (wp_bind w) (fun k ρ1 w1 F1 H1 s1 S1 => ?_) fun _ _ z => z⟩
  cases k with
  | true =>
    rw [if_pos rfl] at w1 ⊢
    exact w1 F1 H1 s1 S1
  | false =>
    rw [if_neg (by simp)] at w1 ⊢
    exact ⟨B, F1, ρ1, S1, wp_mono w1 (fun k ρ2 w2 F2 H2 s2 S2 => w2 F2 H2 (s1.trans s2) S2) fun _ _ z => z.up s1⟩
theorem de_one {op} (h : DE X W a φ) : DE X W (.BoolOp op [a] pos) φ := pe_one h
theorem de_and (ha : DE X W a φ) (hb : DE X W (.BoolOp .And (b :: rest) pos) ψ) : DE X W (.BoolOp .And (a :: b :: rest) pos) (xAndV φ ψ) := by
  refine pe_imp (pe_and ha hb) fun σ H Q hq => ?_
  obtain ⟨B, F, ρ, S, w⟩ := hq
  refine ⟨B, F, ρ, S, wp_mono (wp_bind w) (fun r ρ1 w1 F1 v H1 s1 S1 q1 => ?_) fun _ _ z => z⟩
  obtain ⟨k, e1, w2⟩ := wp_bit (wp_bind w1)
  refine ⟨k, S1.bool q1 e1, ?_⟩
  cases k with
  | true =>
    rw [if_pos rfl] at w2 ⊢
    exact ⟨B, F1, ρ1, S1, wp_mono w2 (fun k ρ2 w2 F2 v H2 s2 S2 q => w2 F2 v H2 (s1.trans s2) S2 q) fun _ _ z => z.up s1⟩
  | false =>
    rw [if_neg (by simp)] at w2 ⊢
    exact w2 F1 _ H1 s1 S1 (.bl false)
theorem de_or (ha : DE X W a φ) (hb : DE X W (.BoolOp .Or (b :: rest) pos) ψ) : DE X W (.BoolOp .Or (a :: b :: rest) pos) (xOrV φ ψ) := by
  refine pe_imp (pe_or ha hb) fun σ H Q hq => ?_
  obtain ⟨B, F, ρ, S, w⟩ := hq
  refine ⟨B, F, ρ, S, wp_mono (wp_bind w) (fun r ρ1 w1 F1 v H1 s1 S1 q1 => ?_) fun _ _ z => z⟩
  obtain ⟨k, e1, w2⟩ := wp_bit (wp_bind w1)
  refine ⟨k, S1.bool q1 e1, ?_⟩
  cases k with
  | true =>
    rw [if_pos rfl] at w2 ⊢
    exact w2 F1 _ H1 s1 S1 (.bl true)
  | false =>
    rw [if_neg (by simp)] at w2 ⊢
    exact ⟨B, F1, ρ1, S1, wp_mono w2 (fun k ρ2 w2 F2 v H2 s2 S2 q => w2 F2 v H2 (s1.trans s2) S2 q) fun _ _ z => z.up s1⟩
theorem de_not (ha : DE X W a φ) : DE X W (.UnaryOp .Not a pos) (xNotV φ) := by
  refine pe_imp (pe_notT ha) fun σ H Q hq => ?_
  obtain ⟨B, F, ρ, S, w⟩ := hq
  refine ⟨B, F, ρ, S, wp_mono (wp_bind w) (fun r ρ1 w1 F1 v H1 s1 S1 q1 => ?_) fun _ _ z => z⟩
  obtain ⟨d, k, e1, e2, w2⟩ := wp_truthy (wp_bind w1)
  exact ⟨k, truth_ok (S1.look q1 e1) e2, w2 F1 _ H1 s1 S1 (.bl _)⟩
theorem de_if (hc : DT X W c β) (ha : DE X W a φ) (hb : DE X W b ψ) : DE X W (.IfExp c a b pos) (xIf β φ ψ) := by
  refine pe_imp (pe_ifExp hc ha hb) fun σ H Q hq => ?_
  obtain ⟨B, F, ρ, S, w⟩ := hq
  refine ⟨B, F, ρ, S, wp_mono (wp_bind w) (fun k ρ1 w1 F1 H1 s1 S1 => ?_) fun _ _ z => z⟩
  cases k with
  | true =>
    rw [if_pos rfl] at w1 ⊢
    exact ⟨B, F1, ρ1, S1, wp_mono w1 (fun k ρ2 w2 F2 v H2 s2 S2 q => w2 F2 v H2 (s1.trans s2) S2 q) fun _ _ z => z.up s1⟩
  | false =>
    rw [if_neg (by simp)] at w1 ⊢
    exact ⟨B, F1, ρ1, S1, wp_mono w1 (fun k ρ2 w2 F2 v H2 s2 S2 q => w2 F2 v H2 (s1.trans s2) S2 q) fun _ _ z => z.up s1⟩
end

/-! ### a < b < c -/
def xChain (g g' : D → D → Option D) (φ ψ χ : Den Rv) : Den Rv := fun ρ => (φ ρ).bind fun a ρ1 => (ψ ρ1).bind fun b ρ2 => (appl2 g a b ρ2).bind fun z ρ3 => (bit z ρ3).bind fun k ρ4 =>
  if k = true then (χ ρ4).bind fun c ρ5 => appl2 g' b c ρ5 else .ok (.dat (.bool false)) ρ4
section
variable {X : Cx} {W : WX} {a b c e : Expr} {pos : Pos} {φ ψ χ : Den Rv}
theorem tchain_sound {r r' : R2} {g g' : D → D → Option D} (hs : S2 X.K r g) (hs' : S2 X.K r' g') {σ : St} {H : Hp} {Q : VK} (h : tDE X.K W (xChain g g' φ ψ χ) σ H Q) : tChain r r' (tDE X.K W φ) (tDE X.K W ψ) (tDE X.K W χ) σ H Q := by
  obtain ⟨B, F, ρ, S, w⟩ := h
  refine ⟨B, F, ρ, S, wp_mono (wp_bind w) (fun a ρ1 w1 F1 x H1 s1 S1 q1 => ?_) fun _ _ z => z⟩
  refine ⟨B, F1, ρ1, S1, wp_mono (wp_bind w1) (fun b ρ2 w2 F2 y H2 s2 S2 q2 => ?_) fun _ _ z => z.up s1⟩
  obtain ⟨da, db, dz, e1, e2, e3, w3⟩ := wp_appl2 (wp_bind w2)
  obtain ⟨k, e4, w4⟩ := wp_bit (wp_bind w3)
  have e4' : dz = .bool k := Option.some.inj e4
  subst e4'
  refine hs B F2 ρ2 σ H2 x y a b da db _ _ S2 (q1.up s2) q2 e1 e2 e3 fun F3 v H3 s3 S3 r3 => ?_
  cases r3
  refine ⟨k, rfl, ?_⟩
  cases k with
  | true =>
    rw [if_pos rfl] at w4 ⊢
    refine ⟨B, F3, ρ2, S3, wp_mono (wp_bind w4) (fun c ρ5 w5 F5 z H5 s5 S5 q5 => ?_) fun _ _ z => z.up ((s1.trans s2).trans s3)⟩
    obtain ⟨db', dc, dz, e5, e6, e7, w6⟩ := wp_appl2 w5
    exact hs' B F5 ρ5 σ H5 y z b c db' dc dz Q S5 (q2.up (s3.trans s5)) q5 e5 e6 e7 fun F6 v H6 s6 S6 r6 => w6 F6 v H6 ((((s1.trans s2).trans s3).trans s5).trans s6) S6 r6
  | false =>
    rw [if_neg (by simp)] at w4 ⊢
    exact w4 F3 _ H3 ((s1.trans s2).trans s3) S3 (.bl false)
theorem de_chain {op op' : CmpOp} {r r' : R2} {g g' : D → D → Option D} (ho : OpR X (compareOp op) r) (ho' : OpR X (compareOp op') r') (hs : S2 X.K r g) (hs' : S2 X.K r' g') (ha : DE X W a φ) (hb : DE X W b ψ) (hc : DE X W c χ)
    (hm : lastMarks [op, op'] [b, c] = false := by with_unfolding_all rfl) : DE X W (.Compare a [op, op'] [b, c] pos) (xChain g g' φ ψ χ) :=
  pe_imp (pe_chain ho ho' ha hb hc hm) fun _ _ _ h => tchain_sound hs hs' h
theorem dt_chain {op op' : CmpOp} {r r' : R2} {g g' : D → D → Option D} (ho : OpR X (compareOp op) r) (ho' : OpR X (compareOp op') r') (hs : S2 X.K r g) (hs' : S2 X.K r' g') (ha : DE X W a φ) (hb : DE X W b ψ) (hc : DE X W c χ)
    (hm : lastMarks [op, op'] [b, c] = false := by with_unfolding_all rfl) : DT X W (.Compare a [op, op'] [b, c] pos) (xTest (xChain g g' φ ψ χ)) :=
  pt_imp (pt_chain ho ho' ha hb hc hm) fun _ _ _ h => ttest_sound (fun _ h => tchain_sound hs hs' h) h
end

/-! ### arguments, displays -/
def xNil : Den (List Rv) := fun ρ => .ok [] ρ
def xCons (φ : Den Rv) (ψ : Den (List Rv)) : Den (List Rv) := fun ρ => (φ ρ).bind fun a ρ1 => (ψ ρ1).bind fun as ρ2 => .ok (a :: as) ρ2
def dats : List Rv → Option (List D)
  | [] => some []
  | .dat d :: rs => (dats rs).map (d :: ·)
  | .slot _ :: _ => none
@[simp] theorem dats_nil : dats [] = some [] := (rfl)
@[simp] theorem dats_cons (d : D) (rs : List Rv) : dats (.dat d :: rs) = (dats rs).map (d :: ·) := (rfl)
theorem dats_ok {K : PySem.W.Frag} {F : Hp} {σ : St} : ∀ {rs : List Rv} {vs : List V} {ds : List D}, dats rs = some ds → RvsOk K F σ rs vs → DrAll K F vs ds
  | [], _, _, e, .nil => by cases e; exact .nil
  | .dat d :: rs, _, ds, e, .cons a t => by
    cases e2 : dats rs with
    | none => simp [e2] at e
    | some ds' =>
      simp only [dats_cons, e2, Option.map_some, Option.some.injEq] at e
      subst e
      exact .cons a (dats_ok e2 t)
  | .slot i :: rs, _, _, e, .cons _ _ => by cases e
def mkTup (ds : List D) : Option D := if ds.length ≤ sizeLine then some (.tuple ds) else none
def mkLst (ds : List D) : Option D := if ds.length ≤ sizeLine then some (.list ds) else none
def xTup (φ : Den (List Rv)) : Den Rv := fun ρ => (φ ρ).bind fun rs ρ1 => (ofO ((dats rs).bind mkTup) ρ1).bind fun d ρ2 => .ok (.dat d) ρ2
/-- a list display: a new list -/
def xLst (φ : Den (List Rv)) : Den D := fun ρ => (φ ρ).bind fun rs ρ1 => ofO ((dats rs).bind mkLst) ρ1
/-- a new thing as data -/
def xNew (φ : Den D) : Den Rv := fun ρ => (φ ρ).bind fun d ρ1 => .ok (.dat d) ρ1
section
variable {X : Cx} {W : WX} {e : Expr} {es : List Expr} {pos : Pos} {φ : Den Rv} {ψ : Den (List Rv)}
theorem da_nil : DA X W [] xNil := by
  refine pa_imp pa_nil fun σ H Q hq => ?_
  obtain ⟨B, F, ρ, S, w⟩ := hq
  exact w F [] H (Same.refl F) S .nil
theorem da_cons (ha : DE X W e φ) (hr : DA X W es ψ) (hs : starEach (e :: es) X.env = (false, eval e X.env) :: starEach es X.env := by rfl) : DA X W (e :: es) (xCons φ ψ) := by
  refine pa_imp (pa_cons ha hr hs) fun σ H Q hq => ?_
  obtain ⟨B, F, ρ, S, w⟩ := hq
  refine ⟨B, F, ρ, S, wp_mono (wp_bind w) (fun a ρ1 w1 F1 x H1 s1 S1 q1 => ?_) fun _ _ z => z⟩
  refine ⟨B, F1, ρ1, S1, wp_mono (wp_bind w1) (fun b ρ2 w2 F2 y H2 s2 S2 q2 => ?_) fun _ _ z => z.up s1⟩
  exact w2 F2 (x :: y) H2 (s1.trans s2) S2 (.cons (q1.up s2) q2)
theorem de_tup {k} (h : DA X W es ψ) : DE X W (.Tuple es k pos) (xTup ψ) := by
  refine pe_imp (pe_tup h) fun σ H Q hq => ?_
  obtain ⟨B, F, ρ, S, w⟩ := hq
  refine ⟨B, F, ρ, S, wp_mono (wp_bind w) (fun rs ρ1 w1 F1 vs H1 s1 S1 q1 => ?_) fun _ _ z => z⟩
  obtain ⟨d, e1, w2⟩ := wp_ofO (wp_bind w1)
  obtain ⟨ds, e2, e3⟩ := Option.bind_eq_some_iff.mp e1
  obtain ⟨hz, e4⟩ := if_some e3
  have r := dats_ok e2 q1
  exact ⟨by rw [r.length]; exact hz, fun p n => S1.newTup n r e4.symm fun F2 v H2 s2 S2 q2 => w2 F2 v H2 (s1.trans s2) S2 q2⟩
theorem dn_lst (h : DA X W es ψ) : DN X W (.List es pos) (xLst ψ) := by
  refine pe_imp (pe_lst h) fun σ H Q hq => ?_
  obtain ⟨B, F, ρ, S, w⟩ := hq
  refine ⟨B, F, ρ, S, wp_mono (wp_bind w) (fun rs ρ1 w1 F1 vs H1 s1 S1 q1 => ?_) fun _ _ z => z⟩
  obtain ⟨d, e1, w2⟩ := wp_ofO w1
  obtain ⟨ds, e2, e3⟩ := Option.bind_eq_some_iff.mp e1
  obtain ⟨hz, e4⟩ := if_some e3
  have r := dats_ok e2 q1
  subst e4
  refine ⟨by rw [r.length]; exact hz, fun p n => ?_⟩
  obtain ⟨g0, f0, h0⟩ := S1.free n
  exact w2 F1 p _ s1 (S1.fresh n) ⟨⟨_, upd_same, r⟩, f0, g0, h0, S1.noslot n⟩
theorem de_new {φ : Den D} (h : DN X W e φ) : DE X W e (xNew φ) := by
  refine pe_imp h fun σ H Q hq => ?_
  obtain ⟨B, F, ρ, S, w⟩ := hq
  refine ⟨B, F, ρ, S, wp_mono (wp_bind w) (fun d ρ1 w1 F1 p H1 s1 S1 q1 => ?_) fun _ _ z => z⟩
  obtain ⟨c, h1, h2⟩ := q1.ct
  have so : Same F1 (upd F1 p c) := same_upd q1.f0
  exact w1 (upd F1 p c) (.ref p) H1 (s1.trans so) (S1.frozen h1 q1.f0 q1.h0 q1.ns) (h2.dr so upd_same)
end

/-! ### a call of what takes values -/
def S1 (K : PySem.W.Frag) (r : List V → Hp → VK → Prop) (g : Env → List Rv → Option D) : Prop :=
  ∀ (B : Base) (F : Hp) (ρ : Env) (σ : St) (H : Hp) (vs : List V) (rs : List Rv) (dz : D) (Q : VK), Sim K B F ρ σ H → RvsOk K F σ rs vs → g ρ rs = some dz →
    (∀ F' v H', Same F F' → Sim K B F' ρ σ H' → Dr K F' v dz → Q v H') → r vs H Q
def lk (g : List D → Option D) (ρ : Env) (rs : List Rv) : Option D := (looks ρ rs).bind g
def xCall (g : Env → List Rv → Option D) (φ : Den (List Rv)) : Den Rv := fun ρ => (φ ρ).bind fun rs ρ1 => (ofO (g ρ1 rs) ρ1).bind fun d ρ2 => .ok (.dat d) ρ2
section
variable {X : Cx} {W : WX} {K : PySem.W.Frag} {e : Expr} {es : List Expr} {p pos : Pos} {φ : Den Rv} {ψ : Den (List Rv)}
theorem tcb_sound {r : List V → Hp → VK → Prop} {g : Env → List Rv → Option D} (hs : S1 X.K r g) {σ : St} {H : Hp} {Q : VK} (h : tDE X.K W (xCall g ψ) σ H Q) : tCB r (tDA X.K W ψ) σ H Q := by
  obtain ⟨B, F, ρ, S, w⟩ := h
  refine ⟨B, F, ρ, S, wp_mono (wp_bind w) (fun rs ρ1 w1 F1 vs H1 s1 S1 q1 => ?_) fun _ _ z => z⟩
  obtain ⟨d, e1, w2⟩ := wp_ofO (wp_bind w1)
  exact hs B F1 ρ1 σ H1 vs rs d Q S1 q1 e1 fun F2 v H2 s2 S2 q2 => w2 F2 v H2 (s1.trans s2) S2 q2
theorem de_callB {id : String} {x : Str} {r : List V → Hp → VK → Prop} {g : Env → List Rv → Option D} (hc : CallR X (.builtin id) r) (hs : S1 X.K r g) (hg : Gl X x) (hm : X.mg x = none) (hv : bootBuiltins x = some (.builtin id)) (ha : DA X W (e :: es) ψ) (hn : x ≠ "__name__" := by decide) (hdb : (x == ("__debug__" : Str)) = false := by decide)
    (he : starEach (e :: es) X.env = (false, eval e X.env) :: starEach es X.env := by rfl) (hpl : (backTo pos (starEach es X.env)).any (·.1) = false := by rfl) : DE X W (.Call (.Name x p) (e :: es) [] pos) (xCall g ψ) :=
  pe_imp (pe_callB hc hg hm hv ha hn hdb he hpl) fun _ _ _ h => tcb_sound hs h
theorem de_callTy {T : String} {x : Str} {r : List V → Hp → VK → Prop} {g : Env → List Rv → Option D} (hc : CallR X (.type T) r) (hs : S1 X.K r g) (hg : Gl X x) (hm : X.mg x = none) (hv : bootBuiltins x = some (.type T)) (ha : DA X W (e :: es) ψ) (hn : x ≠ "__name__" := by decide) (hdb : (x == ("__debug__" : Str)) = false := by decide)
    (he : starEach (e :: es) X.env = (false, eval e X.env) :: starEach es X.env := by rfl) (hpl : (backTo pos (starEach es X.env)).any (·.1) = false := by rfl) : DE X W (.Call (.Name x p) (e :: es) [] pos) (xCall g ψ) :=
  pe_imp (pe_callTy hc hg hm hv ha hn hdb he hpl) fun _ _ _ h => tcb_sound hs h

theorem lk_one {g : List D → Option D} {ρ : Env} {rs : List Rv} {dz : D} (h : lk g ρ rs = some dz) : ∃ ds, looks ρ rs = some ds ∧ g ds = some dz := Option.bind_eq_some_iff.mp h
/-- one argument -/
theorem s1_one {r : List V → Hp → VK → Prop} {g : List D → Option D}
    (h : ∀ (B : Base) (F : Hp) (ρ : Env) (σ : St) (H : Hp) (v : V) (a : Rv) (d dz : D) (Q : VK), Sim K B F ρ σ H → RvOk K F σ a v → look ρ a = some d → g [d] = some dz → (∀ F' v H', Same F F' → Sim K B F' ρ σ H' → Dr K F' v dz → Q v H') → r [v] H Q)
    (h1 : ∀ ds dz, g ds = some dz → ∃ d, ds = [d]) : S1 K r (lk g) := by
  intro B F ρ σ H vs rs dz Q S q e k
  obtain ⟨ds, e1, e2⟩ := lk_one e
  obtain ⟨d, rfl⟩ := h1 _ _ e2
  cases rs with
  | nil => cases e1
  | cons a rs =>
    obtain ⟨d', ds', e3, e4, e5⟩ := looks_cons e1
    cases e3
    cases rs with
    | cons b rs =>
      obtain ⟨_, _, e6, _⟩ := looks_cons e5
      cases e6
    | nil =>
      cases q with
      | cons q1 t =>
        cases t
        exact h B F ρ σ H _ a d dz Q S q1 e4 e2 k
/-- len -/
def gLen : List D → Option D
  | [.str x] => if x.length ≤ sizeLine then some (.int x.length) else none
  | [.list xs] => some (.int xs.length)
  | [.tuple xs] => some (.int xs.length)
  | _ => none
theorem s1_len : S1 K (fun xs H Q => ∃ x n, xs = [x] ∧ LenV K x H n ∧ Q (.int n) H) (lk gLen) := by
  refine s1_one (fun B F ρ σ H v a d dz Q S q e e2 k => ?_) (fun ds dz e => ?_)
  · have r := S.look q e
    cases r <;> simp only [gLen, reduceCtorEq, Option.some.injEq] at e2
    · obtain ⟨hz, e2⟩ := if_some e2
      subst e2
      exact ⟨_, _, rfl, ⟨hz, rfl⟩, k F _ H (Same.refl F) S (.int _)⟩
    · rename_i a t
      subst e2
      exact ⟨_, _, rfl, .inl ⟨_, a, rfl⟩, k F _ H (Same.refl F) S (by rw [t.length]; exact .int _)⟩
    · rename_i a t
      subst e2
      exact ⟨_, _, rfl, .inr ⟨_, a, rfl⟩, k F _ H (Same.refl F) S (by rw [t.length]; exact .int _)⟩
  · unfold gLen at e
    split at e <;> first | exact ⟨_, rfl⟩ | cases e
/-- abs, int, str, ord, chr, bool -/
def gAbs : List D → Option D
  | [.int i] => some (.int (if i < 0 then -i else i))
  | _ => none
theorem s1_abs : S1 K (fun xs H Q => ∃ i, xs = [.int i] ∧ Q (.int (if i < 0 then -i else i)) H) (lk gAbs) := by
  refine s1_one (fun B F ρ σ H v a d dz Q S q e e2 k => ?_) (fun ds dz e => ?_)
  · have r := S.look q e
    cases r <;> simp only [gAbs, reduceCtorEq, Option.some.injEq] at e2
    subst e2
    exact ⟨_, rfl, k F _ H (Same.refl F) S (.int _)⟩
  · unfold gAbs at e
    split at e <;> first | exact ⟨_, rfl⟩ | cases e
def gInt : List D → Option D
  | [.int i] => some (.int i)
  | [.bool b] => some (.int (if b then 1 else 0))
  | [.str x] => if x.length ≤ 640 then (intText? x).map .int else none
  | _ => none
def rInt : List V → Hp → VK → Prop := fun xs H Q => ((∃ i, xs = [.int i] ∧ Q (.int i) H) ∨ ∃ k, xs = [.bl k] ∧ Q (.int (if k then 1 else 0)) H) ∨ (∃ a n, xs = [.str a] ∧ intText? a = some n ∧ a.length ≤ 640 ∧ Q (.int n) H)
theorem callR_or {f : Value} {r r' : List V → Hp → VK → Prop} (h : CallR X f r) (h' : CallR X f r') : CallR X f (fun xs H Q => r xs H Q ∨ r' xs H Q) := fun pins s σ H xs us Q I q z => z.elim (h pins s σ H xs us Q I q) (h' pins s σ H xs us Q I q)
theorem call_intA : CallR X (.type "int") rInt := callR_or call_int1 call_int_str
theorem s1_int : S1 K rInt (lk gInt) := by
  refine s1_one (fun B F ρ σ H v a d dz Q S q e e2 k => ?_) (fun ds dz e => ?_)
  · have r := S.look q e
    cases r <;> simp only [gInt, reduceCtorEq, Option.some.injEq] at e2
    · subst e2
      exact .inl (.inr ⟨_, rfl, k F _ H (Same.refl F) S (.int _)⟩)
    · subst e2
      exact .inl (.inl ⟨_, rfl, k F _ H (Same.refl F) S (.int _)⟩)
    · rename_i x
      by_cases hz : x.length ≤ 640
      · rw [if_pos hz] at e2
        cases e3 : intText? x with
        | none => rw [e3] at e2; cases e2
        | some n =>
          rw [e3] at e2
          cases e2
          exact .inr ⟨_, n, rfl, e3, hz, k F _ H (Same.refl F) S (.int _)⟩
      · rw [if_neg hz] at e2; cases e2
  · unfold gInt at e
    split at e <;> first | exact ⟨_, rfl⟩ | cases e
def gStr : List D → Option D
  | [.int i] => if i.natAbs.log2 < 1920 then some (.str (toString i)) else none
  | _ => none
theorem s1_str : S1 K (fun xs H Q => ∃ i, xs = [.int i] ∧ i.natAbs.log2 < 1920 ∧ Q (.str (toString i)) H) (lk gStr) := by
  refine s1_one (fun B F ρ σ H v a d dz Q S q e e2 k => ?_) (fun ds dz e => ?_)
  · have r := S.look q e
    cases r <;> simp only [gStr, reduceCtorEq] at e2
    obtain ⟨hz, e2⟩ := if_some e2
    subst e2
    exact ⟨_, rfl, hz, k F _ H (Same.refl F) S (.str _)⟩
  · unfold gStr at e
    split at e <;> first | exact ⟨_, rfl⟩ | cases e
def gOrd : List D → Option D
  | [.str x] => if x.length = 1 then some (.int (x.cps.getD 0 0 : Nat)) else none
  | _ => none
theorem s1_ord : S1 K (fun xs H Q => ∃ x, xs = [.str x] ∧ x.length = 1 ∧ Q (.int (x.cps.getD 0 0 : Nat)) H) (lk gOrd) := by
  refine s1_one (fun B F ρ σ H v a d dz Q S q e e2 k => ?_) (fun ds dz e => ?_)
  · have r := S.look q e
    cases r <;> simp only [gOrd, reduceCtorEq] at e2
    obtain ⟨hz, e2⟩ := if_some e2
    subst e2
    exact ⟨_, rfl, hz, k F _ H (Same.refl F) S (.int _)⟩
  · unfold gOrd at e
    split at e <;> first | exact ⟨_, rfl⟩ | cases e
def gChr : List D → Option D
  | [.int i] => if 0 ≤ i ∧ i ≤ 1114111 then some (.str ⟨#[i.toNat]⟩) else none
  | _ => none
theorem s1_chr : S1 K (fun xs H Q => ∃ i, xs = [.int i] ∧ 0 ≤ i ∧ i ≤ 1114111 ∧ Q (.str ⟨#[i.toNat]⟩) H) (lk gChr) := by
  refine s1_one (fun B F ρ σ H v a d dz Q S q e e2 k => ?_) (fun ds dz e => ?_)
  · have r := S.look q e
    cases r <;> simp only [gChr, reduceCtorEq] at e2
    obtain ⟨hz, e2⟩ := if_some e2
    subst e2
    exact ⟨_, rfl, hz.1, hz.2, k F _ H (Same.refl F) S (.str _)⟩
  · unfold gChr at e
    split at e <;> first | exact ⟨_, rfl⟩ | cases e
end

/-! ### subscripts -/
def gIx : D → D → Option D
  | .list xs, .int i => atI xs i
  | .tuple xs, .int i => atI xs i
  | .str z, .int i => if z.length ≤ sizeLine then (atI z.cps.toList i).map fun c => .str ⟨#[c]⟩ else none
  | _, _ => none
section
variable {X : Cx} {W : WX} {K : PySem.W.Frag} {a b e : Expr} {pos : Pos} {φ ψ : Den Rv}
theorem DrAll.atI {F : Hp} {vs : List V} {ds : List D} {i : Int} {d : D} (r : DrAll K F vs ds) (e : L2.atI ds i = some d) : ∃ v, L2.atI vs i = some v ∧ Dr K F v d := by
  unfold L2.atI at e ⊢
  rw [r.length]
  obtain ⟨j, h1, h2⟩ := Option.bind_eq_some_iff.mp e
  obtain ⟨v, h3, h4⟩ := r.get h2
  exact ⟨v, by rw [h1]; exact h3, h4⟩
theorem s2_ix : S2 K (rIx K) gIx := by
  intro B F ρ σ H x y a b da db dz Q S ra rb ea eb e q
  cases da <;> cases db <;> simp only [gIx, reduceCtorEq] at e
  · obtain ⟨hz, e⟩ : _ ∧ _ := by
      rename_i z i
      by_cases h : z.length ≤ sizeLine
      · rw [if_pos h] at e; exact ⟨h, e⟩
      · rw [if_neg h] at e; cases e
    obtain ⟨c, h1, h2⟩ := Option.map_eq_some_iff.mp e
    subst h2
    exact .inr (.inr ⟨_, _, c, S.str ra ea, S.int rb eb, hz, h1, q F _ H (Same.refl F) S (.str _)⟩)
  · obtain ⟨p, vs, rfl, h1, h2⟩ := S.items ra ea
    obtain ⟨v, h3, h4⟩ := h2.atI e
    exact .inl ⟨p, vs, _, v, rfl, S.int rb eb, h1, h3, q F _ H (Same.refl F) S h4⟩
  · obtain ⟨p, vs, rfl, h1, h2⟩ := S.tuple ra ea
    obtain ⟨v, h3, h4⟩ := h2.atI e
    exact .inr (.inl ⟨p, vs, _, v, rfl, S.int rb eb, sqT_mono S.f h1, h3, q F _ H (Same.refl F) S h4⟩)
theorem ix_any : IxR X (rIx X.K) := IxR.or ix_list (IxR.or ix_tup ix_str)
theorem de_ix (ha : DE X W a φ) (hb : DE X W b ψ) (hs : PlainIx b := by exact fun _ _ => rfl) : DE X W (.Subscript a b pos) (xOp gIx φ ψ) :=
  pe_imp (pe_ix ix_any ha hb hs) fun _ _ _ h => top_sound s2_ix h

/-- a part of a slice -/
def xNoPart : Den (Option Int) := fun ρ => .ok none ρ
def xPart (φ : Den Rv) : Den (Option Int) := fun ρ => (φ ρ).bind fun r ρ1 => match look ρ1 r with
  | some (.int i) => .ok (some i) ρ1
  | _ => .bad
def tDO (K : PySem.W.Frag) (W : WX) (φ : Den (Option Int)) : TO := fun σ H Q => ∃ B F ρ, Sim K B F ρ σ H ∧
  Wp (φ ρ) (fun o ρ' => ∀ F' H', Same F F' → Sim K B F' ρ' σ H' → Q o H') (XQ K W B F σ)
def DO (X : Cx) (W : WX) (e : Option Expr) (φ : Den (Option Int)) : Prop := PO X e (tDO X.K W φ)
theorem do_none : DO X W none xNoPart := by
  refine ⟨fun pins s σ H Q I hq => po_none.run pins s σ H Q I ?_⟩
  obtain ⟨B, F, ρ, S, w⟩ := hq
  exact w F H (Same.refl F) S
theorem do_some (h : DE X W e φ) : DO X W (some e) (xPart φ) := by
  refine ⟨fun pins s σ H Q I hq => (po_some h).run pins s σ H Q I ?_⟩
  obtain ⟨B, F, ρ, S, w⟩ := hq
  refine ⟨B, F, ρ, S, wp_mono (wp_bind w) (fun r ρ1 w1 F1 v H1 s1 S1 q1 => ?_) fun _ _ z => z⟩
  cases e1 : look ρ1 r with
  | none => rw [e1] at w1; exact w1.elim
  | some d =>
    rw [e1] at w1
    cases d <;> first | exact w1.elim | skip
    exact ⟨_, S1.int q1 e1, w1 F1 H1 s1 S1⟩
def cutD (xs : List D) (lo hi : Option Int) : List D := (xs.drop (HT.sIx xs.length 0 lo)).take (HT.sIx xs.length xs.length hi - HT.sIx xs.length 0 lo)
theorem DrAll.cut {F : Hp} {vs : List V} {ds : List D} {lo hi : Option Int} (r : DrAll K F vs ds) : DrAll K F (cutV vs lo hi) (cutD ds lo hi) := by
  unfold cutV cutD
  rw [r.length]
  exact (r.drop _).take _
def gSl (d : D) (lo hi : Option Int) : Option D := match d with
  | .str z => if z.length ≤ sizeLine then some (.str (cutS z lo hi)) else none
  | .list xs => some (.list (cutD xs lo hi))
  | .tuple xs => some (.tuple (cutD xs lo hi))
  | _ => none
def rSlAny (K : PySem.W.Frag) : V → Option Int → Option Int → Hp → VK → Prop := fun x lo hi H Q => (rSlL K x lo hi H Q ∨ rSlS x lo hi H Q) ∨ rSlA K x lo hi H Q
theorem sl_any : SlR X (rSlAny X.K) := SlR.or (SlR.or sl_list sl_str) sl_tupA
def xSl (φ : Den Rv) (lo hi : Den (Option Int)) : Den Rv := fun ρ => (φ ρ).bind fun r ρ1 => (lo ρ1).bind fun l ρ2 => (hi ρ2).bind fun u ρ3 => match look ρ3 r with
  | some d => (ofO (gSl d l u) ρ3).bind fun d ρ4 => .ok (.dat d) ρ4
  | none => .bad
theorem de_sl {lo hi : Option Expr} {p2 : Pos} {l u : Den (Option Int)} (he : DE X W e φ) (hl : DO X W lo l) (hu : DO X W hi u) : DE X W (.Subscript e (.Slice lo hi none p2) pos) (xSl φ l u) := by
  refine pe_imp (pe_slice sl_any he hl hu) fun σ H Q hq => ?_
  obtain ⟨B, F, ρ, S, w⟩ := hq
  refine ⟨B, F, ρ, S, wp_mono (wp_bind w) (fun r ρ1 w1 F1 v H1 s1 S1 q1 => ?_) fun _ _ z => z⟩
  refine ⟨B, F1, ρ1, S1, wp_mono (wp_bind w1) (fun l ρ2 w2 F2 H2 s2 S2 => ?_) fun _ _ z => z.up s1⟩
  refine ⟨B, F2, ρ2, S2, wp_mono (wp_bind w2) (fun u ρ3 w3 F3 H3 s3 S3 => ?_) fun _ _ z => z.up (s1.trans s2)⟩
  cases e1 : look ρ3 r with
  | none => rw [e1] at w3; exact w3.elim
  | some d =>
    rw [e1] at w3
    obtain ⟨dz, e2, w4⟩ := wp_ofO (wp_bind w3)
    have q3 := q1.up (s2.trans s3)
    have s13 := (s1.trans s2).trans s3
    cases d <;> simp only [gSl, reduceCtorEq] at e2
    · obtain ⟨hz, e2⟩ := if_some e2
      subst e2
      exact .inl (.inr ⟨_, S3.str q3 e1, hz, w4 F3 _ H3 s13 S3 (.str _)⟩)
    · cases e2
      obtain ⟨p, vs, rfl, h1, h2⟩ := S3.items q3 e1
      exact .inl (.inl ⟨p, vs, rfl, h1, fun p' n => S3.newLst n h2.cut rfl fun F5 v H5 s5 S5 q5 => w4 F5 v H5 (s13.trans s5) S5 q5⟩)
    · cases e2
      obtain ⟨p, vs, rfl, h1, h2⟩ := S3.tuple q3 e1
      refine .inr ⟨p, vs, rfl, sqT_mono S3.f h1, fun hw => ?_, fun _ p' n => S3.newTup n h2.cut rfl fun F5 v H5 s5 S5 q5 => w4 F5 v H5 (s13.trans s5) S5 q5⟩
      refine w4 F3 _ H3 s13 S3 ?_
      have hc : cutV vs l u = vs := by
        unfold cutV
        rw [hw.1, hw.2, List.drop_zero, Nat.sub_zero, List.take_length]
      have hd := h2.cut (lo := l) (hi := u)
      rw [hc] at hd
      exact .tup h1 hd
end
end DL


/-! D layer, 4: targets, statements, loops. -/
namespace DL
open PySem PySem.Spec L2

/-! ### storing into slots -/
/-- may the slot be stored into (it is no object of the caller's)? -/
def canSet (ρ : Env) (i : Nat) : Bool := match ρ[i]? with
  | some (some (.own false _)) => false
  | some _ => true
  | none => false
theorem canSet_lt {ρ : Env} {i : Nat} (h : canSet ρ i = true) : i < ρ.length := by
  unfold canSet at h
  cases e : ρ[i]? with
  | none => rw [e] at h; cases h
  | some c => exact (List.getElem?_eq_some_iff.mp e).1
theorem canSet_no {ρ : Env} {i : Nat} {d : D} (h : canSet ρ i = true) : ρ[i]? ≠ some (some (.own false d)) := fun e => by
  unfold canSet at h
  rw [e] at h
  cases h
section
variable {K : PySem.W.Frag} {B : Base} {F : Hp} {ρ : Env} {σ : St} {H : Hp}
theorem set_own {ρ : Env} {i j : Nat} {c : Option Cell} {o : Bool} {d : D} (hc : ∀ o d, c ≠ some (.own o d)) (hi : i < ρ.length) (h : (ρ.set i c)[j]? = some (some (.own o d))) : j ≠ i ∧ ρ[j]? = some (some (.own o d)) := by
  by_cases q : j = i
  · subst q; rw [List.getElem?_set_self hi] at h; exact absurd (Option.some.inj h) (hc o d)
  · rw [List.getElem?_set_ne (Ne.symm q)] at h; exact ⟨q, h⟩
theorem Sim.setDat (S : Sim K B F ρ σ H) {i : Nat} {v : V} {d : D} (hi : i < ρ.length) (r : Dr K F v d) : Sim K B F (ρ.set i (some (.dat d))) (σ.set i (some v)) H := by
  have hσ : i < σ.length := by rw [S.len]; exact hi
  exact {
    g := S.g, f := S.f, bf := S.bf, fr := S.fr, gr := S.gr
    len := by rw [List.length_set, List.length_set]; exact S.len
    dat := fun j d' h => by
      by_cases q : j = i
      · subst q
        rw [List.getElem?_set_self hi] at h
        cases h
        exact ⟨v, List.getElem?_set_self hσ, r⟩
      · rw [List.getElem?_set_ne (Ne.symm q)] at h ⊢
        exact S.dat j d' h
    mu := fun j o d' h => by
      obtain ⟨q, h⟩ := set_own (fun _ _ => by simp) hi h
      rw [List.getElem?_set_ne (Ne.symm q)]
      exact S.mu j o d' h
    apart := fun j k o o' d1 d2 p a b a1 b1 => by
      obtain ⟨q1, a⟩ := set_own (fun _ _ => by simp) hi a
      obtain ⟨q2, b⟩ := set_own (fun _ _ => by simp) hi b
      rw [List.getElem?_set_ne (Ne.symm q1)] at a1
      rw [List.getElem?_set_ne (Ne.symm q2)] at b1
      exact S.apart j k o o' d1 d2 p a b a1 b1 }
/-- a slot's value is forgotten -/
theorem Sim.setNone (S : Sim K B F ρ σ H) {i : Nat} {v : Option V} (hi : i < ρ.length) : Sim K B F (ρ.set i none) (σ.set i v) H := by
  exact {
    g := S.g, f := S.f, bf := S.bf, fr := S.fr, gr := S.gr
    len := by rw [List.length_set, List.length_set]; exact S.len
    dat := fun j d' h => by
      by_cases q : j = i
      · subst q
        rw [List.getElem?_set_self hi] at h
        cases h
      · rw [List.getElem?_set_ne (Ne.symm q)] at h ⊢
        exact S.dat j d' h
    mu := fun j o d' h => by
      obtain ⟨q, h⟩ := set_own (fun _ _ => by simp) hi h
      rw [List.getElem?_set_ne (Ne.symm q)]
      exact S.mu j o d' h
    apart := fun j k o o' d1 d2 p a b a1 b1 => by
      obtain ⟨q1, a⟩ := set_own (fun _ _ => by simp) hi a
      obtain ⟨q2, b⟩ := set_own (fun _ _ => by simp) hi b
      rw [List.getElem?_set_ne (Ne.symm q1)] at a1
      rw [List.getElem?_set_ne (Ne.symm q2)] at b1
      exact S.apart j k o o' d1 d2 p a b a1 b1 }
theorem Sim.setOwn (S : Sim K B F ρ σ H) {i : Nat} {p : Addr} {d : D} (hi : i < ρ.length) (n : NewAt K B F ρ σ H p d) : Sim K B F (ρ.set i (some (.own true d))) (σ.set i (some (.ref p))) H := by
  have hσ : i < σ.length := by rw [S.len]; exact hi
  have back : ∀ (j : Nat) (o : Bool) (d' : D), (ρ.set i (some (.own true d)))[j]? = some (some (.own o d')) → (j = i ∧ o = true ∧ d' = d) ∨ (j ≠ i ∧ ρ[j]? = some (some (.own o d'))) := fun j o d' h => by
    by_cases q : j = i
    · subst q
      rw [List.getElem?_set_self hi] at h
      cases h
      exact .inl ⟨rfl, rfl, rfl⟩
    · rw [List.getElem?_set_ne (Ne.symm q)] at h
      exact .inr ⟨q, h⟩
  obtain ⟨⟨c, h1, h2⟩, f0, g0, h0, ns⟩ := n
  exact {
    g := S.g, f := S.f, bf := S.bf, fr := S.fr, gr := S.gr
    len := by rw [List.length_set, List.length_set]; exact S.len
    dat := fun j d' h => by
      by_cases q : j = i
      · subst q
        rw [List.getElem?_set_self hi] at h
        cases h
      · rw [List.getElem?_set_ne (Ne.symm q)] at h ⊢
        exact S.dat j d' h
    mu := fun j o d' h => by
      rcases back j o d' h with ⟨rfl, rfl, rfl⟩ | ⟨q, h⟩
      · exact ⟨p, c, List.getElem?_set_self hσ, h1, h2, g0, f0, fun _ => h0, fun z => nomatch z⟩
      · rw [List.getElem?_set_ne (Ne.symm q)]
        exact S.mu j o d' h
    apart := fun j k o o' d1 d2 q a b a1 b1 => by
      rcases back j o d1 a with ⟨e1, _, _⟩ | ⟨n1, a⟩
      · rcases back k o' d2 b with ⟨e2, _, _⟩ | ⟨n2, b⟩
        · rw [e1, e2]
        · rw [e1, List.getElem?_set_self hσ] at a1
          rw [List.getElem?_set_ne (Ne.symm n2)] at b1
          cases a1
          exact absurd b1 (ns k o' d2 b)
      · rcases back k o' d2 b with ⟨e2, _, _⟩ | ⟨n2, b⟩
        · rw [e2, List.getElem?_set_self hσ] at b1
          rw [List.getElem?_set_ne (Ne.symm n1)] at a1
          cases b1
          exact absurd a1 (ns j o d1 a)
        · rw [List.getElem?_set_ne (Ne.symm n1)] at a1
          rw [List.getElem?_set_ne (Ne.symm n2)] at b1
          exact S.apart j k o o' d1 d2 q a b a1 b1 }
/-- a slot's own object is changed -/
theorem Sim.change (S : Sim K B F ρ σ H) {i : Nat} {o : Bool} {p : Addr} {c' : HO} {d d' : D} (e : ρ[i]? = some (some (.own o d))) (ep : σ[i]? = some (some (.ref p))) (ct : Cont K F c' d') :
    Sim K B F (ρ.set i (some (.own o d'))) σ (upd H p c') := by
  have hi : i < ρ.length := (List.getElem?_eq_some_iff.mp e).1
  obtain ⟨p', c, h1, h2, h3, h4, h5, h6⟩ := S.mu i o d e
  rw [ep] at h1; cases h1
  have back : ∀ (j : Nat) (ow : Bool) (dz : D), (ρ.set i (some (.own o d')))[j]? = some (some (.own ow dz)) → (j = i ∧ ow = o ∧ dz = d') ∨ (j ≠ i ∧ ρ[j]? = some (some (.own ow dz))) := fun j ow dz h => by
    by_cases q : j = i
    · subst q
      rw [List.getElem?_set_self hi] at h
      cases h
      exact .inl ⟨rfl, rfl, rfl⟩
    · rw [List.getElem?_set_ne (Ne.symm q)] at h
      exact .inr ⟨q, h⟩
  have any : ∀ (j : Nat) (ow : Bool) (dz : D), (ρ.set i (some (.own o d')))[j]? = some (some (.own ow dz)) → ∃ d0, ρ[j]? = some (some (.own ow d0)) := fun j ow dz h => by
    rcases back j ow dz h with ⟨rfl, rfl, _⟩ | ⟨_, h⟩
    · exact ⟨_, e⟩
    · exact ⟨_, h⟩
  exact {
    g := fun b x h => by rw [upd_ne (ne_of_none h h4)]; exact S.g b x h
    f := fun b x h => by rw [upd_ne (ne_of_none h h5)]; exact S.f b x h
    bf := S.bf
    fr := S.fr
    gr := fun b h => upd_some (S.gr b h)
    len := by rw [List.length_set]; exact S.len
    dat := fun j dz h => by
      by_cases q : j = i
      · subst q
        rw [List.getElem?_set_self hi] at h
        cases h
      · rw [List.getElem?_set_ne (Ne.symm q)] at h
        exact S.dat j dz h
    mu := fun j ow dz h => by
      rcases back j ow dz h with ⟨rfl, rfl, rfl⟩ | ⟨q, h⟩
      · exact ⟨p, c', ep, upd_same, ct, h4, h5, h6⟩
      · obtain ⟨p', c0, a1, a2, a3, a4⟩ := S.mu j ow dz h
        refine ⟨p', c0, a1, ?_, a3, a4⟩
        rw [upd_ne]
        · exact a2
        · rintro rfl
          exact q (S.apart j i ow o dz d p' h e a1 ep)
    apart := fun j k ow ow' d1 d2 q a b a1 b1 => by
      obtain ⟨e1, a⟩ := any j ow d1 a
      obtain ⟨e2, b⟩ := any k ow' d2 b
      exact S.apart j k ow ow' e1 e2 q a b a1 b1 }
end

/-! ### targets -/
abbrev DenG := D → Env → Option Env
/-- is: the slots that are stored into -/
def tDG (K : PySem.W.Frag) (is : List Nat) (γ : DenG) : TG := fun v σ H Q => ∃ B F ρ d ρ', Sim K B F ρ σ H ∧ Dr K F v d ∧ γ d ρ = some ρ' ∧
  ∀ σ', Sim K B F ρ' σ' H → (∀ vs : List Nat, (∀ i ∈ is, i ∈ vs) → wipe σ' vs = wipe σ vs) → Q σ' H
def DG (X : Cx) (e : Expr) (is : List Nat) (γ : DenG) : Prop := PG X e (tDG X.K is γ)
abbrev DenGs := List D → Env → Option Env
def tDGs (K : PySem.W.Frag) (is : List Nat) (γ : DenGs) : TGs := fun vs σ H Q => ∃ B F ρ ds ρ', Sim K B F ρ σ H ∧ DrAll K F vs ds ∧ γ ds ρ = some ρ' ∧
  ∀ σ', Sim K B F ρ' σ' H → (∀ vs : List Nat, (∀ i ∈ is, i ∈ vs) → wipe σ' vs = wipe σ vs) → Q σ' H
def DGs (X : Cx) (es : List Expr) (is : List Nat) (γ : DenGs) : Prop := PGs X es (tDGs X.K is γ)
def gSet (i : Nat) : DenG := fun d ρ => if canSet ρ i then some (ρ.set i (some (.dat d))) else none
def gsNil : DenGs := fun ds ρ => match ds with
  | [] => some ρ
  | _ => none
def gsCons (γ : DenG) (γs : DenGs) : DenGs := fun ds ρ => match ds with
  | d :: r => (γ d ρ).bind (γs r)
  | [] => none
def gTupD (n : Nat) (γs : DenGs) : DenG := fun d ρ => match d with
  | .tuple ds => if ds.length = n then γs ds ρ else none
  | _ => none
theorem wipe_set {σ : St} {i : Nat} {v : Option V} : ∀ {vs : List Nat}, i ∈ vs → wipe (σ.set i v) vs = wipe σ vs
  | [], h => by simp at h
  | j :: vs, h => by
    by_cases e : i ∈ vs
    · show (wipe (σ.set i v) vs).set j none = (wipe σ vs).set j none
      rw [wipe_set e]
    · have hj : i = j := (List.mem_cons.mp h).resolve_right e
      subst hj
      have comm : ∀ (us : List Nat), i ∉ us → wipe (σ.set i v) us = (wipe σ us).set i v := fun us => by
        induction us with
        | nil => intro _; rfl
        | cons k us ih =>
          intro hn
          have hk : i ≠ k := fun z => hn (by rw [z]; exact List.mem_cons_self)
          show (wipe (σ.set i v) us).set k none = ((wipe σ us).set k none).set i v
          rw [ih fun z => hn (List.mem_cons_of_mem _ z), List.set_comm _ _ hk]
      show (wipe (σ.set i v) vs).set i none = (wipe σ vs).set i none
      rw [comm vs e, List.set_set]
section
variable {X : Cx} {pos : Pos} {e : Expr} {es : List Expr}
theorem dg_name {i : Nat} {x : Str} (hN : X.N.Nodup) (hi : X.N[i]? = some x := by rfl) (hx : Loc X.env.scope x := by first | exact Or.inl rfl | exact Or.inr rfl) (hf : X.fn x = true ∨ X.env.scope.names.lookup x = some .local := by first | exact .inl rfl | exact .inr rfl | assumption) : DG X (.Name x pos) [i] (gSet i) := by
  refine ⟨fun pins s σ H v u Q I r hq => (pg_name hN hi hx hf).run pins s σ H v u Q I r ?_⟩
  obtain ⟨B, F, ρ, d, ρ', S, q, e, k⟩ := hq
  obtain ⟨hc, e⟩ := if_some e
  subst e
  exact k _ (S.setDat (canSet_lt hc) q) fun vs h => wipe_set (h i (by simp))
theorem dgs_nil : DGs X [] [] gsNil := by
  refine ⟨fun pins s σ H vs us Q I r hq => pgs_nil.run pins s σ H vs us Q I r ?_⟩
  obtain ⟨B, F, ρ, d, ρ', S, q, e, k⟩ := hq
  cases q with
  | nil => cases e; exact ⟨rfl, k _ S fun _ _ => rfl⟩
  | cons _ _ => cases e
theorem dgs_cons {is js : List Nat} {γ : DenG} {γs : DenGs} (h1 : DG X e is γ) (h2 : DGs X es js γs) (hs : (assignEach (e :: es) X.env).map (·.2) = assign e X.env :: (assignEach es X.env).map (·.2) := by rfl) : DGs X (e :: es) (is ++ js) (gsCons γ γs) := by
  refine ⟨fun pins s σ H vs us Q I r hq => (pgs_cons h1 h2 hs).run pins s σ H vs us Q I r ?_⟩
  obtain ⟨B, F, ρ, d, ρ', S, q, e, k⟩ := hq
  cases q with
  | nil => cases e
  | cons a t =>
    obtain ⟨ρ1, e1, e2⟩ := Option.bind_eq_some_iff.mp e
    exact ⟨_, _, rfl, B, F, ρ, _, ρ1, S, a, e1, fun σ1 S1 w1 => ⟨B, F, ρ1, _, ρ', S1, t, e2, fun σ2 S2 w2 => k σ2 S2 fun vs h =>
      (w2 vs fun i hi => h i (List.mem_append_right _ hi)).trans (w1 vs fun i hi => h i (List.mem_append_left _ hi))⟩⟩
theorem dg_tup {k : Nat} {n : Nat} {is : List Nat} {γs : DenGs} (hc : X.calm = true) (h : DGs X es is γs) (hn : (assignEach es X.env).length = n := by rfl) (hst : (assignEach es X.env).findIdx? (·.1) = none := by rfl) : DG X (.Tuple es k pos) is (gTupD n γs) := by
  refine ⟨fun pins s σ H v u Q I r hq => (pg_tup hc h hn hst).run pins s σ H v u Q I r ?_⟩
  obtain ⟨B, F, ρ, d, ρ', S, q, e, k⟩ := hq
  cases q <;> first | cases e | skip
  rename_i a xs ds t r1
  by_cases hl : ds.length = n
  · have e' : γs ds ρ = some ρ' := by
      have q : (if ds.length = n then γs ds ρ else none) = some ρ' := e
      rw [if_pos hl] at q
      exact q
    exact ⟨a, xs, rfl, sqT_mono S.f t, by rw [r1.length]; exact hl, B, F, ρ, ds, ρ', S, r1, e', k⟩
  · have q : (if ds.length = n then γs ds ρ else none) = some ρ' := e
    rw [if_neg hl] at q
    cases q
end

/-! ### statements -/
def yNext : DenS := fun ρ => .next ρ
def oBind {α : Type} (m : Ans α) (f : α → Env → Out) : Out := match m with
  | .ok a ρ => f a ρ
  | .exc x ρ => .exc x ρ
  | .bad => .bad
@[simp] theorem oBind_ok {α : Type} (a : α) (ρ : Env) (f : α → Env → Out) : oBind (.ok a ρ) f = f a ρ := (rfl)
@[simp] theorem oBind_exc {α : Type} (x : Exc) (ρ : Env) (f : α → Env → Out) : oBind (.exc x ρ : Ans α) f = .exc x ρ := (rfl)
@[simp] theorem oBind_bad {α : Type} (f : α → Env → Out) : oBind (.bad : Ans α) f = .bad := (rfl)
def Out.andThen (o : Out) (ψ : DenS) : Out := match o with
  | .next ρ => ψ ρ
  | o => o
def ySeq (a b : DenS) : DenS := fun ρ => (a ρ).andThen b
def yPass : DenS := fun ρ => .next ρ
def yBreak : DenS := fun ρ => .brk ρ
def yCont : DenS := fun ρ => .cont ρ
/-- return e, as data; a new thing; an own slot -/
def yRet (φ : Den Rv) : DenS := fun ρ => oBind (φ ρ) fun r ρ1 => oBind (frz r ρ1) fun d ρ2 => .ret (.dat d) ρ2
def yRetN : DenS := fun ρ => .ret (.dat .none) ρ
def yRetNew (φ : Den D) : DenS := fun ρ => oBind (φ ρ) fun d ρ1 => .ret (.own d) ρ1
def yRetOwn (i : Nat) : DenS := fun ρ => match ρ[i]? with
  | some (some (.own true d)) => .ret (.own d) ρ
  | _ => .bad
def yIf (c : Den Bool) (a b : DenS) : DenS := fun ρ => oBind (c ρ) fun k ρ1 => if k = true then a ρ1 else b ρ1
def ySet (γ : DenG) (φ : Den Rv) : DenS := fun ρ => oBind (φ ρ) fun r ρ1 => oBind (frz r ρ1) fun d ρ2 => match γ d ρ2 with
  | some ρ3 => .next ρ3
  | none => .bad
def ySetNew (i : Nat) (φ : Den D) : DenS := fun ρ => oBind (φ ρ) fun d ρ1 => if canSet ρ1 i then .next (ρ1.set i (some (.own true d))) else .bad
def yExpr (φ : Den Rv) : DenS := fun ρ => oBind (φ ρ) fun _ ρ1 => .next ρ1

section
variable {K : PySem.W.Frag} {W : WX} {B : Base} {F : Hp} {Dd : Ends} {σ : St}
theorem spost_bind {α : Type} {m : Ans α} {f : α → Env → Out} (h : SPost K W B F Dd (oBind m f)) : Wp m (fun a ρ => SPost K W B F Dd (f a ρ)) (XQ K W B F σ) := by
  cases m with
  | ok a ρ => exact h
  | exc x ρ => exact fun F' H' cls d s S e => h F' σ H' cls d s S e
  | bad => exact h
theorem spost_frz {r : Rv} {ρ : Env} {f : D → Env → Out} (h : SPost K W B F Dd (oBind (frz r ρ) f)) : ∃ d ρ', frz r ρ = .ok d ρ' ∧ SPost K W B F Dd (f d ρ') := by
  cases e : frz r ρ with
  | ok d ρ' => rw [e] at h; exact ⟨d, ρ', rfl, h⟩
  | exc x ρ' => exact absurd e frz_exc
  | bad => rw [e] at h; exact h.elim
end
section
variable {X : Cx} {W : WX} {st : Stmt} {rest : List Stmt} {e : Expr} {pos : Pos} {φ : Den Rv} {β : Den Bool} {ψ χ : DenS}
theorem dss_nil : DSs X W [] yNext := by
  refine pss_imp pss_nil fun D σ H hq => ?_
  obtain ⟨B, F, ρ, S, w⟩ := hq
  exact w F σ H (Same.refl F) S
theorem dss_cons (h1 : DS X W st ψ) (h2 : DSs X W rest χ) : DSs X W (st :: rest) (ySeq ψ χ) := by
  refine pss_imp (pss_cons h1 h2) fun D σ H hq => ?_
  obtain ⟨B, F, ρ, S, w⟩ := hq
  refine ⟨B, F, ρ, S, ?_⟩
  unfold ySeq Out.andThen at w
  cases e : ψ ρ with
  | next ρ1 =>
    rw [e] at w
    exact fun F1 σ1 H1 s1 S1 => ⟨B, F1, ρ1, S1, SPost.up w s1⟩
  | ret r ρ1 => rw [e] at w; exact w
  | brk ρ1 => rw [e] at w; exact w
  | cont ρ1 => rw [e] at w; exact w
  | exc x ρ1 => rw [e] at w; exact w
  | bad => rw [e] at w; exact w.elim
theorem dss_one (h : DS X W st ψ) : DSs X W [st] ψ := pss_one h
theorem ds_pass : DS X W (.Pass pos) yPass := by
  refine ps_imp ps_pass fun D σ H hq => ?_
  obtain ⟨B, F, ρ, S, w⟩ := hq
  exact w F σ H (Same.refl F) S
theorem ds_break : DS X W (.Break pos) yBreak := by
  refine ps_imp ps_break fun D σ H hq => ?_
  obtain ⟨B, F, ρ, S, w⟩ := hq
  exact w F σ H (Same.refl F) S
theorem ds_continue : DS X W (.Continue pos) yCont := by
  refine ps_imp ps_continue fun D σ H hq => ?_
  obtain ⟨B, F, ρ, S, w⟩ := hq
  exact w F σ H (Same.refl F) S
theorem ds_retN : DS X W (.Return none pos) yRetN := by
  refine ps_imp ps_retN fun D σ H hq => ?_
  obtain ⟨B, F, ρ, S, w⟩ := hq
  exact w F σ .non H (Same.refl F) S .non
theorem ds_ret (h : DE X W e φ) : DS X W (.Return (some e) pos) (yRet φ) := by
  refine ps_imp (ps_ret h) fun D σ H hq => ?_
  obtain ⟨B, F, ρ, S, w⟩ := hq
  refine ⟨B, F, ρ, S, wp_mono (spost_bind w) (fun r ρ1 w1 F1 v H1 s1 S1 q1 => ?_) fun _ _ z => z⟩
  obtain ⟨d, ρ2, e2, w2⟩ := spost_frz w1
  obtain ⟨F2, s2, r2, S2⟩ := S1.frz q1 e2
  exact w2 F2 σ v H1 (s1.trans s2) S2 r2
theorem ds_retNew {φ : Den D} (h : DN X W e φ) : DS X W (.Return (some e) pos) (yRetNew φ) := by
  refine ps_imp (ps_ret h) fun D σ H hq => ?_
  obtain ⟨B, F, ρ, S, w⟩ := hq
  refine ⟨B, F, ρ, S, wp_mono (spost_bind w) (fun d ρ1 w1 F1 p H1 s1 S1 q1 => ?_) fun _ _ z => z⟩
  obtain ⟨c, h1, h2⟩ := q1.ct
  exact w1 F1 σ (.ref p) H1 s1 S1 ⟨p, c, rfl, h1, h2, q1.f0, q1.g0, q1.h0⟩
theorem ds_retOwn {i : Nat} {x : Str} {p : Pos} (hN : X.N[i]? = some x := by rfl) (hv : Vis X.env.scope x := by first | exact Or.inl rfl | exact Or.inr (Or.inl rfl) | exact Or.inr (Or.inr rfl)) (hd : (x == ("__debug__" : Str)) = false := by decide)
    (hcd : (x == ("__classdict__" : Str)) = false := by decide) : DS X W (.Return (some (.Name x p)) pos) (yRetOwn i) := by
  refine ps_imp (ps_ret (pe_var hN hv hd hcd)) fun D σ H hq => ?_
  obtain ⟨B, F, ρ, S, w⟩ := hq
  unfold yRetOwn at w
  cases e : ρ[i]? with
  | none => rw [e] at w; exact w.elim
  | some c =>
    rw [e] at w
    cases c with
    | none => exact w.elim
    | some c =>
      cases c with
      | dat d => exact w.elim
      | own o d =>
        cases o with
        | false => exact w.elim
        | true =>
          obtain ⟨p, c, h1, h2, h3, h4, h5, h6, _⟩ := S.mu i true d e
          exact ⟨.ref p, h1, w F σ (.ref p) H (Same.refl F) S ⟨p, c, rfl, h2, h3, h5, h4, h6 rfl⟩⟩
theorem ds_if {c : Expr} {a b : List Stmt} (hc : DT X W c β) (ha : DSs X W a ψ) (hb : DSs X W b χ) : DS X W (.If c a b pos) (yIf β ψ χ) := by
  refine ps_imp (ps_if hc ha hb) fun D σ H hq => ?_
  obtain ⟨B, F, ρ, S, w⟩ := hq
  refine ⟨B, F, ρ, S, wp_mono (spost_bind w) (fun k ρ1 w1 F1 H1 s1 S1 => ?_) fun _ _ z => z⟩
  cases k with
  | true =>
    rw [if_pos rfl] at w1 ⊢
    exact ⟨B, F1, ρ1, S1, w1.up s1⟩
  | false =>
    rw [if_neg (by simp)] at w1 ⊢
    exact ⟨B, F1, ρ1, S1, w1.up s1⟩
theorem ds_expr (h : DE X W e φ) (hs : swapsWith e none pos.line X.env = pure false := by rfl) : DS X W (.Expr e pos) (yExpr φ) := by
  refine ps_imp (ps_expr h hs) fun D σ H hq => ?_
  obtain ⟨B, F, ρ, S, w⟩ := hq
  exact ⟨B, F, ρ, S, wp_mono (spost_bind w) (fun r ρ1 w1 F1 v H1 s1 S1 q1 => w1 F1 σ H1 s1 S1) fun _ _ z => z⟩
theorem asg_sound {is : List Nat} {γ : DenG} {D : Ends} {σ : St} {H : Hp} (hq : tDS X.K W (ySet γ φ) D σ H) : tAsg (tDE X.K W φ) (tDG X.K is γ) D σ H := by
  obtain ⟨B, F, ρ, S, w⟩ := hq
  refine ⟨B, F, ρ, S, wp_mono (spost_bind w) (fun r ρ1 w1 F1 v H1 s1 S1 q1 => ?_) fun _ _ z => z⟩
  obtain ⟨d, ρ2, e2, w2⟩ := spost_frz w1
  obtain ⟨F2, s2, r2, S2⟩ := S1.frz q1 e2
  cases e3 : γ d ρ2 with
  | none => rw [e3] at w2; exact w2.elim
  | some ρ3 =>
    rw [e3] at w2
    exact ⟨B, F2, ρ2, d, ρ3, S2, r2, e3, fun σ' S' _ => w2 F2 σ' H1 (s1.trans s2) S'⟩
theorem ds_asg {tg : Expr} {is : List Nat} {γ : DenG} (he : DE X W e φ) (hg : DG X tg is γ) (hs : swapsWithSole [tg] e pos.line X.env = pure false := by rfl) (hw : swappedStores [tg] e X.env = pure none := by rfl)
    (h1 : (assignEach [tg] X.env).map (·.2) = [assign tg X.env] := by rfl) : DS X W (.Assign [tg] e pos) (ySet γ φ) :=
  ps_imp (ps_asg he hg hs hw h1) fun _ _ _ h => asg_sound h
theorem ds_set {i : Nat} {x : Str} {pos' : Pos} (hN : X.N.Nodup) (he : DE X W e φ) (hi : X.N[i]? = some x := by rfl) (hx : Loc X.env.scope x := by first | exact Or.inl rfl | exact Or.inr rfl) (hs : swapsWith e (some (.Name x pos')) pos.line X.env = pure false := by rfl)
    (hf : X.fn x = true ∨ X.env.scope.names.lookup x = some .local := by first | exact .inl rfl | exact .inr rfl | assumption) : DS X W (.Assign [.Name x pos'] e pos) (ySet (gSet i) φ) := by
  refine ps_imp (ps_set hN hi hx he hs hf) fun D σ H hq => ?_
  obtain ⟨B, F, ρ, S, w⟩ := hq
  refine ⟨B, F, ρ, S, wp_mono (spost_bind w) (fun r ρ1 w1 F1 v H1 s1 S1 q1 => ?_) fun _ _ z => z⟩
  obtain ⟨d, ρ2, e2, w2⟩ := spost_frz w1
  obtain ⟨F2, s2, r2, S2⟩ := S1.frz q1 e2
  cases e3 : gSet i d ρ2 with
  | none => rw [e3] at w2; exact w2.elim
  | some ρ3 =>
    rw [e3] at w2
    obtain ⟨hc, e4⟩ := if_some e3
    subst e4
    exact w2 F2 _ H1 (s1.trans s2) (S2.setDat (canSet_lt hc) r2)
theorem ds_setNew {i : Nat} {x : Str} {pos' : Pos} {φ : Den D} (hN : X.N.Nodup) (he : DN X W e φ) (hi : X.N[i]? = some x := by rfl) (hx : Loc X.env.scope x := by first | exact Or.inl rfl | exact Or.inr rfl) (hs : swapsWith e (some (.Name x pos')) pos.line X.env = pure false := by rfl)
    (hf : X.fn x = true ∨ X.env.scope.names.lookup x = some .local := by first | exact .inl rfl | exact .inr rfl | assumption) : DS X W (.Assign [.Name x pos'] e pos) (ySetNew i φ) := by
  refine ps_imp (ps_set hN hi hx he hs hf) fun D σ H hq => ?_
  obtain ⟨B, F, ρ, S, w⟩ := hq
  refine ⟨B, F, ρ, S, wp_mono (spost_bind w) (fun d ρ1 w1 F1 p H1 s1 S1 q1 => ?_) fun _ _ z => z⟩
  by_cases hc : canSet ρ1 i = true
  · rw [if_pos hc] at w1
    exact w1 F1 _ H1 s1 (S1.setOwn (canSet_lt hc) q1)
  · rw [if_neg hc] at w1
    exact w1.elim
end

/-! ### for -/
def forD (γ : DenG) (ψ : DenS) : List D → Env → Out
  | [], ρ => .next ρ
  | d :: ds, ρ => match γ d ρ with
    | none => .bad
    | some ρ1 => match ψ ρ1 with
      | .next ρ2 => forD γ ψ ds ρ2
      | .cont ρ2 => forD γ ψ ds ρ2
      | .brk ρ2 => .next ρ2
      | o => o
/-- what is walked: its items; a turn may lay new data -/
def ItOk (K : PySem.W.Frag) (F : Hp) (J : It) (ds : List D) : Prop :=
  (∀ (i : Nat) (d : D) (B : Base) (F1 : Hp) (ρ : Env) (σ : St) (H : Hp), Same F F1 → Sim K B F1 ρ σ H → ds[i]? = some d → J.go i H ∧ ∀ x H', J.yld i H x H' → ∃ F2, Same F1 F2 ∧ Sim K B F2 ρ σ H' ∧ Dr K F2 x d) ∧
    ∀ H, Same F H → J.stop ds.length H
/-- an iterable's reading -/
def tDI (K : PySem.W.Frag) (W : WX) (φ : Den (List D)) : TI := fun σ H R => ∃ B F ρ, Sim K B F ρ σ H ∧
  Wp (φ ρ) (fun ds ρ' => ∀ F' J H', Same F F' → Sim K B F' ρ' σ H' → ItOk K F' J ds → R J H') (XQ K W B F σ)
def DI (X : Cx) (W : WX) (tg e : Expr) (φ : Den (List D)) : Prop := PI X tg e (tDI X.K W φ)
def yFor (ι : Den (List D)) (γ : DenG) (ψ : DenS) : DenS := fun ρ => oBind (ι ρ) fun ds ρ1 => forD γ ψ ds ρ1
theorem pi_imp {X : Cx} {tg e : Expr} {t t' : TI} (h : PI X tg e t) (hi : ∀ σ H R, t' σ H R → t σ H R) : PI X tg e t' := ⟨fun pins s σ H R I q => h.run pins s σ H R I (hi σ H R q)⟩
section
variable {X : Cx} {W : WX} {e tg : Expr} {pos : Pos} {φ : Den Rv} {ι : Den (List D)} {ψ : DenS} {body : List Stmt}
theorem ds_for {k : Nat} (C : Cok X W k) {is : List Nat} {γ : DenG} (hi : DI X W tg e ι) (hg : DG X tg is γ) (hb : DSs X W body ψ) (hs : ∀ x, foldedSetIterable e X.env x = pure x := by intro _; rfl) : DS X W (.For tg e body [] pos) (yFor ι γ ψ) := by
  refine ps_imp (ps_for C.po C.calm hi hg hb hs) fun D σ H hq => ?_
  obtain ⟨B, F, ρ, S, w⟩ := hq
  refine ⟨B, F, ρ, S, wp_mono (spost_bind w) (fun ds ρ1 w1 F1 J H1 s1 S1 q1 => ?_) fun _ _ z => z⟩
  refine ⟨fun i m σ' H' => m + i = ds.length ∧ ∃ F' ρ', Same F1 F' ∧ Sim X.K B F' ρ' σ' H' ∧ SPost X.K W B F' D (forD γ ψ (ds.drop i) ρ'), ⟨ds.length, rfl, F1, ρ1, Same.refl F1, S1, by rw [List.drop_zero]; exact w1.up s1⟩, fun i m σ' H' hw => ?_⟩
  obtain ⟨hm, F', ρ', s', S', w'⟩ := hw
  by_cases hl : i < ds.length
  · have ed : ds.drop i = ds[i] :: ds.drop (i + 1) := List.drop_eq_getElem_cons hl
    have eg : ds[i]? = some ds[i] := List.getElem?_eq_getElem hl
    obtain ⟨h1, h2⟩ := q1.1 i ds[i] B F' ρ' σ' H' s' S' eg
    rw [ed] at w'
    unfold forD at w'
    cases e1 : γ ds[i] ρ' with
    | none => rw [e1] at w'; exact w'.elim
    | some ρ2 =>
      rw [e1] at w'
      simp only at w'
      refine .inr ⟨h1, fun σ2 H2 => ∃ F2 ρ2, Same F1 F2 ∧ Sim X.K B F2 ρ2 σ2 H2 ∧ SPost X.K W B F2 D (forD γ ψ (ds.drop (i + 1)) ρ2), fun σ2 H2 hn => ?_, fun x H2 y => ?_⟩
      · exact ⟨m - 1, by omega, by omega, hn⟩
      · obtain ⟨F4, s4, S4, r⟩ := h2 x H2 y
        refine ⟨B, F4, ρ', ds[i], ρ2, S4, r, e1, fun σ2 S2 _ => ⟨B, F4, ρ2, S2, ?_⟩⟩
        have s' := s'.trans s4
        have w' := SPost.up w' s4
        cases e2 : ψ ρ2 with
        | next ρ3 =>
          rw [e2] at w'
          exact fun F3 σ3 H3 s3 S3 => ⟨F3, ρ3, s'.trans s3, S3, SPost.up w' s3⟩
        | cont ρ3 =>
          rw [e2] at w'
          exact fun F3 σ3 H3 s3 S3 => ⟨F3, ρ3, s'.trans s3, S3, SPost.up w' s3⟩
        | brk ρ3 =>
          rw [e2] at w'
          exact fun F3 σ3 H3 s3 S3 => w' F3 σ3 H3 s3 S3
        | ret r ρ3 => rw [e2] at w'; exact w'
        | exc x ρ3 => rw [e2] at w'; exact w'
        | bad => rw [e2] at w'; exact w'.elim
  · have ei : i = ds.length := by omega
    subst ei
    rw [List.drop_length] at w'
    exact .inl ⟨q1.2 H' (s'.trans S'.f), w' F' σ' H' (Same.refl F') S'⟩

/-- a list or a tuple, as data -/
def xItems (φ : Den Rv) : Den (List D) := fun ρ => (φ ρ).bind fun r ρ1 => (frz r ρ1).bind fun d ρ2 => match d with
  | .list ds => .ok ds ρ2
  | .tuple ds => .ok ds ρ2
  | .str z => .ok (z.cps.toList.map fun c => .str ⟨#[c]⟩) ρ2
  | _ => .bad
theorem its_ok {K : PySem.W.Frag} {F : Hp} {z : Str} : ItOk K F (Its z) (z.cps.toList.map fun c => .str ⟨#[c]⟩) := by
  refine ⟨fun i d B F1 ρ σ H s1 S e => ?_, fun H f => ?_⟩
  · rw [List.getElem?_map] at e
    obtain ⟨c, h1, h2⟩ := Option.map_eq_some_iff.mp e
    subst h2
    have hc : z.cps[i]? = some c := by simpa using h1
    have hi : i < z.cps.size := by
      rw [Array.getElem?_eq_some_iff] at hc
      exact hc.1
    refine ⟨hi, fun x H' y => ?_⟩
    obtain ⟨rfl, c', e', rfl⟩ := y
    rw [hc] at e'
    cases e'
    exact ⟨F1, Same.refl F1, S, .str _⟩
  · show z.cps.size ≤ (z.cps.toList.map fun c => PyData.str ⟨#[c]⟩).length
    simp
theorem itl_ok {K : PySem.W.Frag} {F : Hp} {a : Addr} {vs : List V} {ds : List D} (q : SqL K F a vs) (r : DrAll K F vs ds) : ItOk K F (Itl K a) ds := by
  refine ⟨fun i d B F1 ρ σ H s1 S e => ?_, fun H f => ⟨vs, f.seq q, by rw [r.length]; exact Nat.le_refl _⟩⟩
  obtain ⟨v, h1, h2⟩ := r.get e
  have f := s1.trans S.f
  refine ⟨⟨vs, v, f.seq q, h1⟩, fun x H' y => ?_⟩
  obtain ⟨rfl, y⟩ := y
  have e2 := y vs (f.seq q)
  rw [h1] at e2
  cases e2
  exact ⟨F1, Same.refl F1, S, h2.up s1⟩
theorem itt_ok {K : PySem.W.Frag} {F : Hp} {a : Addr} {vs : List V} {ds : List D} (q : SqT K F a vs) (r : DrAll K F vs ds) : ItOk K F (Itt K a) ds := by
  refine ⟨fun i d B F1 ρ σ H s1 S e => ?_, fun H f => ⟨vs, sqT_mono f q, by rw [r.length]; exact Nat.le_refl _⟩⟩
  obtain ⟨v, h1, h2⟩ := r.get e
  have f := s1.trans S.f
  refine ⟨⟨vs, v, sqT_mono f q, h1⟩, fun x H' y => ?_⟩
  obtain ⟨rfl, y⟩ := y
  have e2 := y vs (sqT_mono f q)
  rw [h1] at e2
  cases e2
  exact ⟨F1, Same.refl F1, S, h2.up s1⟩
theorem di_seq (h : DE X W e φ) : DI X W tg e (xItems φ) := by
  refine ⟨fun pins s σ H R I hq => ?_⟩
  obtain ⟨B, F, ρ, S, w⟩ := hq
  have w0 := wp_bind w
  cases e1 : φ ρ with
  | bad => rw [e1] at w0; exact w0.elim
  | exc x ρ1 =>
    rw [e1] at w0
    exact (pi_list h).run pins s σ H R I ⟨B, F, ρ, S, by rw [e1]; exact w0⟩
  | ok r ρ1 =>
    rw [e1] at w0
    obtain ⟨d, ρ2, e2, w2⟩ := wp_frz (wp_bind w0)
    cases d with
    | list ds =>
      refine (pi_list h).run pins s σ H R I ⟨B, F, ρ, S, ?_⟩
      rw [e1]
      intro F1 v H1 s1 S1 q1
      obtain ⟨F2, s2, r2, S2⟩ := S1.frz q1 e2
      cases r2 with
      | lst q r => exact ⟨_, rfl, ⟨_, S2.f.seq q⟩, w2 F2 _ H1 (s1.trans s2) S2 (itl_ok q r)⟩
    | tuple ds =>
      refine (pi_tup h).run pins s σ H R I ⟨B, F, ρ, S, ?_⟩
      rw [e1]
      intro F1 v H1 s1 S1 q1
      obtain ⟨F2, s2, r2, S2⟩ := S1.frz q1 e2
      cases r2 with
      | tup q r => exact ⟨_, rfl, ⟨_, sqT_mono S2.f q⟩, w2 F2 _ H1 (s1.trans s2) S2 (itt_ok q r)⟩
    | str z =>
      refine (pi_str h).run pins s σ H R I ⟨B, F, ρ, S, ?_⟩
      rw [e1]
      intro F1 v H1 s1 S1 q1
      obtain ⟨F2, s2, r2, S2⟩ := S1.frz q1 e2
      cases r2
      exact ⟨_, rfl, w2 F2 _ H1 (s1.trans s2) S2 its_ok⟩
    | _ => exact w2.elim
/-- range(n), range(a, b) -/
def rangeL (lo : Int) (n : Nat) : List D := (List.range n).map fun (i : Nat) => PyData.int (lo + (i : Int))
def gRange1 : List D → Option (List D)
  | [.int j] => if -(2 ^ 62) ≤ j ∧ j < 2 ^ 62 then some (rangeL 0 j.toNat) else none
  | _ => none
def gRange2 : List D → Option (List D)
  | [.int i, .int j] => if -(2 ^ 62) ≤ i ∧ i < 2 ^ 62 ∧ -(2 ^ 62) ≤ j ∧ j < 2 ^ 62 then some (rangeL i (j - i).toNat) else none
  | _ => none
def xRng (g : List D → Option (List D)) (φ : Den (List Rv)) : Den (List D) := fun ρ => (φ ρ).bind fun rs ρ1 => ofO ((looks ρ1 rs).bind g) ρ1
theorem itr_ok {K : PySem.W.Frag} {F : Hp} {lo : Int} {n : Nat} : ItOk K F (Itr lo n) (rangeL lo n) := by
  refine ⟨fun i d B F1 ρ σ H s1 S e => ?_, fun H f => ?_⟩
  · unfold rangeL at e
    rw [List.getElem?_map] at e
    obtain ⟨j, h1, h2⟩ := Option.map_eq_some_iff.mp e
    have hi : i < n := by
      have := (List.getElem?_eq_some_iff.mp h1).1
      simpa using this
    have hj : j = i := by
      rw [List.getElem?_range hi] at h1
      exact (Option.some.inj h1).symm
    subst hj
    refine ⟨hi, fun x H' y => ?_⟩
    obtain ⟨rfl, rfl⟩ := y
    subst h2
    exact ⟨F1, Same.refl F1, S, .int _⟩
  · show n ≤ (rangeL lo n).length
    unfold rangeL
    simp
theorem looks_one {ρ : Env} {rs : List Rv} {d : D} (h : looks ρ rs = some [d]) : ∃ r, rs = [r] ∧ look ρ r = some d := by
  cases rs with
  | nil => cases h
  | cons r rs =>
    obtain ⟨d', ds, e1, e2, e3⟩ := looks_cons h
    cases e1
    cases rs with
    | nil => exact ⟨r, rfl, e2⟩
    | cons r' rs =>
      obtain ⟨_, _, e4, _⟩ := looks_cons e3
      cases e4
theorem looks_two {ρ : Env} {rs : List Rv} {d d' : D} (h : looks ρ rs = some [d, d']) : ∃ r r', rs = [r, r'] ∧ look ρ r = some d ∧ look ρ r' = some d' := by
  cases rs with
  | nil => cases h
  | cons r rs =>
    obtain ⟨d', ds, e1, e2, e3⟩ := looks_cons h
    cases e1
    obtain ⟨r', rfl, e4⟩ := looks_one e3
    exact ⟨r, r', rfl, e2, e4⟩
theorem di_range1 {a : Expr} {p pos : Pos} {φ : Den (List Rv)} (hg : Gl X "range") (hm : X.mg "range" = none) (ha : DA X W [a] φ) (hs : starEach [a] X.env = [(false, eval a X.env)] := by rfl) : DI X W tg (.Call (.Name "range" p) [a] [] pos) (xRng gRange1 φ) := by
  refine pi_imp (pi_range1 hg hm ha hs) fun σ H R hq => ?_
  obtain ⟨B, F, ρ, S, w⟩ := hq
  refine ⟨B, F, ρ, S, wp_mono (wp_bind w) (fun rs ρ1 w1 F1 vs H1 s1 S1 q1 => ?_) fun _ _ z => z⟩
  obtain ⟨ds, e1, w2⟩ := wp_ofO w1
  obtain ⟨as, e2, e3⟩ := Option.bind_eq_some_iff.mp e1
  unfold gRange1 at e3
  split at e3
  · rename_i j
    obtain ⟨hz, e3⟩ := if_some e3
    obtain ⟨r, rfl, e4⟩ := looks_one e2
    cases q1 with
    | cons q1 t =>
      cases t
      rw [S1.int q1 e4]
      subst e3
      exact ⟨j, rfl, hz.1, hz.2, w2 F1 _ H1 s1 S1 itr_ok⟩
  · cases e3
theorem di_range2 {a b : Expr} {p pos : Pos} {φ : Den (List Rv)} (hg : Gl X "range") (hm : X.mg "range" = none) (ha : DA X W [a, b] φ) (hs : starEach [a, b] X.env = [(false, eval a X.env), (false, eval b X.env)] := by rfl) (hs2 : starEach [b] X.env = [(false, eval b X.env)] := by rfl) :
    DI X W tg (.Call (.Name "range" p) [a, b] [] pos) (xRng gRange2 φ) := by
  refine pi_imp (pi_range2 hg hm ha hs hs2) fun σ H R hq => ?_
  obtain ⟨B, F, ρ, S, w⟩ := hq
  refine ⟨B, F, ρ, S, wp_mono (wp_bind w) (fun rs ρ1 w1 F1 vs H1 s1 S1 q1 => ?_) fun _ _ z => z⟩
  obtain ⟨ds, e1, w2⟩ := wp_ofO w1
  obtain ⟨as, e2, e3⟩ := Option.bind_eq_some_iff.mp e1
  unfold gRange2 at e3
  split at e3
  · rename_i i j
    obtain ⟨hz, e3⟩ := if_some e3
    obtain ⟨r, r', rfl, e4, e5⟩ := looks_two e2
    cases q1 with
    | cons q1 t =>
      cases t with
      | cons q2 t =>
        cases t
        rw [S1.int q1 e4, S1.int q2 e5]
        subst e3
        exact ⟨i, j, rfl, hz, w2 F1 _ H1 s1 S1 itr_ok⟩
  · cases e3
end

/-! ### while: with so many turns at most -/
def whileD (c : Den Bool) (ψ : DenS) : Nat → Env → Out
  | 0, _ => .bad
  | n + 1, ρ => oBind (c ρ) fun k ρ1 => if k = true then match ψ ρ1 with
      | .next ρ2 => whileD c ψ n ρ2
      | .cont ρ2 => whileD c ψ n ρ2
      | .brk ρ2 => .next ρ2
      | o => o
    else .next ρ1
def yWhile (n : Nat) (c : Den Bool) (ψ : DenS) : DenS := whileD c ψ n
section
variable {X : Cx} {W : WX} {c : Expr} {pos : Pos} {β : Den Bool} {ψ : DenS} {body : List Stmt}
theorem ds_while {k : Nat} (C : Cok X W k) (n : Nat) (hc : DT X W c β) (hb : DSs X W body ψ) : DS X W (.While c body [] pos) (yWhile n β ψ) := by
  refine ps_imp (ps_while C.po hc hb) fun D σ H hq => ?_
  obtain ⟨B, F, ρ, S, w⟩ := hq
  refine ⟨fun m σ' H' => ∃ F' ρ', Same F F' ∧ Sim X.K B F' ρ' σ' H' ∧ SPost X.K W B F' D (whileD β ψ m ρ'), ⟨n, F, ρ, Same.refl F, S, w⟩, fun m σ' H' hw => ?_⟩
  obtain ⟨F', ρ', s', S', w'⟩ := hw
  cases m with
  | zero => exact w'.elim
  | succ m =>
    refine ⟨B, F', ρ', S', wp_mono (spost_bind w') (fun k ρ1 w1 F1 H1 s1 S1 => ?_) fun _ _ z => z⟩
    cases k with
    | true =>
      rw [if_pos rfl] at w1 ⊢
      refine ⟨fun σ2 H2 => ∃ F2 ρ2, Same F F2 ∧ Sim X.K B F2 ρ2 σ2 H2 ∧ SPost X.K W B F2 D (whileD β ψ m ρ2), fun σ2 H2 hn => ⟨m, Nat.lt_succ_self m, hn⟩, B, F1, ρ1, S1, ?_⟩
      have w1 := w1.up s1
      have sF := s'.trans s1
      cases e2 : ψ ρ1 with
      | next ρ3 =>
        rw [e2] at w1
        exact fun F3 σ3 H3 s3 S3 => ⟨F3, ρ3, sF.trans s3, S3, SPost.up w1 s3⟩
      | cont ρ3 =>
        rw [e2] at w1
        exact fun F3 σ3 H3 s3 S3 => ⟨F3, ρ3, sF.trans s3, S3, SPost.up w1 s3⟩
      | brk ρ3 =>
        rw [e2] at w1
        exact fun F3 σ3 H3 s3 S3 => w1 F3 σ3 H3 s3 S3
      | ret r ρ3 => rw [e2] at w1; exact w1
      | exc x ρ3 => rw [e2] at w1; exact w1
      | bad => rw [e2] at w1; exact w1.elim
    | false =>
      rw [if_neg (by simp)] at w1 ⊢
      exact w1 F1 σ' H1 s1 S1
end

/-! ### o[i] = e, o[i] op= e, name op= e, at a slot's own list; append, pop -/
def setIx (i : Nat) (k : D) (d : D) (ρ : Env) : Option Env := match ρ[i]?, k with
  | some (some (.own o (.list ds))), .int j => (ixN ds.length j).map fun m => ρ.set i (some (.own o (.list (ds.set m d))))
  | _, _ => none
theorem setIx_ok {i : Nat} {k d : D} {ρ ρ' : Env} (h : setIx i k d ρ = some ρ') : ∃ o ds j m, ρ[i]? = some (some (.own o (.list ds))) ∧ k = .int j ∧ ixN ds.length j = some m ∧ ρ' = ρ.set i (some (.own o (.list (ds.set m d)))) := by
  unfold setIx at h
  split at h
  · rename_i o ds j e
    obtain ⟨m, h1, h2⟩ := Option.map_eq_some_iff.mp h
    exact ⟨o, ds, j, m, e, rfl, h1, h2.symm⟩
  · cases h
def ySetIx (i : Nat) (ι φ : Den Rv) : DenS := fun ρ => oBind (φ ρ) fun r ρ1 => oBind (frz r ρ1) fun d ρ2 => oBind (xName i ρ2) fun _ ρ3 => oBind (ι ρ3) fun j ρ4 => match look ρ4 j with
  | some k => (match setIx i k d ρ4 with
    | some ρ5 => .next ρ5
    | none => .bad)
  | none => .bad
section
variable {X : Cx} {W : WX} {o e ie : Expr} {pos tpos p : Pos} {ι φ : Den Rv}
theorem own_set {K : PySem.W.Frag} {B : Base} {F : Hp} {ρ ρ' : Env} {σ : St} {H : Hp} (S : Sim K B F ρ σ H) {i : Nat} {k d : D} {v : V} {oa : V} (q : Dr K F v d) (eo : σ[i]? = some (some oa)) (h : setIx i k d ρ = some ρ') :
    ∃ p xs j m, oa = .ref p ∧ k = .int j ∧ H p = some (.lst xs) ∧ ixN xs.length j = some m ∧ Sim K B F ρ' σ (upd H p (.lst (xs.set m v))) := by
  obtain ⟨ow, ds, j, m, e1, e2, e3, e4⟩ := setIx_ok h
  obtain ⟨p, c, h1, h2, h3, _⟩ := S.mu i ow _ e1
  rw [eo] at h1; cases h1
  obtain ⟨vs, rfl, r⟩ := h3.list
  refine ⟨p, vs, j, m, rfl, e2, h2, by rw [r.length]; exact e3, ?_⟩
  subst e4
  exact S.change e1 eo (show Cont K F (.lst (vs.set m v)) (.list (ds.set m d)) from DrAll.set q m r)
theorem xName_at {K : PySem.W.Frag} {B : Base} {F : Hp} {ρ : Env} {σ : St} {H : Hp} (S : Sim K B F ρ σ H) {i : Nat} {P : Rv → Env → Prop} {E : Exc → Env → Prop} (h : Wp (xName i ρ) P E) : ∃ r v, σ[i]? = some (some v) ∧ RvOk K F σ r v ∧ P r ρ := by
  unfold xName at h
  cases e : ρ[i]? with
  | none => rw [e] at h; exact h.elim
  | some c =>
    rw [e] at h
    cases c with
    | none => exact h.elim
    | some c =>
      cases c with
      | dat d =>
        obtain ⟨v, h1, h2⟩ := S.dat i d e
        exact ⟨.dat d, v, h1, h2, h⟩
      | own o d =>
        obtain ⟨p, c, h1, _⟩ := S.mu i o d e
        exact ⟨.slot i, .ref p, h1, h1, h⟩
theorem ds_setIx {i : Nat} {x : Str} (he : DE X W e φ) (hi : DE X W ie ι) (hN : X.N[i]? = some x := by rfl) (hv : Vis X.env.scope x := by first | exact Or.inl rfl | exact Or.inr (Or.inl rfl) | exact Or.inr (Or.inr rfl)) (hd : (x == ("__debug__" : Str)) = false := by decide)
    (hcd : (x == ("__classdict__" : Str)) = false := by decide) (hs : swapsWithSole [.Subscript (.Name x p) ie tpos] e pos.line X.env = pure false := by rfl) (hw : swappedStores [.Subscript (.Name x p) ie tpos] e X.env = pure none := by rfl)
    (h1 : (assignEach [.Subscript (.Name x p) ie tpos] X.env).map (·.2) = [assign (.Subscript (.Name x p) ie tpos) X.env] := by rfl)
    (ha : ∀ v, assign (.Subscript (.Name x p) ie tpos) X.env v = (do
      let ov ← holding [v] (eval (.Name x p) X.env)
      let iv ← holding [v, ov] (eval ie X.env)
      standAt tpos
      holding [v, ov, iv] (setItem ov iv v)
      release [v, ov, iv] []) := by intro _; rfl) : DS X W (.Assign [.Subscript (.Name x p) ie tpos] e pos) (ySetIx i ι φ) := by
  refine ps_imp (ps_asg he (pg_sub (pe_var hN hv hd hcd) hi set_list ha) hs hw h1) fun D σ H hq => ?_
  obtain ⟨B, F, ρ, S, w⟩ := hq
  refine ⟨B, F, ρ, S, wp_mono (spost_bind w) (fun r ρ1 w1 F1 v H1 s1 S1 q1 => ?_) fun _ _ z => z⟩
  obtain ⟨d, ρ2, e2, w2⟩ := spost_frz w1
  obtain ⟨F2, s2, r2, S2⟩ := S1.frz q1 e2
  obtain ⟨_, oa, eo, _, w3⟩ := xName_at S2 (spost_bind (σ := σ) (w2.up (s1.trans s2)))
  refine ⟨oa, eo, B, F2, ρ2, S2, wp_mono (spost_bind w3) (fun j ρ3 w4 F3 jv H3 s3 S3 q3 => ?_) fun _ _ z => z⟩
  cases e4 : look ρ3 j with
  | none => rw [e4] at w4; exact w4.elim
  | some k =>
    rw [e4] at w4
    cases e5 : setIx i k d ρ3 with
    | none => simp only [e5] at w4; exact w4.elim
    | some ρ4 =>
      simp only [e5] at w4
      obtain ⟨p, xs, j', m, rfl, rfl, h2, h3, S4⟩ := own_set S3 (r2.up s3) eo e5
      exact ⟨p, xs, j', m, rfl, S3.int q3 e4, h2, h3, w4 F3 σ _ s3 S4⟩
/-- o[i], by values: a list's item -/
def tGetL (K : PySem.W.Frag) : V → V → Hp → VK → Prop := fun x y H Q => ∃ p xs i v, x = .ref p ∧ y = .int i ∧ SqL K H p xs ∧ 0 ≤ i ∧ xs[i.toNat]? = some v ∧ Q v H
theorem get_listL : PGet X (tGetL X.K) := by
  intro pins s σ H x y ov iv Q I ro ri hq
  obtain ⟨p, xs, i, v, rfl, rfl, hl, h0, hx, q⟩ := hq
  cases ro
  obtain ⟨t, rfl⟩ := ri
  obtain ⟨its, r, pl, hz⟩ := I.list hl
  obtain ⟨u, hu, ru⟩ := r.get hx
  have hi : i.toNat < xs.length := (List.getElem?_eq_some_iff.mp hx).1
  have hn := line63
  exact wpAny_getItem_list pl.isList h0 (by omega) (x := u) (by simpa using hu) ⟨v, H, I, ru, q⟩
def gGetL : D → D → Option D
  | .list xs, .int i => if 0 ≤ i then xs[i.toNat]? else none
  | _, _ => none
theorem s2_getL {K : PySem.W.Frag} : S2 K (tGetL K) gGetL := by
  intro B F ρ σ H x y a b da db dz Q S ra rb ea eb e q
  cases da <;> cases db <;> simp only [gGetL, reduceCtorEq] at e
  rename_i ds i
  by_cases h0 : 0 ≤ i
  · rw [if_pos h0] at e
    obtain ⟨p, vs, rfl, h1, h2⟩ := S.items ra ea
    obtain ⟨v, h3, h4⟩ := h2.get e
    exact ⟨p, vs, i, v, rfl, S.int rb eb, h1, h0, h3, q F _ H (Same.refl F) S h4⟩
  · rw [if_neg h0] at e; cases e
/-- name[ie] op= e: the operation's own rule in place -/
def yAugIx (g : D → D → Option D) (i : Nat) (ι φ : Den Rv) : DenS := fun ρ => oBind (xName i ρ) fun o ρ1 => oBind (ι ρ1) fun j ρ2 => oBind (appl2 gGetL o j ρ2) fun old ρ3 => oBind (φ ρ3) fun r ρ4 => oBind (appl2 g old r ρ4) fun new ρ5 => match new, look ρ5 j with
  | .dat d, some k => (match setIx i k d ρ5 with
    | some ρ6 => .next ρ6
    | none => .bad)
  | _, _ => .bad
def PIpOk (K : PySem.W.Frag) (t : TIp) (g : D → D → Option D) : Prop := S2 K t g
theorem ds_augIx {i : Nat} {x : Str} {op : Operator} {t : TIp} {g : D → D → Option D} (ho : PIp X op t) (hg : S2 X.K t g) (he : DE X W e φ) (hi : DE X W ie ι) (hN : X.N[i]? = some x := by rfl) (hv : Vis X.env.scope x := by first | exact Or.inl rfl | exact Or.inr (Or.inl rfl) | exact Or.inr (Or.inr rfl)) (hd : (x == ("__debug__" : Str)) = false := by decide)
    (hcd : (x == ("__classdict__" : Str)) = false := by decide)
    (ha : ∀ ov iv new, augStore ie ov iv new = (do holding [new, ov, iv] (setItem ov iv new); release [new, ov, iv] []; pure .next) := by intros; rfl) : DS X W (.AugAssign (.Subscript (.Name x p) ie tpos) op e pos) (yAugIx g i ι φ) := by
  refine ps_imp (ps_augS (pe_var hN hv hd hcd) hi get_listL he ho set_list ha) fun D σ H hq => ?_
  obtain ⟨B, F, ρ, S, w⟩ := hq
  obtain ⟨o, oa, eo, qo, w1⟩ := xName_at S (spost_bind (σ := σ) w)
  refine ⟨oa, eo, B, F, ρ, S, wp_mono (spost_bind w1) (fun j ρ2 w2 F2 jv H2 s2 S2 q2 => ?_) fun _ _ z => z⟩
  obtain ⟨da, db, dz, e1, e2, e3, w3⟩ := wp_appl2 (spost_bind (σ := σ) w2)
  refine s2_getL B F2 ρ2 σ H2 oa jv o j da db dz _ S2 (qo.up s2) q2 e1 e2 e3 fun F3 ov H3 s3 S3 r3 => ?_
  have s03 := s2.trans s3
  refine ⟨B, F3, ρ2, S3, wp_mono (spost_bind (w3.up s03)) (fun r ρ4 w4 F4 y H4 s4 S4 q4 => ?_) fun _ _ z => z⟩
  obtain ⟨dx, dy, dn, e4, e5, e6, w5⟩ := wp_appl2 (spost_bind (σ := σ) w4)
  refine hg B F4 ρ4 σ H4 ov y (.dat dz) r dx dy dn _ S4 (RvOk.up (r := .dat dz) r3 s4) q4 e4 e5 e6 fun F5 z H5 s5 S5 r5 => ?_
  cases e7 : look ρ4 j with
  | none => simp only [e7] at w5; exact w5.elim
  | some k =>
    simp only [e7] at w5
    cases e8 : setIx i k dn ρ4 with
    | none => simp only [e8] at w5; exact w5.elim
    | some ρ6 =>
      simp only [e8] at w5
      obtain ⟨p, xs, j', m, rfl, rfl, h2, h3, S6⟩ := own_set S5 r5 eo e8
      have q5 := ((q2.up s3).up s4).up s5
      exact ⟨p, xs, j', m, rfl, S5.int q5 e7, h2, h3, w5 F5 σ _ (s4.trans s5) S6⟩
/-- name op= e -/
def yAug (g : D → D → Option D) (i : Nat) (φ : Den Rv) : DenS := fun ρ => oBind (xName i ρ) fun o ρ1 => oBind (φ ρ1) fun r ρ2 => oBind (appl2 g o r ρ2) fun new ρ3 => match new with
  | .dat d => if canSet ρ3 i then .next (ρ3.set i (some (.dat d))) else .bad
  | _ => .bad
theorem ds_aug {i : Nat} {x : Str} {op : Operator} {t : TIp} {g : D → D → Option D} (hN : X.N.Nodup) (ho : PIp X op t) (hg : S2 X.K t g) (he : DE X W e φ) (hi : X.N[i]? = some x := by rfl) (hx : Loc X.env.scope x := by first | exact Or.inl rfl | exact Or.inr rfl)
    (hf : X.fn x = true ∨ X.env.scope.names.lookup x = some .local := by first | exact .inl rfl | exact .inr rfl | assumption) : DS X W (.AugAssign (.Name x p) op e pos) (yAug g i φ) := by
  refine ps_imp (ps_aug hN hi hx he ho hf) fun D σ H hq => ?_
  obtain ⟨B, F, ρ, S, w⟩ := hq
  obtain ⟨o, oa, eo, qo, w1⟩ := xName_at S (spost_bind (σ := σ) w)
  refine ⟨oa, eo, B, F, ρ, S, wp_mono (spost_bind w1) (fun r ρ2 w2 F2 y H2 s2 S2 q2 => ?_) fun _ _ z => z⟩
  obtain ⟨da, db, dz, e1, e2, e3, w3⟩ := wp_appl2 (spost_bind (σ := σ) w2)
  refine hg B F2 ρ2 σ H2 oa y o r da db dz _ S2 (qo.up s2) q2 e1 e2 e3 fun F3 z H3 s3 S3 r3 => ?_
  by_cases hc : canSet ρ2 i = true
  · simp only [hc, if_true] at w3
    exact w3 F3 _ H3 (s2.trans s3) (S3.setDat (canSet_lt hc) r3)
  · simp only [hc] at w3
    exact w3.elim
theorem ip_of {K : PySem.W.Frag} {f : Int → Int → Int} {g : D → D → Option D} (h : ∀ da db dz, g da db = some dz → ∃ i j, da = .int i ∧ db = .int j ∧ dz = .int (f i j)) : S2 K (ipI f) g := by
  intro B F ρ σ H x y a b da db dz Q S ra rb ea eb e q
  obtain ⟨i, j, rfl, rfl, rfl⟩ := h _ _ _ e
  exact ⟨i, j, S.int ra ea, S.int rb eb, q F _ H (Same.refl F) S (.int _)⟩
def gAddI : D → D → Option D
  | .int i, .int j => some (.int (i + j))
  | _, _ => none
theorem s2_iadd {K : PySem.W.Frag} : S2 K (ipI fun i j => i + j) gAddI := ip_of fun da db dz e => by
  cases da <;> cases db <;> simp only [gAddI, reduceCtorEq, Option.some.injEq] at e
  exact ⟨_, _, rfl, rfl, e.symm⟩
theorem s2_isub {K : PySem.W.Frag} : S2 K (ipI fun i j => i - j) gSub := ip_of fun da db dz e => by
  cases da <;> cases db <;> simp only [gSub, reduceCtorEq, Option.some.injEq] at e
  exact ⟨_, _, rfl, rfl, e.symm⟩

end

/-! ### name.m(..), m a method that changes the slot's own list -/
def xMut (i : Nat) (op : List D → List D → Option (List D × D)) (φ : Den (List Rv)) : Den Rv := fun ρ => match ρ[i]? with
  | some (some (.own _ (.list _))) => (φ ρ).bind fun rs ρ1 => match ρ1[i]?, dats rs with
    | some (some (.own o (.list ds))), some as => (match op ds as with
      | some (ds', z) => .ok (.dat z) (ρ1.set i (some (.own o (.list ds'))))
      | none => .bad)
    | _, _ => .bad
  | _ => .bad
def SM (K : PySem.W.Frag) (r : V → List V → Hp → VK → Prop) (op : List D → List D → Option (List D × D)) : Prop :=
  ∀ (F H : Hp) (p : Addr) (vs as : List V) (ds da ds' : List D) (z : D) (Q : VK), H p = some (.lst vs) → DrAll K F vs ds → DrAll K F as da → op ds da = some (ds', z) →
    (∀ vs' v, DrAll K F vs' ds' → Dr K F v z → Q v (upd H p (.lst vs'))) → r (.ref p) as H Q
section
variable {X : Cx} {W : WX} {K : PySem.W.Frag} {e : Expr} {es : List Expr} {cpos apos p : Pos} {φ : Den (List Rv)}
theorem xMut_sound {i : Nat} {op : List D → List D → Option (List D × D)} {r : V → List V → Hp → VK → Prop} (hs : SM X.K r op) {σ : St} {H : Hp} {Q : VK} (h : tDE X.K W (xMut i op φ) σ H Q) :
    tBM X.K "list" r (tVar i) (tDA X.K W φ) σ H Q := by
  obtain ⟨B, F, ρ, S, w⟩ := h
  unfold xMut at w
  split at w
  · rename_i o ds0 e0
    obtain ⟨p, c, h1, h2, h3, _⟩ := S.mu i o _ e0
    obtain ⟨vs0, rfl, r0⟩ := h3.list
    refine ⟨.ref p, h1, .inl ⟨rfl, _, SqL.of h2⟩, B, F, ρ, S, wp_mono (wp_bind w) (fun rs ρ1 w1 F1 as H1 s1 S1 q1 => ?_) fun _ _ z => z⟩
    split at w1
    · rename_i o' ds das e1 e2
      cases e3 : op ds das with
      | none => simp only [e3] at w1; exact w1.elim
      | some pr =>
        obtain ⟨ds', z⟩ := pr
        simp only [e3] at w1
        obtain ⟨p', c', g1, g2, g3, _⟩ := S1.mu i o' _ e1
        rw [h1] at g1; cases g1
        obtain ⟨vs, rfl, r1⟩ := g3.list
        exact hs F1 H1 p vs as ds das ds' z Q g2 r1 (dats_ok e2 q1) e3 fun vs' v r2 r3 => w1 F1 v _ s1 (S1.change e1 h1 (show Cont X.K F1 (.lst vs') (.list ds') from r2)) r3
    · exact w1.elim
  · exact w.elim
theorem xMut0_sound {i : Nat} {op : List D → List D → Option (List D × D)} {r : V → List V → Hp → VK → Prop} (hs : SM X.K r op) {σ : St} {H : Hp} {Q : VK} (h : tDE X.K W (xMut i op xNil) σ H Q) :
    tBM0 X.K "list" r (tVar i) σ H Q := by
  obtain ⟨B, F, ρ, S, w⟩ := h
  unfold xMut at w
  split at w
  · rename_i o ds e0
    obtain ⟨p, c, h1, h2, h3, _⟩ := S.mu i o _ e0
    obtain ⟨vs, rfl, r0⟩ := h3.list
    refine ⟨.ref p, h1, .inl ⟨rfl, _, SqL.of h2⟩, ?_⟩
    simp only [xNil, Ans.bind_ok, e0, dats_nil] at w
    cases e3 : op ds [] with
    | none => simp only [e3] at w; exact w.elim
    | some pr =>
      obtain ⟨ds', z⟩ := pr
      simp only [e3] at w
      exact hs F H p vs [] ds [] ds' z Q h2 r0 .nil e3 fun vs' v r2 r3 => w F v _ (Same.refl F) (S.change e0 h1 (show Cont X.K F (.lst vs') (.list ds') from r2)) r3
  · exact w.elim
theorem de_mut {i : Nat} {x name : Str} {id : String} {op : List D → List D → Option (List D × D)} {r : V → List V → Hp → VK → Prop} (slot : Slot "list" name id) (hty : typeOf (.builtin id) = pure (.type "method_descriptor")) (hm : MtR X id r) (hs : SM X.K r op)
    (ha : DA X W (e :: es) φ) (hN : X.N[i]? = some x := by rfl) (hv : Vis X.env.scope x := by first | exact Or.inl rfl | exact Or.inr (Or.inl rfl) | exact Or.inr (Or.inr rfl)) (hd : (x == ("__debug__" : Str)) = false := by decide)
    (hcd : (x == ("__classdict__" : Str)) = false := by decide)
    (hbase : attributeBase (.Name x p) name X.env (eval (.Name x p) X.env) = eval (.Name x p) X.env := by rfl)
    (hfew : ((backTo cpos (starEach (e :: es) X.env)).all (fun x => !x.1) && (backToKw cpos (keywordEach [] X.env)).all (fun x => x.1.isSome)
      && decide ((e :: es).length + ([] : List Keyword).length + (if ([] : List Keyword).isEmpty then 0 else 1) < 30)) = true := by rfl)
    (hline : (apos.endLine == cpos.line) = true := by rfl) (hst : starEach (e :: es) X.env = (false, eval e X.env) :: starEach es X.env := by rfl) (hplain : (backTo cpos (starEach es X.env)).any (·.1) = false := by rfl) :
    DE X W (.Call (.Attribute (.Name x p) name apos) (e :: es) [] cpos) (xMut i op φ) :=
  pe_imp (pe_bm PySem.F.plainAttrs_list slot hty hm (pe_var hN hv hd hcd) ha hbase hfew hline hst hplain) fun _ _ _ h => xMut_sound hs h
theorem de_mut0 {i : Nat} {x name : Str} {id : String} {op : List D → List D → Option (List D × D)} {r : V → List V → Hp → VK → Prop} (slot : Slot "list" name id) (hty : typeOf (.builtin id) = pure (.type "method_descriptor")) (hm : MtR X id r) (hs : SM X.K r op)
    (hN : X.N[i]? = some x := by rfl) (hv : Vis X.env.scope x := by first | exact Or.inl rfl | exact Or.inr (Or.inl rfl) | exact Or.inr (Or.inr rfl)) (hd : (x == ("__debug__" : Str)) = false := by decide)
    (hcd : (x == ("__classdict__" : Str)) = false := by decide) (hbase : attributeBase (.Name x p) name X.env (eval (.Name x p) X.env) = eval (.Name x p) X.env := by rfl) (hline : (apos.endLine == cpos.line) = true := by rfl) :
    DE X W (.Call (.Attribute (.Name x p) name apos) [] [] cpos) (xMut i op xNil) :=
  pe_imp (pe_bm0 PySem.F.plainAttrs_list slot hty hm (pe_var hN hv hd hcd) hbase hline) fun _ _ _ h => xMut0_sound hs h
def oAppend (ds as : List D) : Option (List D × D) := match as with
  | [d] => if ds.length < sizeLine then some (ds ++ [d], .none) else none
  | _ => none
theorem sm_append : SM K rAppend oAppend := by
  intro F H p vs as ds da ds' z Q h r ra e q
  unfold oAppend at e
  split at e
  · rename_i d
    obtain ⟨hz, e⟩ := if_some e
    cases e
    cases ra with
    | cons a t =>
      cases t
      exact ⟨p, vs, _, rfl, rfl, h, by rw [r.length]; exact hz, q _ _ (r.append (.cons a .nil)) .non⟩
  · cases e
def oPop (ds as : List D) : Option (List D × D) := match as with
  | [] => (ds[ds.length - 1]?).map fun d => (ds.dropLast, d)
  | _ => none
theorem DrAll.dropLast {F : Hp} {vs : List V} {ds : List D} (r : DrAll K F vs ds) : DrAll K F vs.dropLast ds.dropLast := by
  rw [List.dropLast_eq_take, List.dropLast_eq_take, r.length]
  exact r.take _
theorem sm_pop : SM K rPop oPop := by
  intro F H p vs as ds da ds' z Q h r ra e q
  unfold oPop at e
  split at e
  · obtain ⟨d, e1, e2⟩ := Option.map_eq_some_iff.mp e
    cases e2
    cases ra
    obtain ⟨v, h1, h2⟩ := r.get e1
    exact ⟨p, vs, v, rfl, rfl, h, by rw [r.length]; exact h1, q _ _ r.dropLast h2⟩
  · cases e
def oPopAt (ds as : List D) : Option (List D × D) := match as with
  | [.int i] => if -(2 ^ 63) ≤ i ∧ i < 2 ^ 63 then (seqIndex? i ds.length).bind fun k => (ds[k]?).map fun d => (ds.eraseIdx k, d) else none
  | _ => none
theorem sm_popAt : SM K rPopAt oPopAt := by
  intro F H p vs as ds da ds' z Q h r ra e q
  unfold oPopAt at e
  split at e
  · rename_i i
    by_cases hz : -(2 ^ 63) ≤ i ∧ i < 2 ^ 63
    · rw [if_pos hz] at e
      obtain ⟨k, e0, e⟩ := Option.bind_eq_some_iff.mp e
      obtain ⟨d, e1, e2⟩ := Option.map_eq_some_iff.mp e
      cases e2
      cases ra with
      | cons a t =>
        cases t
        cases a
        obtain ⟨v, h1, h2⟩ := r.get e1
        exact ⟨p, vs, i, k, v, rfl, rfl, h, hz.1, hz.2, by rw [r.length]; exact e0, h1, q _ _ (r.eraseIdx k) h2⟩
    · rw [if_neg hz] at e; cases e
  · cases e
end
end DL


/-! D layer, 5: defs, their calls, the law's end. -/
namespace DL
open PySem PySem.Spec L2

inductive FAns where
  | ret (r : Rt) (ρ : Env)
  | exc (x : Exc) (ρ : Env)
  | bad
/-- the parameters' mutable objects at the end -/
def backE : Env → Env → Option Env
  | [], _ => some []
  | c :: r, c' :: r' => match c, c' with
    | some (.own _ _), some (.own false d) => (backE r r').map (some (.own false d) :: ·)
    | some (.own _ _), _ => none
    | _, _ => (backE r r').map (none :: ·)
  | _ :: _, [] => none
def outF (ρ : Env) : Out → FAns
  | .next ρ' => (match backE ρ ρ' with
    | some ρb => .ret (.dat .none) ρb
    | none => .bad)
  | .ret r ρ' => (match backE ρ ρ' with
    | some ρb => .ret r ρb
    | none => .bad)
  | .exc x ρ' => (match backE ρ ρ' with
    | some ρb => .exc x ρb
    | none => .bad)
  | _ => .bad
/-- a def of n names, its body's worth -/
def fnD (n : Nat) (ψ : DenS) : Env → FAns := fun ρ => outF ρ (ψ (ρ ++ List.replicate (n - ρ.length) none))
def noOwn (ρ : Env) : Prop := ∀ (i : Nat) (d : D), ρ[i]? ≠ some (some (.own true d))
/-- a def's promise -/
def spD (K : PySem.W.Frag) (np : Nat) (φ : Env → FAns) : Sp := fun vs H Q E => vs.length = np ∧ ∃ G F ρ, Sim K ⟨G, F, H, vs.map some⟩ F ρ (vs.map some) H ∧ noOwn ρ ∧
  match φ ρ with
  | .ret r ρb => ∀ F' v H', Same F F' → Sim K ⟨G, F, H, vs.map some⟩ F' ρb (vs.map some) H' → RtOk K ⟨G, F, H, vs.map some⟩ F' H' r v → Q v H'
  | .exc x ρb => ∀ F' H' cls d, Same F F' → Sim K ⟨G, F, H, vs.map some⟩ F' ρb (vs.map some) H' → ExcOk K F' H' x cls d → E cls d H'
  | .bad => False
/-- the def at f, called where at least k levels are free and nothing is being shown, keeps the promise of φ -/
structure FnG (P : Program) (w : World) (K : PySem.W.Frag) (mg : Str → Option Value) (base : Heap) (k : Nat) (f : Addr) (fd : FuncData) (ps : List Str) (φ : Env → FAns) : Prop where
  run : ∀ (A : Around) (outer : List PySem.Env) (s : Shared) (H : Hp) (ar : Args) (us : List Value) (vs : List V) (Q : VK) (E : XK), Room k A → A.guards = some [] → Env0 P w K mg base A outer s H → BindsTo s fd ar (ps.zip us) →
    Vals vs us → spD K ps.length φ vs H Q E → codeAny (model P w) A (.call (.ref f) ar) (CR (L2.CX P w) outer P w H s Q E) s
theorem FnG.mono {P : Program} {w : World} {K : PySem.W.Frag} {mg : Str → Option Value} {base : Heap} {j k : Nat} {f : Addr} {fd : FuncData} {ps : List Str} {φ : Env → FAns} (G : FnG P w K mg base j f fd ps φ) (h : j ≤ k) : FnG P w K mg base k f fd ps φ :=
  ⟨fun A outer s H ar us vs Q E hr hg e0 hb hv hs => G.run A outer s H ar us vs Q E (hr.mono h) hg e0 hb hv hs⟩

theorem backE_ok : ∀ {ρ0 ρ' ρb : Env}, backE ρ0 ρ' = some ρb → ρb.length = ρ0.length ∧ ∀ (i : Nat) (c : Cell), ρb[i]? = some (some c) → ∃ d, c = .own false d ∧ ρ'[i]? = some (some (.own false d))
  | [], _, _, h => by cases h; exact ⟨rfl, fun i c e => by simp at e⟩
  | _ :: _, [], _, h => by cases h
  | c0 :: r0, c1 :: r1, ρb, h => by
    have tail : ∀ (hd : Option Cell), (∀ c, hd = some c → ∃ d, c = .own false d ∧ c1 = some (.own false d)) → (backE r0 r1).map (hd :: ·) = some ρb →
        ρb.length = (c0 :: r0).length ∧ ∀ (i : Nat) (c : Cell), ρb[i]? = some (some c) → ∃ d, c = .own false d ∧ (c1 :: r1)[i]? = some (some (.own false d)) := fun hd hh e => by
      obtain ⟨t, e1, e2⟩ := Option.map_eq_some_iff.mp e
      subst e2
      obtain ⟨l, k⟩ := backE_ok e1
      refine ⟨by simp [l], fun i c ec => ?_⟩
      cases i with
      | zero =>
        simp only [List.getElem?_cons_zero, Option.some.injEq] at ec
        obtain ⟨d, a, b⟩ := hh c ec
        exact ⟨d, a, by simp [b]⟩
      | succ i =>
        simp only [List.getElem?_cons_succ] at ec ⊢
        exact k i c ec
    unfold backE at h
    split at h
    · rename_i d _
      exact tail _ (fun c e => ⟨_, (Option.some.inj e).symm, rfl⟩) h
    · cases h
    · exact tail none (fun c e => nomatch e) h
/-- at a def's end the parameters' objects stand -/
theorem Sim.back {N : List Str} {K : PySem.W.Frag} {G F0 H0 : Hp} {F : Hp} {ρ0 ρ' ρb : Env} {σ : St} {H : Hp} {vs : List V} (S : Sim K ⟨G, F0, H0, start N vs⟩ F ρ' σ H) (hl : vs.length = ρ0.length) (e : backE ρ0 ρ' = some ρb) (hN : vs.length ≤ N.length) :
    Sim K ⟨G, F0, H0, vs.map some⟩ F ρb (vs.map some) H := by
  obtain ⟨l, k⟩ := backE_ok e
  have at0 : ∀ (i : Nat) (v : V), (start N vs)[i]? = some (some v) → (vs.map some)[i]? = some (some v) := fun i v h => by
    unfold L2.start at h
    by_cases hi : i < vs.length
    · rw [List.getElem?_append_left (by simpa using hi)] at h
      exact h
    · rw [List.getElem?_append_right (by simpa using hi), List.getElem?_replicate] at h
      split at h <;> cases h
  exact {
    g := S.g, f := S.f, bf := S.bf, fr := S.fr, gr := S.gr
    len := by rw [List.length_map, l, hl]
    dat := fun i d h => by
      obtain ⟨_, z, _⟩ := k i _ h
      cases z
    mu := fun i o d h => by
      obtain ⟨d', z, e'⟩ := k i _ h
      cases z
      obtain ⟨p, c, h1, h2, h3, h4, h5, _, h6⟩ := S.mu i false d e'
      exact ⟨p, c, at0 i _ (h6 rfl), h2, h3, h4, h5, (fun z => nomatch z), fun _ => at0 i _ (h6 rfl)⟩
    apart := fun i j o o' d d' p a b a1 b1 => by
      obtain ⟨_, z1, e1⟩ := k i _ a
      obtain ⟨_, z2, e2⟩ := k j _ b
      cases z1
      cases z2
      obtain ⟨p1, _, g1, _, _, _, _, _, g2⟩ := S.mu i false _ e1
      obtain ⟨p2, _, g3, _, _, _, _, _, g4⟩ := S.mu j false _ e2
      have q1 := at0 i _ (g2 rfl)
      have q2 := at0 j _ (g4 rfl)
      rw [a1] at q1
      rw [b1] at q2
      cases q1
      cases q2
      exact S.apart i j false false _ _ p e1 e2 g1 g3 }
/-- at a def's entry -/
theorem Sim.enter {N : List Str} {K : PySem.W.Frag} {G F H : Hp} {ρ : Env} {vs : List V} (S : Sim K ⟨G, F, H, vs.map some⟩ F ρ (vs.map some) H) (no : noOwn ρ) (hN : vs.length ≤ N.length) :
    Sim K ⟨G, F, H, start N vs⟩ F (ρ ++ List.replicate (N.length - ρ.length) none) (start N vs) H := by
  have hl : vs.length = ρ.length := by have := S.len; rwa [List.length_map] at this
  have up : ∀ (i : Nat) (v : V), (vs.map some)[i]? = some (some v) → (start N vs)[i]? = some (some v) := fun i v h => by
    have hi : i < (vs.map some).length := (List.getElem?_eq_some_iff.mp h).1
    unfold L2.start
    rw [List.getElem?_append_left hi]
    exact h
  have dn : ∀ (i : Nat) (c : Cell), (ρ ++ List.replicate (N.length - ρ.length) none)[i]? = some (some c) → ρ[i]? = some (some c) := fun i c h => by
    by_cases hi : i < ρ.length
    · rw [List.getElem?_append_left hi] at h
      exact h
    · rw [List.getElem?_append_right (by omega), List.getElem?_replicate] at h
      split at h <;> cases h
  have lt : ∀ (i : Nat) (v : V) (c : Cell), ρ[i]? = some (some c) → (start N vs)[i]? = some (some v) → (vs.map some)[i]? = some (some v) := fun i v c hc h => by
    have hi : i < (vs.map some).length := by
      rw [List.length_map, hl]
      exact (List.getElem?_eq_some_iff.mp hc).1
    unfold L2.start at h
    rw [List.getElem?_append_left hi] at h
    exact h
  exact {
    g := S.g, f := S.f, bf := S.bf, fr := S.fr, gr := S.gr
    len := by
      unfold L2.start
      simp only [List.length_append, List.length_map, List.length_replicate]
      omega
    dat := fun i d h => by
      obtain ⟨v, h1, h2⟩ := S.dat i d (dn i _ h)
      exact ⟨v, up i v h1, h2⟩
    mu := fun i o d h => by
      have h' := dn i _ h
      obtain ⟨p, c, h1, h2, h3, h4, h5, h6, h7⟩ := S.mu i o d h'
      refine ⟨p, c, up i _ h1, h2, h3, h4, h5, fun z => ?_, fun z => up i _ (h7 z)⟩
      subst z
      exact absurd h' (no i d)
    apart := fun i j o o' d d' p a b a1 b1 => S.apart i j o o' d d' p (dn i _ a) (dn j _ b) (lt i _ _ (dn i _ a) a1) (lt j _ _ (dn j _ b) b1) }

section
variable {P : Program} {w : World} {K : PySem.W.Frag} {mg : Str → Option Value} {base : Heap}
theorem deeper_guards {A : Around} {env : PySem.Env} : (A.deeper env).guards = A.guards := rfl
/-- THE RULE of a def: its body is worth ψ -/
theorem fn_D {x qual : Str} {st : Stmt} {f : Addr} {fd : FuncData} {N ps : List Str} {k : Nat} {ψ : DenS} (T : Fun K x qual st f fd) (S : FnScope N ps (defScope st))
    (hb : ∀ (cdv : Value) (A : Around) (outer : List PySem.Env) (s : Shared) (H : Hp) (E : XK), Cok (cxOf (L2.CX P w) P w K mg base N qual (defScope st) f cdv A outer s H E) (fun cls d _ H' => E cls d H') k →
      DSs (cxOf (L2.CX P w) P w K mg base N qual (defScope st) f cdv A outer s H E) (fun cls d _ H' => E cls d H') (defBody st) ψ) :
    FnG P w K mg base (k + 1) f fd ps (fnD N.length ψ) := by
  obtain ⟨oc, od, kV, doc, pm, an, cdv, ct, osl, rfl, lk, hcd⟩ := T.ex
  refine ⟨fun A outer s H ar us vs Q E hr hg e0 hbind hv hsp => ?_⟩
  obtain ⟨hl, G, F, ρ, S0, no, hφ⟩ := hsp
  have kin : K.In s.heap := e0.mod.kin.keeps fun b o e => (e0.bs b o e).1
  have free : s.heap.NoLimit := e0.mod.nolimit.keeps fun b o e => (e0.bs b o e).1
  have kinds : ∀ y ∈ ps.zip us, (defScope st).names.lookup y.1 = some .local ∨ ((defScope st).names.lookup y.1 = some .cell ∧ ((cellsFrom (s.heap.objs.size + 1) (defScope st).names []).lookup y.1).isSome = true) := fun ⟨n, v⟩ hy => by
    rcases S.par n (List.of_mem_zip hy).1 with q | q
    · exact .inl q
    · exact .inr ⟨q, PySem.W.cellsFrom_some _ _ _ (.inl q)⟩
  refine codeAny_call_function hr.depth (kin _ _ lk) rfl S.co S.gen rfl (PySem.W.codeRec_of kin hcd) (hbind _ _ _ _ ?_)
  refine wpAny_newFunctionEnv_cells S.kind kinds fun env he s1 y => ?_
  subst he
  refine ⟨free.keeps y.toInCall.keep, codeAny_func ?_⟩
  -- the body's context
  have I := inv_start (CX := L2.CX P w) (E := E) S hr.hd e0 hl hv y
  have C : Cok (cxOf (L2.CX P w) P w K mg base N qual (defScope st) f cdv A outer s H E) (fun cls d _ H' => E cls d H') k := ⟨rfl, S.nd, passes_of rfl, hr.deeper _, hg, takes_of rfl rfl rfl rfl⟩
  have hpl : vs.length ≤ N.length := by
    have := congrArg List.length S.pre
    rw [List.length_take] at this
    omega
  have bd := hb _ _ _ _ _ _ C
  have hlen : vs.length = ρ.length := by have := S0.len; rwa [List.length_map] at this
  have S1 := S0.enter (N := N) no hpl
  -- what the body's end is to give
  have goal : tDS K (fun cls d _ H' => E cls d H') ψ { nx := fun _ H' => Q .non H', rt := Q } (start N vs) H := by
    refine ⟨_, F, _, S1, ?_⟩
    unfold fnD at hφ
    cases eo : ψ (ρ ++ List.replicate (N.length - ρ.length) none) with
    | next ρ' =>
      rw [eo] at hφ
      unfold outF at hφ
      simp only at hφ
      intro F' σ' H' s' S'
      cases eb : backE ρ ρ' with
      | none => rw [eb] at hφ; exact hφ.elim
      | some ρb =>
        rw [eb] at hφ
        exact hφ F' .non H' s' (S'.back hlen eb hpl) .non
    | ret r ρ' =>
      rw [eo] at hφ
      unfold outF at hφ
      simp only at hφ
      intro F' σ' v H' s' S' q
      cases eb : backE ρ ρ' with
      | none => rw [eb] at hφ; exact hφ.elim
      | some ρb =>
        rw [eb] at hφ
        refine hφ F' v H' s' (S'.back hlen eb hpl) ?_
        cases r with
        | dat d => exact q
        | own d => exact q
    | exc x ρ' =>
      rw [eo] at hφ
      unfold outF at hφ
      simp only at hφ
      intro F' σ' H' cls d s' S' q
      cases eb : backE ρ ρ' with
      | none => rw [eb] at hφ; exact hφ.elim
      | some ρb =>
        rw [eb] at hφ
        exact hφ F' H' cls d s' (S'.back hlen eb hpl) q
    | brk ρ' => rw [eo] at hφ; exact hφ.elim
    | cont ρ' => rw [eo] at hφ; exact hφ.elim
    | bad => rw [eo] at hφ; exact hφ.elim
  refine wpAny_mono (bd.run [] s1 (start N vs) H _ I goal) (fun fl s' hs => ?_) fun e s' hs => hs
  cases fl with
  | ret u =>
    obtain ⟨v, σ', H', J, rv, q⟩ := hs
    exact ⟨v, H', J.os, J.bare, J.base, J.hok, rv, q⟩
  | next =>
    obtain ⟨σ', H', J, q⟩ := hs
    exact ⟨V.non, H', J.os, J.bare, J.base, J.hok, rfl, q⟩
  | brk =>
    obtain ⟨_, _, _, q⟩ := hs
    exact q.elim
  | cont =>
    obtain ⟨_, _, _, q⟩ := hs
    exact q.elim
end

/-! ### a call of a def -/
def ats : List Rv → List Nat
  | [] => []
  | .dat _ :: rs => ats rs
  | .slot i :: rs => i :: ats rs
def passIn (ρ : Env) : List Rv → Option Env
  | [] => some []
  | .dat d :: rs => (passIn ρ rs).map (some (.dat d) :: ·)
  | .slot i :: rs => match ρ[i]? with
    | some (some (.own _ d)) => (passIn ρ rs).map (some (.own false d) :: ·)
    | _ => none
def backIn : List Rv → Env → Env → Option Env
  | [], _, ρ => some ρ
  | .dat _ :: rs, _ :: c, ρ => backIn rs c ρ
  | .slot i :: rs, some (.own _ d) :: c, ρ => (match ρ[i]? with
    | some (some (.own o _)) => backIn rs c (ρ.set i (some (.own o d)))
    | _ => none)
  | _, _, _ => none
/-- the callee's answer, and what its parameters' objects hold then -/
def callD (np : Nat) (φ : Env → FAns) (rs : List Rv) (ρ : Env) : Ans Rt := if rs.length = np ∧ (ats rs).Nodup then (match passIn ρ rs with
  | none => .bad
  | some ρc => (match φ ρc with
    | .ret r ρb => (match backIn rs ρb ρ with
      | some ρ' => .ok r ρ'
      | none => .bad)
    | .exc x ρb => (match backIn rs ρb ρ with
      | some ρ' => .exc x ρ'
      | none => .bad)
    | .bad => .bad)) else .bad
section
variable {K : PySem.W.Frag} {B : Base} {F : Hp} {ρ : Env} {σ : St} {H : Hp}
theorem ats_mem : ∀ {rs : List Rv} {i : Nat}, i ∈ ats rs → ∃ k : Nat, rs[k]? = some (.slot i)
  | [], _, h => by simp [ats] at h
  | .dat d :: rs, i, h => by
    obtain ⟨k, e⟩ := ats_mem (rs := rs) h
    exact ⟨k + 1, by simpa using e⟩
  | .slot j :: rs, i, h => by
    rcases List.mem_cons.mp h with e | h
    · exact ⟨0, by rw [e]; rfl⟩
    · obtain ⟨k, e⟩ := ats_mem (rs := rs) h
      exact ⟨k + 1, by simpa using e⟩
theorem mem_ats : ∀ {rs : List Rv} {i k : Nat}, rs[k]? = some (.slot i) → i ∈ ats rs
  | [], _, _, h => by simp at h
  | .dat d :: rs, i, 0, h => by simp at h
  | .dat d :: rs, i, k + 1, h => mem_ats (rs := rs) (k := k) (by simpa using h)
  | .slot j :: rs, i, 0, h => by
    have e : j = i := by simpa using h
    rw [e]
    exact List.mem_cons_self
  | .slot j :: rs, i, k + 1, h => List.mem_cons_of_mem _ (mem_ats (rs := rs) (k := k) (by simpa using h))
theorem ats_inj : ∀ {rs : List Rv} {i k l : Nat}, (ats rs).Nodup → rs[k]? = some (.slot i) → rs[l]? = some (.slot i) → k = l
  | [], _, _, _, _, h, _ => by simp at h
  | .dat d :: rs, i, 0, _, _, h, _ => by simp at h
  | .dat d :: rs, i, _ + 1, 0, _, _, h => by simp at h
  | .dat d :: rs, i, k + 1, l + 1, n, h, h' => congrArg (· + 1) (ats_inj (rs := rs) (k := k) (l := l) n (by simpa using h) (by simpa using h'))
  | .slot j :: rs, i, 0, 0, _, _, _ => rfl
  | .slot j :: rs, i, 0, l + 1, n, h, h' => by
    have e : j = i := by simpa using h
    exact absurd (mem_ats (rs := rs) (k := l) (by simpa [e] using h')) (List.nodup_cons.mp n).1
  | .slot j :: rs, i, k + 1, 0, n, h, h' => by
    have e : j = i := by simpa using h'
    exact absurd (mem_ats (rs := rs) (k := k) (by simpa [e] using h)) (List.nodup_cons.mp n).1
  | .slot j :: rs, i, k + 1, l + 1, n, h, h' => congrArg (· + 1) (ats_inj (rs := rs) (k := k) (l := l) (List.nodup_cons.mp n).2 (by simpa using h) (by simpa using h'))
theorem passIn_len : ∀ {rs : List Rv} {ρc : Env}, passIn ρ rs = some ρc → ρc.length = rs.length
  | [], _, h => by cases h; rfl
  | .dat d :: rs, _, h => by
    obtain ⟨t, e1, e2⟩ := Option.map_eq_some_iff.mp h
    subst e2
    simp [passIn_len e1]
  | .slot i :: rs, _, h => by
    unfold passIn at h
    split at h
    · obtain ⟨t, e1, e2⟩ := Option.map_eq_some_iff.mp h
      subst e2
      simp [passIn_len e1]
    · cases h
/-- what is handed in at place k -/
theorem passIn_at : ∀ {rs : List Rv} {ρc : Env} {k : Nat} {c : Cell}, passIn ρ rs = some ρc → ρc[k]? = some (some c) → (∃ d, rs[k]? = some (.dat d) ∧ c = .dat d) ∨ ∃ i o d, rs[k]? = some (.slot i) ∧ ρ[i]? = some (some (.own o d)) ∧ c = .own false d
  | [], _, _, _, h, e => by cases h; simp at e
  | .dat d :: rs, _, k, c, h, e => by
    obtain ⟨t, e1, e2⟩ := Option.map_eq_some_iff.mp h
    subst e2
    cases k with
    | zero =>
      have e' : Cell.dat d = c := by simpa using e
      exact .inl ⟨d, rfl, e'.symm⟩
    | succ k => simpa using passIn_at (k := k) e1 (by simpa using e)
  | .slot i :: rs, _, k, c, h, e => by
    unfold passIn at h
    split at h
    · rename_i o d ei
      obtain ⟨t, e1, e2⟩ := Option.map_eq_some_iff.mp h
      subst e2
      cases k with
      | zero =>
        have e' : Cell.own false d = c := by simpa using e
        exact .inr ⟨i, o, d, rfl, ei, e'.symm⟩
      | succ k => simpa using passIn_at (k := k) e1 (by simpa using e)
    · cases h
theorem RvsOk.len {rs : List Rv} {vs : List V} (q : RvsOk K F σ rs vs) : vs.length = rs.length := by
  induction q with
  | nil => rfl
  | cons a t ih => simp [ih]
theorem RvsOk.at : ∀ {rs : List Rv} {vs : List V} {k : Nat} {r : Rv}, RvsOk K F σ rs vs → rs[k]? = some r → ∃ v, vs[k]? = some v ∧ RvOk K F σ r v
  | _, _, _, _, .nil, e => by simp at e
  | _, _, 0, r, .cons a t, e => by simp at e; subst e; exact ⟨_, rfl, a⟩
  | _, _, k + 1, r, .cons a t, e => by
    obtain ⟨v, h1, h2⟩ := RvsOk.at (k := k) t (by simpa using e)
    exact ⟨v, by simpa using h1, h2⟩
def handed (σ : St) (rs : List Rv) (b : Addr) : Bool := (ats rs).any fun i => decide (σ[i]? = some (some (V.ref b)))
def keepG (σ : St) (rs : List Rv) (H : Hp) : Hp := fun b => if handed σ rs b = true then none else H b
theorem handed_of {rs : List Rv} {i : Nat} {p : Addr} (h : i ∈ ats rs) (e : σ[i]? = some (some (V.ref p))) : handed σ rs p = true :=
  List.any_eq_true.mpr ⟨i, h, by simp [e]⟩
theorem of_handed {rs : List Rv} {p : Addr} (h : handed σ rs p = true) : ∃ i ∈ ats rs, σ[i]? = some (some (V.ref p)) := by
  obtain ⟨i, h1, h2⟩ := List.any_eq_true.mp h
  exact ⟨i, h1, by simpa using h2⟩
theorem Sim.pass (S : Sim K B F ρ σ H) {rs : List Rv} {vs : List V} {ρc : Env} (q : RvsOk K F σ rs vs) (e : passIn ρ rs = some ρc) (nd : (ats rs).Nodup) :
    Sim K ⟨keepG σ rs H, F, H, vs.map some⟩ F ρc (vs.map some) H ∧ noOwn ρc := by
  have mapV : ∀ (k : Nat) (v : V), vs[k]? = some v → (vs.map some)[k]? = some (some v) := fun k v h => by rw [List.getElem?_map, h]; rfl
  refine ⟨{
    g := fun b o h => by
      have h' : (if handed σ rs b = true then none else H b) = some o := h
      split at h'
      · cases h'
      · exact h'
    f := S.f
    bf := Same.refl F
    fr := fun b h => .inl h
    gr := fun b h => h
    len := by rw [List.length_map, passIn_len e, q.len]
    dat := fun k d h => by
      rcases passIn_at e h with ⟨d', h1, h2⟩ | ⟨_, _, _, _, _, z⟩
      · cases h2
        obtain ⟨v, h3, h4⟩ := q.at h1
        exact ⟨v, mapV k v h3, h4⟩
      · cases z
    mu := fun k o d h => by
      rcases passIn_at e h with ⟨_, _, z⟩ | ⟨i, o', d', h1, h2, h3⟩
      · cases z
      · cases h3
        obtain ⟨v, h4, h5⟩ := q.at h1
        obtain ⟨p, c, a1, a2, a3, a4, a5, _⟩ := S.mu i o' _ h2
        have ev : σ[i]? = some (some v) := h5
        rw [a1] at ev
        cases ev
        refine ⟨p, c, mapV k _ h4, a2, a3, ?_, a5, (fun z => nomatch z), fun _ => mapV k _ h4⟩
        show keepG σ rs H p = none
        unfold keepG
        rw [if_pos (handed_of (mem_ats h1) a1)]
    apart := fun k l o o' d d' p a b a1 b1 => by
      rcases passIn_at e a with ⟨_, _, z⟩ | ⟨i, oi, di, h1, h2, h3⟩
      · cases z
      rcases passIn_at e b with ⟨_, _, z⟩ | ⟨j, oj, dj, g1, g2, g3⟩
      · cases z
      obtain ⟨v, h4, h5⟩ := q.at h1
      obtain ⟨v', g4, g5⟩ := q.at g1
      rw [mapV k v h4] at a1
      rw [mapV l v' g4] at b1
      cases a1
      cases b1
      have ij : i = j := S.apart i j oi oj di dj p h2 g2 h5 g5
      subst ij
      exact ats_inj nd h1 g1 }, fun k d h => ?_⟩
  rcases passIn_at e h with ⟨_, _, z⟩ | ⟨_, _, _, _, _, z⟩ <;> cases z
theorem backIn_ok : ∀ {rs : List Rv} {c ρ ρ' : Env}, backIn rs c ρ = some ρ' → (ats rs).Nodup → ρ'.length = ρ.length ∧ (∀ j : Nat, j ∉ ats rs → ρ'[j]? = ρ[j]?) ∧
    ∀ (k i : Nat), rs[k]? = some (.slot i) → ∃ o o' d0 d, ρ[i]? = some (some (.own o d0)) ∧ c[k]? = some (some (.own o' d)) ∧ ρ'[i]? = some (some (.own o d))
  | [], _, ρ, _, h, _ => by
    have e : ρ = _ := Option.some.inj h
    subst e
    exact ⟨rfl, fun _ _ => rfl, fun k i e => by simp at e⟩
  | .dat d :: rs, [], ρ, _, h, _ => by cases h
  | .dat d :: rs, c0 :: c, ρ, ρ', h, nd => by
    obtain ⟨l, a, b⟩ := backIn_ok (rs := rs) (c := c) (ρ := ρ) h nd
    refine ⟨l, a, fun k i e => ?_⟩
    cases k with
    | zero => simp at e
    | succ k => simpa using b k i (by simpa using e)
  | .slot i :: rs, [], ρ, _, h, _ => by cases h
  | .slot i :: rs, none :: c, ρ, _, h, _ => by cases h
  | .slot i :: rs, some (.dat _) :: c, ρ, _, h, _ => by cases h
  | .slot i :: rs, some (.own o1 d) :: c, ρ, ρ', h, nd => by
    unfold backIn at h
    split at h
    · rename_i o d0 ei
      have hi : i < ρ.length := (List.getElem?_eq_some_iff.mp ei).1
      obtain ⟨n1, n2⟩ := List.nodup_cons.mp nd
      obtain ⟨l, a, b⟩ := backIn_ok (rs := rs) (c := c) h n2
      refine ⟨by rw [l, List.length_set], fun j hj => ?_, fun k i' e => ?_⟩
      · obtain ⟨j1, j2⟩ := not_or.mp fun z => hj (List.mem_cons.mpr z)
        rw [a j j2, List.getElem?_set_ne (Ne.symm j1)]
      · cases k with
        | zero =>
          have ee : i = i' := by simpa using e
          subst ee
          exact ⟨o, o1, d0, d, ei, by simp, by rw [a i n1, List.getElem?_set_self hi]⟩
        | succ k =>
          have e' : rs[k]? = some (.slot i') := by simpa using e
          have ne : i' ≠ i := fun z => n1 (by rw [← z]; exact mem_ats e')
          obtain ⟨o2, o3, d1, d2, g1, g2, g3⟩ := b k i' e'
          rw [List.getElem?_set_ne (Ne.symm ne)] at g1
          exact ⟨o2, o3, d1, d2, g1, by simpa using g2, g3⟩
    · cases h
theorem Sim.after (S : Sim K B F ρ σ H) {rs : List Rv} {vs : List V} {ρb ρ' : Env} {F' H' : Hp} (q : RvsOk K F σ rs vs) (nd : (ats rs).Nodup) (s : Same F F')
    (S' : Sim K ⟨keepG σ rs H, F, H, vs.map some⟩ F' ρb (vs.map some) H') (e : backIn rs ρb ρ = some ρ') : Sim K B F' ρ' σ H' := by
  obtain ⟨l, a, b⟩ := backIn_ok e nd
  have mapV : ∀ (k : Nat) (v : V), vs[k]? = some v → (vs.map some)[k]? = some (some v) := fun k v h => by rw [List.getElem?_map, h]; rfl
  have cases' : ∀ (j : Nat) (o : Bool) (d : D), ρ'[j]? = some (some (.own o d)) → (∃ (k : Nat) (d0 : D) (o' : Bool), rs[k]? = some (.slot j) ∧ ρ[j]? = some (some (.own o d0)) ∧ ρb[k]? = some (some (.own o' d))) ∨ (j ∉ ats rs ∧ ρ[j]? = some (some (.own o d))) := fun j o d h => by
    by_cases hj : j ∈ ats rs
    · obtain ⟨k, hk⟩ := ats_mem hj
      obtain ⟨o1, o2, d0, d1, g1, g2, g3⟩ := b k j hk
      rw [g3] at h
      cases h
      exact .inl ⟨k, d0, o2, hk, g1, g2⟩
    · rw [a j hj] at h
      exact .inr ⟨hj, h⟩
  have any : ∀ (j : Nat) (o : Bool) (d : D), ρ'[j]? = some (some (.own o d)) → ∃ d0, ρ[j]? = some (some (.own o d0)) := fun j o d h => by
    rcases cases' j o d h with ⟨_, d0, _, _, g, _⟩ | ⟨_, g⟩
    · exact ⟨d0, g⟩
    · exact ⟨d, g⟩
  have nohand : ∀ (p : Addr), handed σ rs p = true → B.G p = none := fun p h => by
    obtain ⟨i, h1, h2⟩ := of_handed h
    obtain ⟨k, hk⟩ := ats_mem h1
    obtain ⟨o1, o2, d0, d1, g1, g2, g3⟩ := b k i hk
    obtain ⟨p', c, m1, m2, m3, m4, _⟩ := S.mu i o1 d0 g1
    rw [h2] at m1
    cases m1
    exact m4
  exact {
    g := fun p o h => by
      refine S'.g p o ?_
      show keepG σ rs H p = some o
      unfold keepG
      by_cases hp : handed σ rs p = true
      · rw [nohand p hp] at h
        cases h
      · rw [if_neg hp]
        exact S.g p o h
    f := S'.f
    bf := S.bf.trans s
    fr := fun p h => by
      rcases S'.fr p h with z | z
      · exact S.fr p z
      · refine .inr ?_
        cases e0 : B.H p with
        | none => rfl
        | some o => exact absurd z (S.gr p (by rw [e0]; simp))
    gr := fun p h => S'.gr p (S.gr p h)
    len := by rw [l]; exact S.len
    dat := fun j d h => by
      by_cases hj : j ∈ ats rs
      · obtain ⟨k, hk⟩ := ats_mem hj
        obtain ⟨_, _, _, _, _, _, g3⟩ := b k j hk
        rw [g3] at h
        cases h
      · rw [a j hj] at h
        obtain ⟨v, h1, h2⟩ := S.dat j d h
        exact ⟨v, h1, h2.up s⟩
    mu := fun j o d h => by
      rcases cases' j o d h with ⟨k, d0, o', hk, g1, g2⟩ | ⟨hj, g⟩
      · obtain ⟨p, c, m1, m2, m3, m4, m5, m6⟩ := S.mu j o d0 g1
        obtain ⟨v, h1, h2⟩ := q.at hk
        have ev : σ[j]? = some (some v) := h2
        rw [m1] at ev
        cases ev
        obtain ⟨p', c', n1, n2, n3, n4, n5, _⟩ := S'.mu k o' d g2
        rw [mapV k _ h1] at n1
        cases n1
        exact ⟨p, c', m1, n2, n3, m4, n5, m6⟩
      · obtain ⟨p, c, m1, m2, m3, m4, m5, m6⟩ := S.mu j o d g
        have hn : ¬ handed σ rs p = true := fun z => by
          obtain ⟨i, h1, h2⟩ := of_handed z
          obtain ⟨k, hk⟩ := ats_mem h1
          obtain ⟨o1, o2, d0, d1, g1, _, _⟩ := b k i hk
          have ij := S.apart i j o1 o d0 d p g1 g h2 m1
          exact hj (by rw [← ij]; exact h1)
        refine ⟨p, c, m1, S'.g p c ?_, m3.up s, m4, ?_, m6⟩
        · show keepG σ rs H p = some c
          unfold keepG
          rw [if_neg hn]
          exact m2
        · cases e0 : F' p with
          | none => rfl
          | some u =>
            rcases S'.fr p (by rw [e0]; simp) with z | z
            · exact absurd m5 z
            · have z' : H p = none := z
              rw [m2] at z'
              cases z'
    apart := fun i j o o' d d' p x y x1 y1 => by
      obtain ⟨d1, e1⟩ := any i o d x
      obtain ⟨d2, e2⟩ := any j o' d' y
      exact S.apart i j o o' d1 d2 p e1 e2 x1 y1 }
end

/-- the answer as data; as a new thing -/
def rtD (r : Rt) (ρ : Env) : Ans Rv := match r with
  | .dat d => .ok (.dat d) ρ
  | .own d => .ok (.dat d) ρ
def rtN (r : Rt) (ρ : Env) : Ans D := match r with
  | .dat _ => .bad
  | .own d => .ok d ρ
@[simp] theorem rtD_dat (d : D) (ρ : Env) : rtD (.dat d) ρ = .ok (.dat d) ρ := (rfl)
@[simp] theorem rtD_own (d : D) (ρ : Env) : rtD (.own d) ρ = .ok (.dat d) ρ := (rfl)
@[simp] theorem rtN_own (d : D) (ρ : Env) : rtN (.own d) ρ = .ok d ρ := (rfl)
def xFn (np : Nat) (φ : Env → FAns) (ψ : Den (List Rv)) : Den Rv := fun ρ => (ψ ρ).bind fun rs ρ1 => (callD np φ rs ρ1).bind rtD
def xFnN (np : Nat) (φ : Env → FAns) (ψ : Den (List Rv)) : Den D := fun ρ => (ψ ρ).bind fun rs ρ1 => (callD np φ rs ρ1).bind rtN
section
variable {X : Cx} {W : WX} {e : Expr} {es : List Expr} {p pos : Pos} {ψ : Den (List Rv)} {f : Addr} {fd : FuncData} {ps : List Str} {φ : Env → FAns} {x : Str} {j k : Nat}
theorem callD_sound {B : Base} {F : Hp} {ρ : Env} {σ : St} {H : Hp} {rs : List Rv} {vs : List V} (S : Sim X.K B F ρ σ H) (q : RvsOk X.K F σ rs vs) {P : Rt → Env → Prop} {E : Exc → Env → Prop} (h : Wp (callD ps.length φ rs ρ) P E) {Q : VK} {EE : XK}
    (hp : ∀ r ρ', P r ρ' → ∀ F' v H', Same F F' → Sim X.K B F' ρ' σ H' → RtOk X.K B F' H' r v → (∀ (i : Nat) (ow : Bool) (d : D) (pp : Addr), v = .ref pp → F' pp = none → H pp = none → ρ'[i]? = some (some (.own ow d)) → σ[i]? ≠ some (some (.ref pp))) → (∀ pp, v = .ref pp → (∃ d, r = .own d) → H pp = none) → Q v H')
    (he : ∀ x ρ', E x ρ' → ∀ F' H' cls d, Same F F' → Sim X.K B F' ρ' σ H' → ExcOk X.K F' H' x cls d → EE cls d H') : spD X.K ps.length φ vs H Q EE := by
  unfold callD at h
  by_cases nn : rs.length = ps.length ∧ (ats rs).Nodup
  · rw [if_pos nn] at h
    obtain ⟨hn, nd⟩ := nn
    cases e1 : passIn ρ rs with
    | none => rw [e1] at h; exact h.elim
    | some ρc =>
      rw [e1] at h
      simp only at h
      obtain ⟨Sc, no⟩ := S.pass q e1 nd
      refine ⟨by rw [q.len]; exact hn, _, F, ρc, Sc, no, ?_⟩
      cases e2 : φ ρc with
      | bad => rw [e2] at h; exact h.elim
      | ret r ρb =>
        rw [e2] at h
        simp only at h ⊢
        intro F' v H' s' S' rt
        cases e3 : backIn rs ρb ρ with
        | none => rw [e3] at h; exact h.elim
        | some ρ' =>
          rw [e3] at h
          have Sa := S.after q nd s' S' e3
          refine hp r ρ' h F' v H' s' Sa ?_ (fun i ow d pp ev f0 h0 ei z => ?_) fun pp ev er => ?_
          · cases r with
            | dat d => exact rt
            | own d =>
              obtain ⟨pp, c, r1, r2, r3, r4, r5, r6⟩ := rt
              have r6' : H pp = none := r6
              obtain ⟨g0, _, h0⟩ := S.free r6'
              exact ⟨pp, c, r1, r2, r3, r4, g0, h0⟩
          · have any : ∃ d0, ρ[i]? = some (some (.own ow d0)) := by
              obtain ⟨l, a, b⟩ := backIn_ok e3 nd
              by_cases hi : i ∈ ats rs
              · obtain ⟨kk, hk⟩ := ats_mem hi
                obtain ⟨o1, o2, d0, d1, g1, _, g3⟩ := b kk i hk
                rw [g3] at ei
                cases ei
                exact ⟨d0, g1⟩
              · rw [a i hi] at ei
                exact ⟨d, ei⟩
            obtain ⟨d0, e4⟩ := any
            obtain ⟨p', c, m1, m2, _⟩ := S.mu i ow d0 e4
            rw [z] at m1
            cases m1
            rw [h0] at m2
            cases m2
          · obtain ⟨d, rfl⟩ := er
            obtain ⟨p', c, r1, _, _, _, _, r6⟩ := rt
            rw [ev] at r1
            cases r1
            exact r6
      | exc x ρb =>
        rw [e2] at h
        simp only at h ⊢
        intro F' H' cls d s' S' ex
        cases e3 : backIn rs ρb ρ with
        | none => rw [e3] at h; exact h.elim
        | some ρ' =>
          rw [e3] at h
          exact he x ρ' h F' H' cls d s' (S.after q nd s' S' e3) ex
  · rw [if_neg nn] at h
    exact h.elim
/-- the callee runs -/
theorem run_G {pins : List (Addr × Obj)} {σ : St} {H : Hp} {s : Shared} {Q : VK} {us : List Value} {vs : List V} (G : FnG X.prog X.w X.K X.mg X.base j f fd ps φ) (C : Cok X W k) (hj : j ≤ k) (hb : Binds X.K fd ps []) (I : L2.Inv X pins σ H s) (r : Vals vs us)
    (h : spD X.K ps.length φ vs H Q fun cls d H' => W cls d σ H') : wpAny (model X.prog X.w) X.A (call (.ref f) us) (EP X pins σ Q) X.xe s := by
  have hl : us.length = ps.length := by rw [← r.length]; exact h.1
  have b := hb s us I.kIn (by rw [List.append_nil]; exact hl)
  rw [List.append_nil] at b
  refine wpAny_call (codeAny_mono (G.run X.A X.stack s H ⟨us, []⟩ us vs Q _ (C.rm.mono hj) C.gd I.env0 b r h) fun res s' hq => ?_)
  match res, hq with
  | .error err, hq => exact passAt C.tk σ pins H s err s' I hq
  | .ok (.ret u), hq => exact I.after hq
  | .ok .next, hq => exact hq.elim
  | .ok .brk, hq => exact hq.elim
  | .ok .cont, hq => exact hq.elim

theorem de_fn (G : FnG X.prog X.w X.K X.mg X.base j f fd ps φ) (C : Cok X W k) (hj : j ≤ k) (hg : Gl X x) (hm : X.mg x = some (.ref f)) (hk : PySem.W.keepIn X.K (.ref f) = true) (hb : Binds X.K fd ps []) (ha : DA X W (e :: es) ψ)
    (hdb : (x == ("__debug__" : Str)) = false := by decide) (he : starEach (e :: es) X.env = (false, eval e X.env) :: starEach es X.env := by rfl) (hpl : (backTo pos (starEach es X.env)).any (·.1) = false := by rfl) :
    DE X W (.Call (.Name x p) (e :: es) [] pos) (xFn ps.length φ ψ) := by
  refine ⟨fun pins s σ H Q I hq => wpAny_Call_Name_kw (ld_glob I hg hm ?_ hdb)⟩
  refine PySem.W.callWith_K (h₀ := X.base) I.ok.mod.kin hk (thn (ha.run pos pins s σ H (fun vs H1 => spD X.K ps.length φ vs H1 Q fun cls d H' => W cls d σ H') I ?_) fun us s1 ⟨vs, H1, I1, r, q⟩ => ⟨I1.kIn, run_G G C hj hb I1 r q⟩) he hpl
  obtain ⟨B, F, ρ, S, w⟩ := hq
  refine ⟨B, F, ρ, S, wp_mono (wp_bind w) (fun rs ρ1 w1 F1 vs H1 s1 S1 q1 => ?_) fun _ _ z => z⟩
  refine callD_sound S1 q1 (wp_bind w1) (fun r ρ2 w2 F2 v H2 s2 S2 rt hs hnew => ?_) fun x ρ2 w2 F2 H2 cls d s2 S2 ex => w2 F2 H2 cls d (s1.trans s2) S2 ex
  cases r with
  | dat d => exact w2 F2 v H2 (s1.trans s2) S2 rt
  | own d =>
    obtain ⟨pp, c, rfl, r2, r3, r4, r5, r6⟩ := rt
    have so : Same F2 (upd F2 pp c) := same_upd r4
    have hn := hnew pp rfl ⟨d, rfl⟩
    exact w2 (upd F2 pp c) _ H2 ((s1.trans s2).trans so) (S2.frozen r2 r4 r6 fun i ow d' ei => hs i ow d' pp rfl r4 hn ei) (r3.dr so upd_same)
theorem dn_fn (G : FnG X.prog X.w X.K X.mg X.base j f fd ps φ) (C : Cok X W k) (hj : j ≤ k) (hg : Gl X x) (hm : X.mg x = some (.ref f)) (hk : PySem.W.keepIn X.K (.ref f) = true) (hb : Binds X.K fd ps []) (ha : DA X W (e :: es) ψ)
    (hdb : (x == ("__debug__" : Str)) = false := by decide) (he : starEach (e :: es) X.env = (false, eval e X.env) :: starEach es X.env := by rfl) (hpl : (backTo pos (starEach es X.env)).any (·.1) = false := by rfl) :
    DN X W (.Call (.Name x p) (e :: es) [] pos) (xFnN ps.length φ ψ) := by
  refine ⟨fun pins s σ H Q I hq => wpAny_Call_Name_kw (ld_glob I hg hm ?_ hdb)⟩
  refine PySem.W.callWith_K (h₀ := X.base) I.ok.mod.kin hk (thn (ha.run pos pins s σ H (fun vs H1 => spD X.K ps.length φ vs H1 Q fun cls d H' => W cls d σ H') I ?_) fun us s1 ⟨vs, H1, I1, r, q⟩ => ⟨I1.kIn, run_G G C hj hb I1 r q⟩) he hpl
  obtain ⟨B, F, ρ, S, w⟩ := hq
  refine ⟨B, F, ρ, S, wp_mono (wp_bind w) (fun rs ρ1 w1 F1 vs H1 s1 S1 q1 => ?_) fun _ _ z => z⟩
  refine callD_sound S1 q1 (wp_bind w1) (fun r ρ2 w2 F2 v H2 s2 S2 rt hs hnew => ?_) fun x ρ2 w2 F2 H2 cls d s2 S2 ex => w2 F2 H2 cls d (s1.trans s2) S2 ex
  cases r with
  | dat d => exact w2.elim
  | own d =>
    obtain ⟨pp, c, rfl, r2, r3, r4, r5, r6⟩ := rt
    have hn := hnew pp rfl ⟨d, rfl⟩
    exact w2 F2 pp H2 (s1.trans s2) S2 ⟨⟨c, r2, r3⟩, r4, r5, r6, fun i ow d' ei => hs i ow d' pp rfl r4 hn ei⟩
/-- a call without arguments -/
theorem de_fn0 (G : FnG X.prog X.w X.K X.mg X.base j f fd [] φ) (C : Cok X W k) (hj : j ≤ k) (hg : Gl X x) (hm : X.mg x = some (.ref f)) (hk : PySem.W.keepIn X.K (.ref f) = true) (hb : Binds X.K fd [] [])
    (hdb : (x == ("__debug__" : Str)) = false := by decide) : DE X W (.Call (.Name x p) [] [] pos) (xFn 0 φ xNil) := by
  refine ⟨fun pins s σ H Q I hq => wpAny_Call_Name_kw (ld_glob I hg hm ?_ hdb)⟩
  refine PySem.W.callWith_K0 I.kIn hk (run_G (us := []) G C hj hb I .nil ?_)
  obtain ⟨B, F, ρ, S, w⟩ := hq
  have w1 := wp_bind w
  refine callD_sound S (RvsOk.nil) (ps := []) (wp_bind w1) (fun r ρ2 w2 F2 v H2 s2 S2 rt hs hnew => ?_) fun x ρ2 w2 F2 H2 cls d s2 S2 ex => w2 F2 H2 cls d s2 S2 ex
  cases r with
  | dat d => exact w2 F2 v H2 s2 S2 rt
  | own d =>
    obtain ⟨pp, c, rfl, r2, r3, r4, r5, r6⟩ := rt
    have so : Same F2 (upd F2 pp c) := same_upd r4
    have hn := hnew pp rfl ⟨d, rfl⟩
    exact w2 (upd F2 pp c) _ H2 (s2.trans so) (S2.frozen r2 r4 r6 fun i ow d' ei => hs i ow d' pp rfl r4 hn ei) (r3.dr so upd_same)
end

/-! ### the law's end -/
section
open PySem.W PyProof.Rows
theorem law_core {P : Program} {w : World} {K : PySem.W.Frag} {mg mb : Str → Option Value} {k : Nat} {fa a : Addr} {fd : FuncData} {x : Str} {φ : DL.Env → FAns} {t : Shared} {vs : List Value} {ns : List Int} {H : Hp}
    (kin : K.In t.heap) (nsG : t.heap.Ns mainGlobals mg) (nsB : t.heap.Ns builtinsNs mb) (hbb : ∀ x : Str, x ≠ "__name__" → mb x = bootBuiltins x) (free : t.heap.NoLimit) (nog : t.gens = #[])
    (oa : t.heap.get? a = some { cls := .type "list", data := .seq vs.toArray }) (room : Room k callerA)
    (G : ∀ base : Heap, K.In base → base.Ns mainGlobals mg → FnG P w K mg base k fa fd [x] φ) (bind : ∀ (s : Shared) (u : Value), BindsTo s fd ⟨[u], []⟩ [(x, u)])
    (good : ∃ ρb, φ [some (.dat (.list (ns.map .int)))] = .ret (.dat (.bool true)) ρb)
    (seq : SqL K H a (ns.map V.int)) (hok : HOk P w H t.heap) (only : ∀ b u, H b = some u → b = a ∧ ∃ o xs, u = .frz o (.lst xs)) (apart : H a ≠ none → K.lookup a = none) :
    codeAny (model P w) callerA (.call (.ref fa) ⟨[.ref a], []⟩) (fun r s' => r = .ok (.ret (.bool true)) ∧ OldK t.heap s'.heap ∧ s'.os = t.os ∧ AllBare s'.gens) t := by
  have bare : ∀ {b : Addr} {o : Obj}, t.heap.get? b = some o → (∀ v n, o.data ≠ .seq v n) → H b = none := fun {b o} e hd => by
    cases q : H b with
    | none => rfl
    | some u =>
      obtain ⟨rfl, _⟩ := only b u q
      rw [oa] at e
      cases e
      exact absurd rfl (hd _ _)
  have keepNs : ∀ {b : Addr} {m : Str → Option Value}, t.heap.Ns b m → (hidT t.heap H).Ns b m := fun {b m} ⟨o, es, ep, e, d, r⟩ => ⟨o, es, ep, hidT_get e (bare e fun v n z => by rw [d] at z; cases z), d, r⟩
  have kinB : K.In (hidT t.heap H) := fun b o e => by
    refine hidT_get (kin b o e) ?_
    cases q : H b with
    | none => rfl
    | some u =>
      obtain ⟨rfl, _⟩ := only b u q
      rw [apart (by rw [q]; simp)] at e
      cases e
  obtain ⟨mc, f1, f2⟩ := free
  have M : Mod K mg (hidT t.heap H) := ⟨kinB, keepNs nsG, ⟨mb, keepNs nsB, hbb⟩, ⟨mc, keepNs f1, f2⟩⟩
  have e0 : Env0 P w K mg (hidT t.heap H) callerA [] t H := ⟨rfl, M, fun b o e => of_hidT e, Nat.le_of_eq (hidT_size _ _), trivial, fun b hb => by simp [frs] at hb, hok, .of_eq nog⟩
  obtain ⟨ρb, eφ⟩ := good
  have S : Sim K ⟨fun _ => none, H, H, [some (V.ref a)]⟩ H [some (.dat (.list (ns.map .int)))] [some (V.ref a)] H := {
    g := fun b o z => nomatch z
    f := Same.refl H
    bf := Same.refl H
    fr := fun b z => .inl z
    gr := fun b z => z
    len := (rfl)
    dat := fun i d z => by
      cases i with
      | zero =>
        have e : PyData.list (ns.map .int) = d := by simpa using z
        subst e
        exact ⟨_, rfl, .lst seq (DrAll.ints ns)⟩
      | succ i => simp at z
    mu := fun i o d z => by cases i <;> simp at z
    apart := fun i j o o' d d' p z => by cases i <;> simp at z }
  have sp : spD K 1 φ [V.ref a] H (fun v _ => v = .bl true) fun _ _ _ => False := by
    refine ⟨rfl, _, H, _, S, fun i d z => by cases i <;> simp at z, ?_⟩
    rw [eφ]
    intro F' v H' _ _ q
    have q' : Dr K F' v (.bool true) := q
    cases q'
    rfl
  refine codeAny_mono ((G _ kinB (keepNs nsG)).run callerA [] t H ⟨[.ref a], []⟩ [.ref a] [.ref a] _ _ room rfl e0 (bind t (.ref a)) (.cons rfl .nil) sp) fun r s' h => ?_
  match r, h with
  | .error e, h =>
    obtain ⟨_, _, _, _, _, _, _, _, _, _, _, _, z⟩ := h
    exact z.elim
  | .ok .next, h => exact h.elim
  | .ok .brk, h => exact h.elim
  | .ok .cont, h => exact h.elim
  | .ok (.ret u), h =>
    obtain ⟨v, H', os, ab, un, hok', rv, q⟩ := h
    have q' : v = .bl true := q
    subst q'
    obtain rfl : u = Value.bool true := rv
    refine ⟨rfl, OldK.of_keep fun b o e => ?_, os, ab⟩
    cases q : H b with
    | none => exact un.keep b o e q (by simp [frs]) (by simp)
    | some u =>
      obtain ⟨_, oo, xs, rfl⟩ := only b u q
      obtain ⟨g1, _⟩ := hok b _ q
      obtain ⟨g2, _⟩ := hok' b _ (un.frzs b oo _ q)
      rw [e] at g1
      cases g1
      exact g2
/-- the goal behind k_head, from the law's denotation -/
theorem law_walk {l : PySem.W.OpenLaw} {n k : Nat} {q : Program} {loose : List Str} {XP : (Str → Option Value) → Heap → Prop} {YP : World → Heap → Prop} {d : DefRec} {K : Params → PySem.W.Frag} {x : Str} {φ : DL.Env → FAns}
    (hn : l.most = some n) (hn2 : n ≤ sizeLine) (hdf : d.params.defaults = []) (room : Room k callerA) (hY : ∀ (w : World) (h : Heap), YP w h → (K w.params).In h)
    (F : ∀ (w : World) (mg : Str → Option Value) (fa : Addr) (h : Heap), (K w.params).In h → h.Ns mainGlobals mg → mg d.name = some (.ref fa) →
      ∃ fd : FuncData, (∀ (s : Shared) (u : Value), BindsTo s fd ⟨[u], []⟩ [(x, u)]) ∧ ∀ base : Heap, (K w.params).In base → base.Ns mainGlobals mg → FnG l.prog w (K w.params) mg base k fa fd [x] φ)
    (good : ∀ ns : List Int, ns.length ≤ n → ∃ ρb, φ [some (.dat (.list (ns.map .int)))] = .ret (.dat (.bool true)) ρb) :
    PySem.W.WalkO q loose XP YP l.row.toRowW d [] (fun f vs => PySem.call f vs) := by
  refine Att.attach_call hn hdf fun w s₀ t mg mb fa o pm cd doc a vs ns GG Y ho hd hcd hmg hobj hints hlen hg => ?_
  have kin := hY w _ Y
  obtain ⟨fd, hb, hF⟩ := F w mg fa _ kin GG.T.g hmg
  have rv := vals_ints hints
  have len : ns.length ≤ sizeLine := Nat.le_trans hlen hn2
  cases e : (K w.params).lookup a with
  | some oo =>
    have eo := kin a oo e
    rw [hobj] at eo
    cases eo
    refine law_core (H := fun _ => none) kin GG.T.g GG.T.b GG.T.builtins GG.T.nolimit hg hobj room hF hb (good ns hlen) (.inr ⟨_, vs.toArray, _, e, rfl, rfl, rfl, ?_, by simpa using rv⟩) (fun b u z => nomatch z) (fun b u z => nomatch z) fun z => absurd rfl z
    have := rv.length
    simp at this
    simp
    omega
  | none =>
    refine law_core (H := upd (fun _ => none) a (.frz { cls := .type "list", data := .seq vs.toArray } (.lst (ns.map V.int)))) kin GG.T.g GG.T.b GG.T.builtins GG.T.nolimit hg hobj room hF hb (good ns hlen) (.inl (.inr ⟨_, upd_same⟩)) (fun b u z => ?_) (fun b u z => ?_) fun _ => e
    · by_cases hba : b = a
      · subst hba
        rw [upd_same] at z
        cases z
        exact ⟨hobj, by rw [List.length_map]; exact len, vs, _, rv, hobj⟩
      · rw [upd_ne hba] at z
        cases z
    · by_cases hba : b = a
      · subst hba
        rw [upd_same] at z
        cases z
        exact ⟨rfl, _, _, rfl⟩
      · rw [upd_ne hba] at z
        cases z
end
end DL


/-! D layer, 6: texts, enumerate, zip walked; comprehensions. -/
namespace DL
open PySem PySem.Spec L2

/-! ### a walk that gives new tuples -/
def Jr (K : PySem.W.Frag) (F : Hp) (rows : List (List D)) : It :=
  ⟨fun i H => i < rows.length ∧ Same F H, fun i H x H' => ∃ T xs ds, x = .ref T ∧ H T = none ∧ H' = upd H T (.tup xs) ∧ rows[i]? = some ds ∧ DrAll K F xs ds, fun i H => i = rows.length ∧ Same F H⟩
structure Rows (P : Program) (w : World) (K : PySem.W.Frag) (tg : Expr) (F : Hp) (rows : List (List D)) (e : Addr) (fp : List Addr) (tn : Nat → Heap → Prop) : Prop where
  mem : e ∈ fp
  obj : ∀ i h, tn i h → ∀ b ∈ fp, ∃ o, h.get? b = some o ∧ ∀ v, o.data ≠ .cell v
  keep : ∀ i h h', tn i h → (∀ b ∈ fp, ∀ o, h.get? b = some o → h'.get? b = some o) → tn i h'
  short : ∀ ds ∈ rows, ds.length ≤ sizeLine
  run : ∀ (X : Cx), X.prog = P → X.w = w → X.K = K → X.calm = true → ∀ (i : Nat) (pins : List (Addr × Obj)) (s : Shared) (σ : St) (H : Hp), L2.Inv X pins σ H s → Same F H → (∀ b ∈ fp, H b = none) → tn i s.heap →
    ∃ (fp' wr : List Addr) (Y : Nat → Heap → Value → Heap → Prop) (St : Nat → Heap → Prop), GoesN P w X.A tg e fp' wr rows.length Y St ∧ St i s.heap ∧ (∀ b ∈ wr, b ∈ fp) ∧ (∀ h, St (i + 1) h → tn (i + 1) h) ∧
      ∀ h₀ v h', i < rows.length → Y i h₀ v h' → ∃ (T : Addr) (xs : List V) (us : List Value) (ds : List D), v = .ref T ∧ h₀.objs.size ≤ T ∧ Vals xs us ∧ h'.IsTuple T us.toArray ∧ rows[i]? = some ds ∧ DrAll K F xs ds
  self : ∀ (A : Around) (i : Nat) (s : Shared) (Q : Value → Shared → Prop) (E : Value → Shared → Prop), tn i s.heap → Q (.ref e) s → wpAny (model P w) A (pyIter (.ref e)) Q E s
theorem turn_rows {P : Program} {w : World} {K : PySem.W.Frag} {tg : Expr} {F : Hp} {rows : List (List D)} {e : Addr} {fp : List Addr} {tn : Nat → Heap → Prop} (R : Rows P w K tg F rows e fp tn) : Turn P w K tg (Jr K F rows) fp e tn where
  mem := R.mem
  obj := R.obj
  keep := R.keep
  self := R.self
  item := by
    intro X hP hw hK hc i pins s σ H E I hf st hg
    obtain ⟨hi, sf⟩ := hg
    obtain ⟨fp', wr, Y, St, G, st0, hwr, hst, hY⟩ := R.run X hP hw hK hc i pins s σ H I sf (fun b hb => (hf b hb).1) st
    subst hP hw hK
    refine G.goes i s _ E hi st0 fun v h' tk y st1 k _ => ?_
    obtain ⟨T, xs, us, ds, rfl, hT, rv, tup, er, dr⟩ := hY _ _ _ hi y
    have hz : xs.length ≤ sizeLine := by rw [dr.length]; exact R.short ds (List.mem_of_getElem? er)
    have nT : H T = none := I.hok.fresh hT
    have I1 := I.turnedNew (t' := tk) (h' := h') (ch := fp) (ob := .tup xs) (fun b o hb q => k b o (fun z => hb (hwr b z)) q) hf hT ⟨hz, us, rv, tup⟩
    refine ⟨.ref T, _, I1, rfl, ⟨T, xs, ds, rfl, nT, rfl, er, dr⟩, hst _ st1, fun b hb => ?_⟩
    rw [upd_ne]
    · exact (hf b hb).1
    · rintro rfl
      obtain ⟨o, ho, _⟩ := R.obj i _ st b hb
      exact absurd (Nat.lt_of_lt_of_le (Heap.lt_size ho) hT) (Nat.lt_irrefl _)
  done := by
    intro X hP hw hK hc i pins s σ H E I hf st hg
    obtain ⟨rfl, sf⟩ := hg
    obtain ⟨fp', wr, Y, St, G, st0, hwr, hst, hY⟩ := R.run X hP hw hK hc _ pins s σ H I sf (fun b hb => (hf b hb).1) st
    subst hP hw hK
    refine wpAny_mono (G.stops s (fun s1 => L2.Inv X pins σ H s1) E st0 fun h' tk k _ => ?_) (fun _ _ z => z) fun _ _ z => z
    exact I.turnedL (t' := tk) (ch := fp) (fun b o hb q => k b o (fun z => hb (hwr b z)) q) hf
theorem jr_ok {K : PySem.W.Frag} {F : Hp} {rows : List (List D)} : ItOk K F (Jr K F rows) (rows.map .tuple) := by
  refine ⟨fun i d B F1 ρ σ H s1 S e => ?_, fun H f => ⟨by rw [List.length_map], f⟩⟩
  rw [List.getElem?_map] at e
  obtain ⟨ds, e1, e2⟩ := Option.map_eq_some_iff.mp e
  subst e2
  refine ⟨⟨(List.getElem?_eq_some_iff.mp e1).1, s1.trans S.f⟩, fun x H' y => ?_⟩
  obtain ⟨T, xs, ds', rfl, nT, rfl, er, dr⟩ := y
  rw [e1] at er
  cases er
  obtain ⟨S', s'⟩ := S.made (o := .tup xs) nT
  exact ⟨_, s', S', .tup (SqT.of upd_same) ((dr.up s1).up s')⟩

/-! ### what can be walked by values: a list, a tuple, a text -/
inductive SrcV (K : PySem.W.Frag) (F : Hp) : V → List D → Prop where
  | lst {a : Addr} {vs : List V} {ds : List D} (q : SqL K F a vs) (r : DrAll K F vs ds) : SrcV K F (.ref a) ds
  | tup {a : Addr} {vs : List V} {ds : List D} (q : SqT K F a vs) (r : DrAll K F vs ds) : SrcV K F (.ref a) ds
  | str (z : Str) : SrcV K F (.str z) (z.cps.toList.map fun c => .str ⟨#[c]⟩)
/-- the iterator's own record over a source -/
inductive SrcT (K : PySem.W.Frag) (F : Hp) (ds : List D) (it : Addr) : (Nat → Heap → Prop) → Prop where
  | lst {a : Addr} {vs : List V} (q : SqL K F a vs) (r : DrAll K F vs ds) : SrcT K F ds it (fun i h => h.IsListIter it a i)
  | tup {a : Addr} {vs : List V} (q : SqT K F a vs) (r : DrAll K F vs ds) : SrcT K F ds it (fun i h => h.IsTupleIter it a i)
  | str (z : Str) (t : Tok) (ty : String) (h : ty = "str_ascii_iterator" ∨ ty = "str_iterator") (e : ds = z.cps.toList.map fun c => .str ⟨#[c]⟩) : SrcT K F ds it (fun i h => h.IsStrIter it ty z t i)
theorem SrcT.obj {K : PySem.W.Frag} {F : Hp} {ds : List D} {it : Addr} {tn : Nat → Heap → Prop} (S : SrcT K F ds it tn) {i : Nat} {h : Heap} (st : tn i h) : ∃ o, h.get? it = some o ∧ ∀ v, o.data ≠ .cell v := by
  cases S with
  | lst q r => obtain ⟨o, ho, hc, hd⟩ := st; exact ⟨o, ho, fun v z => by rw [hd] at z; cases z⟩
  | tup q r => obtain ⟨o, ho, hc, hd⟩ := st; exact ⟨o, ho, fun v z => by rw [hd] at z; cases z⟩
  | str z t ty h e => obtain ⟨o, ho, hc, hd⟩ := st; exact ⟨o, ho, fun v z => by rw [hd] at z; cases z⟩
theorem SrcT.cls {K : PySem.W.Frag} {F : Hp} {ds : List D} {it : Addr} {tn : Nat → Heap → Prop} (S : SrcT K F ds it tn) {i : Nat} {h : Heap} (st : tn i h) : ∃ o, h.get? it = some o ∧ o.cls ≠ .type "list" ∧ o.cls ≠ .type "tuple" := by
  cases S with
  | lst q r => obtain ⟨o, ho, hc, hd⟩ := st; exact ⟨o, ho, by rw [hc]; decide, by rw [hc]; decide⟩
  | tup q r => obtain ⟨o, ho, hc, hd⟩ := st; exact ⟨o, ho, by rw [hc]; decide, by rw [hc]; decide⟩
  | str z t ty h e =>
    obtain ⟨o, ho, hc, hd⟩ := st
    rcases h with rfl | rfl
    · exact ⟨o, ho, by rw [hc]; decide, by rw [hc]; decide⟩
    · exact ⟨o, ho, by rw [hc]; decide, by rw [hc]; decide⟩
theorem SrcT.keep {K : PySem.W.Frag} {F : Hp} {ds : List D} {it : Addr} {tn : Nat → Heap → Prop} (S : SrcT K F ds it tn) {i : Nat} {h h' : Heap} (st : tn i h) (k : ∀ o, h.get? it = some o → h'.get? it = some o) : tn i h' := by
  cases S with
  | lst q r => obtain ⟨o, ho, hc, hd⟩ := st; exact ⟨o, k o ho, hc, hd⟩
  | tup q r => obtain ⟨o, ho, hc, hd⟩ := st; exact ⟨o, k o ho, hc, hd⟩
  | str z t ty h e => obtain ⟨o, ho, hc, hd⟩ := st; exact ⟨o, k o ho, hc, hd⟩
/-- what a source's iterator draws -/
theorem SrcT.draws {K : PySem.W.Frag} {F : Hp} {ds : List D} {it : Addr} {tn : Nat → Heap → Prop} (S : SrcT K F ds it tn) {X : Cx} (hK : X.K = K) {pins : List (Addr × Obj)} {s : Shared} {σ : St} {H : Hp} {i : Nat} (I : L2.Inv X pins σ H s) (sf : Same F H) (hn : H it = none) (st : tn i s.heap) :
    ∃ (fp : List Addr) (Pd : Nat → Value → Prop) (St : Nat → Heap → Prop), (∀ A : Around, A.handled = none → Draws X.prog X.w A it fp ds.length Pd St) ∧ St i s.heap ∧ it ∈ fp ∧ (∀ j h, St j h → tn j h) ∧
      (∀ b ob, s.heap.get? b = some ob → H b = none → ob.cls ≠ .type "list" → ob.cls ≠ .type "tuple" → b ≠ it → b ∉ fp) ∧
      (∀ b ob, s.heap.get? b = some ob → H b = none → X.K.lookup b = none → b ≠ it → b ∉ fp) ∧
      ∀ x, Pd i x → i < ds.length → ∃ v d, RelV v x ∧ ds[i]? = some d ∧ Dr K F v d := by
  subst hK
  cases S with
  | lst q r =>
    rename_i a vs
    obtain ⟨its, rv, p, hz⟩ := I.list (sf.seq q)
    have len : its.toArray.size = ds.length := by rw [List.size_toArray, ← rv.length, r.length]
    have nl : a ≠ it := fun z => by
      obtain ⟨o, n, ho, hc, _⟩ := p
      obtain ⟨o', ho', hc', _⟩ := st
      rw [z, ho'] at ho
      cases ho
      rw [hc] at hc'
      exact absurd hc' (by decide)
    refine ⟨_, _, fun i h => h.IsListIter it a i ∧ h.IsList a its.toArray, fun A hA => by rw [← len]; exact Draws.list hA it a nl its.toArray, ⟨st, p.isList⟩, by simp, fun j h z => z.1, fun b ob hb hH h1 h2 hne hm => ?_, fun b ob hb hH hk hne hm => ?_, fun x hx hi => ?_⟩
    · have e : b = it ∨ b = a := by simpa using hm
      rcases e with e | e
      · exact hne e
      · obtain ⟨o, n, ho, hc, _⟩ := p
        rw [e, ho] at hb
        cases hb
        exact h1 hc
    · have e : b = it ∨ b = a := by simpa using hm
      rcases e with e | e
      · exact hne e
      · subst e
        rcases sf.seq q with (z | ⟨o, z⟩) | ⟨o, _, _, z, _⟩
        · rw [hH] at z; cases z
        · rw [hH] at z; cases z
        · rw [hk] at z; cases z
    · have hx' : its[i]? = some x := by simpa using hx
      obtain ⟨d, hd⟩ : ∃ d, ds[i]? = some d := ⟨ds[i], List.getElem?_eq_getElem hi⟩
      obtain ⟨v, h1, h2⟩ := r.get hd
      obtain ⟨u, h3, h4⟩ := rv.get h1
      rw [hx'] at h3
      cases h3
      exact ⟨v, d, h4, hd, h2⟩
  | tup q r =>
    rename_i a vs
    obtain ⟨its, rv, p, hz⟩ := I.tuple (sqT_mono sf q)
    have len : its.toArray.size = ds.length := by rw [List.size_toArray, ← rv.length, r.length]
    have nl : a ≠ it := fun z => by
      obtain ⟨o, ho, hc, _⟩ := p
      obtain ⟨o', ho', hc', _⟩ := st
      rw [z, ho'] at ho
      cases ho
      rw [hc] at hc'
      exact absurd hc' (by decide)
    refine ⟨_, _, fun i h => h.IsTupleIter it a i ∧ h.IsTuple a its.toArray, fun A hA => by rw [← len]; exact Draws.tuple hA it a nl its.toArray, ⟨st, p⟩, by simp, fun j h z => z.1, fun b ob hb hH h1 h2 hne hm => ?_, fun b ob hb hH hk hne hm => ?_, fun x hx hi => ?_⟩
    · have e : b = it ∨ b = a := by simpa using hm
      rcases e with e | e
      · exact hne e
      · obtain ⟨o, ho, hc, _⟩ := p
        rw [e, ho] at hb
        cases hb
        exact h2 hc
    · have e : b = it ∨ b = a := by simpa using hm
      rcases e with e | e
      · exact hne e
      · subst e
        rcases sqT_mono sf q with (z | ⟨o, z⟩) | ⟨o, _, _, z, _⟩
        · rw [hH] at z; cases z
        · rw [hH] at z; cases z
        · rw [hk] at z; cases z
    · have hx' : its[i]? = some x := by simpa using hx
      obtain ⟨d, hd⟩ : ∃ d, ds[i]? = some d := ⟨ds[i], List.getElem?_eq_getElem hi⟩
      obtain ⟨v, h1, h2⟩ := r.get hd
      obtain ⟨u, h3, h4⟩ := rv.get h1
      rw [hx'] at h3
      cases h3
      exact ⟨v, d, h4, hd, h2⟩
  | str z t ty h e =>
    subst e
    have len : z.cps.size = (z.cps.toList.map fun c => PyData.str ⟨#[c]⟩).length := by simp
    have fin : ∀ (x : Value), (∃ c u, z.cps[i]? = some c ∧ x = Value.str ⟨#[c]⟩ u) → ∃ v d, RelV v x ∧ (z.cps.toList.map fun c => PyData.str ⟨#[c]⟩)[i]? = some d ∧ Dr X.K F v d := fun x hx => by
      obtain ⟨c, u, h1, rfl⟩ := hx
      exact ⟨.str ⟨#[c]⟩, .str ⟨#[c]⟩, ⟨u, rfl⟩, by rw [List.getElem?_map, Array.getElem?_toList, h1]; rfl, .str _⟩
    rcases h with rfl | rfl
    · exact ⟨_, _, _, fun A hA => by rw [← len]; exact Draws.strAscii hA it z t, st, by simp, fun j h z => z, fun b ob _ _ _ _ hne hm => hne (by simpa using hm), fun b ob _ _ _ hne hm => hne (by simpa using hm), fun x hx _ => fin x hx⟩
    · exact ⟨_, _, _, fun A hA => by rw [← len]; exact Draws.strWide hA it z t, st, by simp, fun j h z => z, fun b ob _ _ _ _ hne hm => hne (by simpa using hm), fun b ob _ _ _ hne hm => hne (by simpa using hm), fun x hx _ => fin x hx⟩
/-- how a source begins -/
theorem SrcV.begins {K : PySem.W.Frag} {F : Hp} {v : V} {ds : List D} (S : SrcV K F v ds) {X : Cx} (hK : X.K = K) {pins : List (Addr × Obj)} {s : Shared} {σ : St} {H : Hp} {u : Value} (I : L2.Inv X pins σ H s) (sf : Same F H) (r : RelV v u) (it : Addr) :
    ∃ (o : Obj) (Hb : Heap → Prop) (tn : Nat → Heap → Prop), Begins u o Hb ∧ Hb s.heap ∧ SrcT K F ds it tn ∧ ∀ h : Heap, h.get? it = some o → tn 0 h := by
  subst hK
  cases S with
  | lst q r' =>
    cases r
    obtain ⟨its, rv, p, hz⟩ := I.list (sf.seq q)
    exact ⟨_, _, _, begins_list _ its.toArray, p.isList, .lst q r', fun h e => ⟨_, e, rfl, rfl⟩⟩
  | tup q r' =>
    cases r
    obtain ⟨its, rv, p, hz⟩ := I.tuple (sqT_mono sf q)
    exact ⟨_, _, _, begins_tuple _ its.toArray, p, .tup q r', fun h e => ⟨_, e, rfl, rfl⟩⟩
  | str z =>
    obtain ⟨t, rfl⟩ := r
    refine ⟨_, _, _, begins_text z t, trivial, .str z t (strIterType z) ?_ rfl, fun h e => ⟨_, e, rfl, rfl⟩⟩
    unfold strIterType
    split
    · exact .inl rfl
    · exact .inr rfl

/-! ### enumerate -/
def enumL (k : Int) (ds : List D) : List (List D) := ds.mapIdx fun i d => [.int (k + (i : Int)), d]
theorem rows_enum {P : Program} {w : World} {K : PySem.W.Frag} {elts : List Expr} {kk : Nat} {tpos : Pos} {F : Hp} {ds : List D} {e it : Addr} {k : Int} {tn : Nat → Heap → Prop} (S : SrcT K F ds it tn) (hne : e ≠ it) :
    Rows P w K (.Tuple elts kk tpos) F (enumL k ds) e [e, it] (fun i h => (∃ old, IsEnum h e it (k + (i : Int)) old) ∧ tn i h) where
  mem := by simp
  obj := fun i h st b hb => by
    obtain ⟨⟨old, he⟩, st⟩ := st
    have e' : b = e ∨ b = it := by simpa using hb
    rcases e' with z | z
    · rw [z]; exact ⟨_, he, fun v q => nomatch q⟩
    · rw [z]; exact S.obj st
  keep := fun i h h' st q => by
    obtain ⟨⟨old, he⟩, st⟩ := st
    exact ⟨⟨old, q e (by simp) _ he⟩, S.keep st fun o z => q it (by simp) o z⟩
  short := fun row hr => by
    unfold enumL at hr
    obtain ⟨i, hi, rfl⟩ := List.mem_mapIdx.mp hr
    show 2 ≤ sizeLine
    decide
  run := fun X hP hw hK hc i pins s σ H I sf hf st => by
    obtain ⟨⟨old, he⟩, st⟩ := st
    subst hP hw
    obtain ⟨fp, Pd, St, D, st0, hm, htn, hno, _, hx⟩ := S.draws hK I sf (hf it (by simp)) st
    have hef : e ∉ fp := hno e _ he (hf e (by simp)) (fun z => absurd (Value.type.inj z) (by decide)) (fun z => absurd (Value.type.inj z) (by decide)) hne
    have len : (enumL k ds).length = ds.length := by unfold enumL; simp
    rw [len]
    refine ⟨_, _, _, _, GoesN.enumFrom k (D X.A.in1 (I.ok.hd hc)) e hne hef hm, ⟨⟨old, he⟩, st0⟩, fun b hb => hb, fun h z => ⟨z.1, htn _ _ z.2⟩, fun h₀ v h' hi y => ?_⟩
    obtain ⟨T, t, x, rfl, hT, hp, tup⟩ := y
    obtain ⟨v, d, r1, r2, r3⟩ := hx x hp hi
    refine ⟨T, [.int (k + (i : Int)), v], [.int (k + (i : Int)) t, x], [.int (k + (i : Int)), d], rfl, hT, .cons ⟨t, rfl⟩ (.cons r1 .nil), tup, ?_, .cons (.int _) (.cons r3 .nil)⟩
    unfold enumL
    rw [List.getElem?_mapIdx, r2]
    rfl
  self := fun A i s Q E st h => let ⟨⟨_, he⟩, _⟩ := st; wpAny_pyIter_enum he h
/-- the items of what can be walked, as data -/
def itemsOf : D → Option (List D)
  | .list ds => some ds
  | .tuple ds => some ds
  | .str z => some (z.cps.toList.map fun c => .str ⟨#[c]⟩)
  | _ => none
theorem src_of {K : PySem.W.Frag} {F : Hp} {v : V} {d : D} {ds : List D} (r : Dr K F v d) (e : itemsOf d = some ds) : SrcV K F v ds := by
  cases r <;> simp only [itemsOf, reduceCtorEq, Option.some.injEq] at e
  · subst e; exact .str _
  · subst e; exact .lst (by assumption) (by assumption)
  · subst e; exact .tup (by assumption) (by assumption)
def gEnum1 : List D → Option (List D)
  | [d] => (itemsOf d).map fun ds => (enumL 0 ds).map .tuple
  | _ => none
def gEnum2 : List D → Option (List D)
  | [d, .int k] => if -(2 ^ 63) ≤ k ∧ k < 2 ^ 63 then (itemsOf d).map fun ds => (enumL k ds).map .tuple else none
  | _ => none
/-- the arguments as data, then the walk -/
def xWalk (g : List D → Option (List D)) (φ : Den (List Rv)) : Den (List D) := fun ρ => (φ ρ).bind fun rs ρ1 => ofO ((dats rs).bind g) ρ1
set_option maxHeartbeats 1000000 in
theorem meets_enum1 {v : Value} {o : Obj} {Hb : Heap → Prop} (B : Begins v o Hb) :
    Meets (Builtin.«enumerate.__new__» ⟨[.type "enumerate", v], []⟩) (fun _ R s => Hb s.heap ∧
      R (.ok (.ret (.ref (s.heap.push o).objs.size))) { s with heap := (s.heap.push o).push { cls := .type "enumerate", data := .fields #[.none, .bool false, .ref s.heap.objs.size, rawInt 0, .none, .none] } }) :=
  .of_wp fun prog w A R s h => by
    obtain ⟨h1, h⟩ := h
    obtain ⟨hp, gl, dl, tk, osx⟩ := s
    have hsub := PySem.sub_enumerate
    have q1 : ∀ {A' : Around} {E' : Value → Shared → Prop} {Q' : Value → Shared → Prop}, Q' (.ref hp.objs.size) ⟨hp.push o, gl, dl, tk, osx⟩ → wpAny (model prog w) A' (pyIter v) Q' E' ⟨hp, gl, dl, tk, osx⟩ :=
      fun qq => B.iter prog w _ _ ⟨hp, gl, dl, tk, osx⟩ _ h1 qq
    wp_walk using q1
    refine wpAny_stack_any fun st => wpAny_pure ?_
    split
    · rename_i c _ _ _ _ _
      cases (c == Value.type "enumerate")
      · wp_walk using q1
        exact ⟨_, rfl, h⟩
      · wp_walk using q1
        exact ⟨_, rfl, h⟩
    · wp_walk using q1
      exact ⟨_, rfl, h⟩
theorem call_enum1 {prog : Program} {w : World} {A : Around} {E : Value → Shared → Prop} {s : Shared} {v : Value} {o : Obj} {Hb : Heap → Prop} {Q : Value → Shared → Prop} (B : Begins v o Hb) (h1 : Hb s.heap)
    (h : ∀ h', IsEnum h' (s.heap.objs.size + 1) s.heap.objs.size 0 .none → h'.get? s.heap.objs.size = some o →
      (∀ b o, s.heap.get? b = some o → h'.get? b = some o) → Q (.ref (s.heap.objs.size + 1)) { s with heap := h' }) :
    wpAny (model prog w) A (call (.type "enumerate") [v]) Q E s := by
  refine callType_new F.called_enumerate (by decide) (F.typeCall_enumerate_1 _) (F.newCall_enumerate_1 _) (fun obj => F.args_object_init_2 obj _) F.entry_enumerate_new (meets_enum1 B) ⟨h1, ?_⟩
  have hz : (s.heap.push o).objs.size = s.heap.objs.size + 1 := Heap.size_push ..
  show _ ∧ _
  rw [hz]
  have he : IsEnum ((s.heap.push o).push { cls := .type "enumerate", data := .fields #[.none, .bool false, .ref s.heap.objs.size, rawInt 0, .none, .none] }) (s.heap.objs.size + 1) s.heap.objs.size 0 .none := by
    have ht := Heap.get?_push_size (s.heap.push o) (o := { cls := .type "enumerate", data := .fields #[.none, .bool false, .ref s.heap.objs.size, rawInt 0, .none, .none] }) rfl
    rwa [hz] at ht
  exact ⟨⟨_, he, rfl⟩, h _ he (Heap.get?_push_of_some _ (Heap.get?_push_size _ B.free)) fun b ob x => Heap.get?_push_of_some _ (Heap.get?_push_of_some _ x)⟩
section
variable {X : Cx} {W : WX} {tg e a b : Expr} {elts : List Expr} {kk : Nat} {tpos p pos : Pos} {φ : Den Rv} {ψ : Den (List Rv)}
theorem di_enum (hg : Gl X "enumerate") (hm : X.mg "enumerate" = none) (ha : DA X W [a] ψ) (hs : starEach [a] X.env = [(false, eval a X.env)] := by rfl) : DI X W (.Tuple elts kk tpos) (.Call (.Name "enumerate" p) [a] [] pos) (xWalk gEnum1 ψ) := by
  refine ⟨fun pins s σ H R I hq => ?_⟩
  obtain ⟨B, F, ρ, S, w⟩ := hq
  refine PyProof.Rows.Call_ (ld_blt I hg hm PyProof.Rows.boot_enumerate (PyProof.Rows.callWith_type1 (thn (ha.run pos pins s σ H (fun vs H1 => ∃ v ds F1, vs = [v] ∧ Same F1 H1 ∧ SrcV X.K F1 v ds ∧ R (Jr X.K F1 (enumL 0 ds)) H1) I ?_) fun us s1 hh => ?_) hs rfl))
  · refine ⟨B, F, ρ, S, wp_mono (wp_bind w) (fun rs ρ1 w1 F1 vs H1 s1 S1 q1 => ?_) fun _ _ z => z⟩
    obtain ⟨rows, e1, w2⟩ := wp_ofO w1
    obtain ⟨ds, e2, e3⟩ := Option.bind_eq_some_iff.mp e1
    have r := dats_ok e2 q1
    unfold gEnum1 at e3
    split at e3
    · cases r with
      | cons r1 t =>
        cases t
        obtain ⟨items, e4, e5⟩ := Option.map_eq_some_iff.mp e3
        subst e5
        exact ⟨_, items, F1, rfl, S1.f, src_of r1 e4, w2 F1 _ H1 s1 S1 jr_ok⟩
    · cases e3
  · obtain ⟨vs, H1, I1, r1, v, ds, F1, rfl, sf, src, q⟩ := hh
    cases r1 with
    | cons r rr =>
      cases rr
      obtain ⟨o, Hb, tn, Bg, hb, st, h0⟩ := src.begins rfl I1 sf r s1.heap.objs.size
      refine call_enum1 Bg hb fun h' he hit hk => wpAny_pyIter_enum he ?_
      have I2 : L2.Inv X pins σ H1 { s1 with heap := h' } := I1.kept (t' := s1.toks) hk
      refine ⟨s1.heap.objs.size + 1, [s1.heap.objs.size + 1, s1.heap.objs.size], _, _, H1, rfl, I2, turn_rows (rows_enum (k := 0) st (Nat.succ_ne_self _)), ⟨⟨.none, he⟩, h0 h' hit⟩, fun b hb => ?_, q⟩
      have hle : s1.heap.objs.size ≤ b := by
        rcases List.mem_cons.mp hb with z | z
        · rw [z]; exact Nat.le_succ _
        · rw [List.mem_singleton.mp z]; exact Nat.le_refl _
      exact I1.fpOk hle (I1.hok.fresh hle)
theorem di_enumK (hg : Gl X "enumerate") (hm : X.mg "enumerate" = none) (ha : DA X W [a, b] ψ) (hs : starEach [a, b] X.env = (false, eval a X.env) :: starEach [b] X.env := by rfl) (hp : (backTo pos (starEach [b] X.env)).any (·.1) = false := by rfl) : DI X W (.Tuple elts kk tpos) (.Call (.Name "enumerate" p) [a, b] [] pos) (xWalk gEnum2 ψ) := by
  refine ⟨fun pins s σ H R I hq => ?_⟩
  obtain ⟨B, F, ρ, S, w⟩ := hq
  refine PyProof.Rows.Call_ (ld_blt I hg hm PyProof.Rows.boot_enumerate (PyProof.Rows.callWith_type1 (thn (ha.run pos pins s σ H (fun vs H1 => ∃ v k ds F1, vs = [v, .int k] ∧ -(2 ^ 63) ≤ k ∧ k < 2 ^ 63 ∧ Same F1 H1 ∧ SrcV X.K F1 v ds ∧ R (Jr X.K F1 (enumL k ds)) H1) I ?_) fun us s1 hh => ?_) hs hp))
  · refine ⟨B, F, ρ, S, wp_mono (wp_bind w) (fun rs ρ1 w1 F1 vs H1 s1 S1 q1 => ?_) fun _ _ z => z⟩
    obtain ⟨rows, e1, w2⟩ := wp_ofO w1
    obtain ⟨ds, e2, e3⟩ := Option.bind_eq_some_iff.mp e1
    have r := dats_ok e2 q1
    unfold gEnum2 at e3
    split at e3
    · cases r with
      | cons r1 t =>
        cases t with
        | cons r2 t2 =>
          cases t2
          split at e3
          · rename_i hk
            obtain ⟨items, e4, e5⟩ := Option.map_eq_some_iff.mp e3
            subst e5
            cases r2
            exact ⟨_, _, items, F1, rfl, hk.1, hk.2, S1.f, src_of r1 e4, w2 F1 _ H1 s1 S1 jr_ok⟩
          · cases e3
    · cases e3
  · obtain ⟨vs, H1, I1, r1, v, k, ds, F1, rfl, k0, k1, sf, src, q⟩ := hh
    cases r1 with
    | cons r rr =>
      cases rr with
      | cons r2 rr =>
        cases rr
        obtain ⟨t, rfl⟩ := r2
        obtain ⟨o, Hb, tn, Bg, hb, st, h0⟩ := src.begins rfl I1 sf r s1.heap.objs.size
        refine enum_begins Bg hb k0 k1 fun h' he hit hsz hk => wpAny_pyIter_enum he ?_
        have I2 : L2.Inv X pins σ H1 { s1 with heap := h' } := I1.kept (t' := s1.toks) hk
        refine ⟨s1.heap.objs.size + 1, [s1.heap.objs.size + 1, s1.heap.objs.size], _, _, H1, rfl, I2, turn_rows (rows_enum (k := k) st (Nat.succ_ne_self _)), ⟨⟨.none, by simpa using he⟩, h0 h' hit⟩, fun b hb => ?_, q⟩
        have hle : s1.heap.objs.size ≤ b := by
          rcases List.mem_cons.mp hb with z | z
          · rw [z]; exact Nat.le_succ _
          · rw [List.mem_singleton.mp z]; exact Nat.le_refl _
        exact I1.fpOk hle (I1.hok.fresh hle)
end
/-! ### zip of two -/
def zipL : List D → List D → List (List D)
  | x :: xs, y :: ys => [x, y] :: zipL xs ys
  | _, _ => []
theorem zipL_length : ∀ (xs ys : List D), (zipL xs ys).length = min xs.length ys.length
  | [], ys => by cases ys <;> simp [zipL]
  | x :: xs, [] => by simp [zipL]
  | x :: xs, y :: ys => by simp only [zipL, List.length_cons, zipL_length xs ys]; omega
theorem zipL_get : ∀ (xs ys : List D) (i : Nat) (a b : D), xs[i]? = some a → ys[i]? = some b → (zipL xs ys)[i]? = some [a, b]
  | x :: xs, y :: ys, 0, a, b, e, f => by cases e; cases f; rfl
  | x :: xs, y :: ys, i + 1, a, b, e, f => zipL_get xs ys i a b e f
theorem zipL_short : ∀ (xs ys : List D), ∀ r ∈ zipL xs ys, r.length = 2
  | x :: xs, y :: ys, r, h => by
    rcases List.mem_cons.mp h with e | e
    · rw [e]; rfl
    · exact zipL_short xs ys r e
theorem rows_zip {P : Program} {w : World} {K : PySem.W.Frag} {elts : List Expr} {kk : Nat} {tpos : Pos} {F : Hp} {xs ys : List D} {z TI TO i1 i2 : Addr} {tn1 tn2 : Nat → Heap → Prop} (S1 : SrcT K F xs i1 tn1) (S2 : SrcT K F ys i2 tn2)
    (zT : TI ≠ z) (zO : TO ≠ z) (TO' : TI ≠ TO) (T1 : TI ≠ i1) (T2 : TI ≠ i2) (O1 : TO ≠ i1) (O2 : TO ≠ i2) (z1 : z ≠ i1) (z2 : z ≠ i2) (i12 : i1 ≠ i2) (kO : K.lookup TO = none) :
    Rows P w K (.Tuple elts kk tpos) F (zipL xs ys) z [z, TI, TO, i1, i2] (fun i h => (IsZip h z TI TO .none ∧ IsTupOf2 h TI (.ref i1) (.ref i2) ∧ ∃ a1 a2, IsTupOf2 h TO a1 a2) ∧ (tn1 i h ∧ tn2 i h) ∧ (∃ o, h.get? i1 = some o ∧ o.cls ≠ .type "list" ∧ o.cls ≠ .type "tuple") ∧ ∃ o, h.get? i2 = some o ∧ o.cls ≠ .type "list" ∧ o.cls ≠ .type "tuple") where
  mem := by simp
  obj := fun i h st b hb => by
    obtain ⟨⟨hz, hI, a1, a2, hO⟩, ⟨st1, st2⟩, _⟩ := st
    have e' : b = z ∨ b = TI ∨ b = TO ∨ b = i1 ∨ b = i2 := by simpa using hb
    rcases e' with q | q | q | q | q
    · rw [q]; exact ⟨_, hz, fun v q => nomatch q⟩
    · rw [q]; exact ⟨_, hI, fun v q => nomatch q⟩
    · rw [q]; exact ⟨_, hO, fun v q => nomatch q⟩
    · rw [q]; exact S1.obj st1
    · rw [q]; exact S2.obj st2
  keep := fun i h h' st k => by
    obtain ⟨⟨hz, hI, a1, a2, hO⟩, ⟨st1, st2⟩, ⟨o1, ho1, hc1⟩, o2, ho2, hc2⟩ := st
    exact ⟨⟨k z (by simp) _ hz, k TI (by simp) _ hI, a1, a2, k TO (by simp) _ hO⟩, ⟨S1.keep st1 fun o q => k i1 (by simp) o q, S2.keep st2 fun o q => k i2 (by simp) o q⟩, ⟨o1, k i1 (by simp) _ ho1, hc1⟩, o2, k i2 (by simp) _ ho2, hc2⟩
  short := fun row hr => by rw [zipL_short xs ys row hr]; show 2 ≤ sizeLine; decide
  run := fun X hP hw hK hc i pins s σ H I sf hf st => by
    obtain ⟨⟨hz, hI, a1, a2, hO⟩, ⟨st1, st2⟩, ⟨o1, ho1, hc1⟩, o2, ho2, hc2⟩ := st
    subst hP hw
    obtain ⟨fp1, Pd1, St1, D1, sa1, hm1, ht1, hn1, hl1, hx1⟩ := S1.draws hK I sf (hf i1 (by simp)) st1
    obtain ⟨fp2, Pd2, St2, D2, sa2, hm2, ht2, hn2, hl2, hx2⟩ := S2.draws hK I sf (hf i2 (by simp)) st2
    have hh := I.ok.hd hc
    have sep : ZipSep2 z TI TO i1 i2 fp1 fp2 :=
      { TIz := zT, TOz := zO, TITO := TO', TIi1 := T1, mem1 := hm1, zf1 := hn1 z _ hz (hf z (by simp)) (fun q => absurd (Value.type.inj q) (by decide)) (fun q => absurd (Value.type.inj q) (by decide)) z1, Tf1 := hl1 TO _ hO (hf TO (by simp)) (hK ▸ kO) O1,
        TIi2 := T2, mem2 := hm2, zf2 := hn2 z _ hz (hf z (by simp)) (fun q => absurd (Value.type.inj q) (by decide)) (fun q => absurd (Value.type.inj q) (by decide)) z2, Tf2 := hl2 TO _ hO (hf TO (by simp)) (hK ▸ kO) O2,
        sep1_2 := hn2 i1 _ ho1 (hf i1 (by simp)) hc1.1 hc1.2 i12, sep2_1 := hn1 i2 _ ho2 (hf i2 (by simp)) hc2.1 hc2.2 (Ne.symm i12) }
    rw [zipL_length]
    refine ⟨_, _, _, _, GoesN.zip2 sep (D1 X.A.in1 hh) (D2 X.A.in1 hh), ⟨hz, hI, ⟨a1, a2, hO⟩, sa1, sa2⟩, fun b hb => ?_, fun h q => ?_, fun h₀ v h' hi y => ?_⟩
    · have e' : b = z ∨ b = TO ∨ b = i1 ∨ b = i2 := by simpa using hb
      rcases e' with q | q | q | q <;> simp [q]
    · obtain ⟨q1, q2, q3, q4, q5⟩ := q
      refine ⟨⟨q1, q2, q3⟩, ⟨ht1 _ _ q4, ht2 _ _ q5⟩, ?_, ?_⟩
      · exact S1.cls (ht1 _ _ q4)
      · exact S2.cls (ht2 _ _ q5)
    · obtain ⟨T, x, y', rfl, hT, p1, p2, tup⟩ := y
      obtain ⟨v1, d1, r1, g1, k1⟩ := hx1 x p1 (by omega)
      obtain ⟨v2, d2, r2, g2, k2⟩ := hx2 y' p2 (by omega)
      exact ⟨T, [v1, v2], [x, y'], [d1, d2], rfl, hT, .cons r1 (.cons r2 .nil), tup, zipL_get _ _ _ _ _ g1 g2, .cons k1 (.cons k2 .nil)⟩
  self := fun A i s Q E st h => wpAny_pyIter_zip st.1.1 h
def gZip : List D → Option (List D)
  | [a, b] => (itemsOf a).bind fun xs => (itemsOf b).map fun ys => (zipL xs ys).map .tuple
  | _ => none
section
variable {X : Cx} {W : WX} {tg e a b : Expr} {elts : List Expr} {kk : Nat} {tpos p pos : Pos} {φ : Den Rv} {ψ : Den (List Rv)}
theorem di_zip (hg : Gl X "zip") (hm : X.mg "zip" = none) (ha : DA X W [a, b] ψ) (hs : starEach [a, b] X.env = (false, eval a X.env) :: starEach [b] X.env := by rfl) (hp : (backTo pos (starEach [b] X.env)).any (·.1) = false := by rfl) : DI X W (.Tuple elts kk tpos) (.Call (.Name "zip" p) [a, b] [] pos) (xWalk gZip ψ) := by
  refine ⟨fun pins s σ H R I hq => ?_⟩
  obtain ⟨B, F, ρ, S, w⟩ := hq
  refine PyProof.Rows.Call_ (ld_blt I hg hm PyProof.Rows.boot_zip (PyProof.Rows.callWith_type1 (thn (ha.run pos pins s σ H (fun vs H1 => ∃ v v2 xs ys F1, vs = [v, v2] ∧ Same F1 H1 ∧ SrcV X.K F1 v xs ∧ SrcV X.K F1 v2 ys ∧ R (Jr X.K F1 (zipL xs ys)) H1) I ?_) fun us s1 hh => ?_) hs hp))
  · refine ⟨B, F, ρ, S, wp_mono (wp_bind w) (fun rs ρ1 w1 F1 vs H1 s1 S1 q1 => ?_) fun _ _ z => z⟩
    obtain ⟨rows, e1, w2⟩ := wp_ofO w1
    obtain ⟨ds, e2, e3⟩ := Option.bind_eq_some_iff.mp e1
    have r := dats_ok e2 q1
    unfold gZip at e3
    split at e3
    · cases r with
      | cons r1 t =>
        cases t with
        | cons r2 t2 =>
          cases t2
          obtain ⟨xs, e4, e5⟩ := Option.bind_eq_some_iff.mp e3
          obtain ⟨ys, e6, e7⟩ := Option.map_eq_some_iff.mp e5
          subst e7
          exact ⟨_, _, xs, ys, F1, rfl, S1.f, src_of r1 e4, src_of r2 e6, w2 F1 _ H1 s1 S1 jr_ok⟩
    · cases e3
  · obtain ⟨vs, H1, I1, r1, v, v2, xs, ys, F1, rfl, sf, src, src2, q⟩ := hh
    cases r1 with
    | cons r rr =>
      cases rr with
      | cons r2 rr =>
        cases rr
        obtain ⟨o1, Hb1, tn1, B1, hb1, st1, h1⟩ := src.begins rfl I1 sf r s1.heap.objs.size
        obtain ⟨o2, Hb2, tn2, B2, hb2, st2, h2⟩ := src2.begins rfl I1 sf r2 (s1.heap.objs.size + 1)
        refine zip_begins2 B1 B2 hb1 hb2 fun h' hz hI hO hi1 hi2 hsz hk => wpAny_pyIter_zip hz ?_
        have I2 : L2.Inv X pins σ H1 { s1 with heap := h' } := I1.kept (t' := s1.toks) hk
        have ne : ∀ {i j : Nat}, i ≠ j → s1.heap.objs.size + i ≠ s1.heap.objs.size + j := fun h z => h (Nat.add_left_cancel z)
        have kO : X.K.lookup (s1.heap.objs.size + 3) = none := by
          cases e : X.K.lookup (s1.heap.objs.size + 3) with
          | none => rfl
          | some o => exact absurd (Nat.lt_of_lt_of_le (Heap.lt_size (I1.kIn _ o e)) (Nat.le_add_right _ 3)) (Nat.lt_irrefl _)
        refine ⟨s1.heap.objs.size + 4, [s1.heap.objs.size + 4, s1.heap.objs.size + 2, s1.heap.objs.size + 3, s1.heap.objs.size, s1.heap.objs.size + 1], _, _, H1, rfl, I2,
          turn_rows (rows_zip st1 st2 (ne (by decide)) (ne (by decide)) (ne (by decide)) (ne (j := 0) (by decide)) (ne (by decide)) (ne (j := 0) (by decide)) (ne (by decide)) (ne (j := 0) (by decide)) (ne (by decide)) (ne (i := 0) (by decide)) kO),
          ⟨⟨hz, hI, _, _, hO⟩, ⟨h1 h' hi1, h2 h' hi2⟩, st1.cls (h1 h' hi1), st2.cls (h2 h' hi2)⟩, fun c hb => ?_, q⟩
        have e' : c = s1.heap.objs.size + 4 ∨ c = s1.heap.objs.size + 2 ∨ c = s1.heap.objs.size + 3 ∨ c = s1.heap.objs.size ∨ c = s1.heap.objs.size + 1 := by simpa using hb
        have hle : s1.heap.objs.size ≤ c := by
          rcases e' with z | z | z | z | z
          · rw [z]; exact Nat.le_add_right _ _
          · rw [z]; exact Nat.le_add_right _ _
          · rw [z]; exact Nat.le_add_right _ _
          · rw [z]; exact Nat.le_refl _
          · rw [z]; exact Nat.le_add_right _ _
        exact I1.fpOk hle (I1.hok.fresh hle)
end
end DL


/-! D layer, 7: list comprehensions. -/
namespace DL
open PySem PySem.Spec L2

def noX {α : Type} : Ans α → Ans α
  | .exc _ _ => .bad
  | m => m
theorem wp_noX {α : Type} {m : Ans α} {P : α → Env → Prop} {E E' : Exc → Env → Prop} (h : Wp (noX m) P E) : Wp m P E' := by
  cases m with
  | ok a ρ => exact h
  | exc x ρ => exact (show False from h).elim
  | bad => exact h
/-- the slots of a block's own names forgotten -/
def wipeE (ρ : Env) : List Nat → Env
  | [] => ρ
  | v :: vs => (wipeE ρ vs).set v none
def datOnly : Option (Option Cell) → Option Cell
  | some (some (.dat d)) => some (.dat d)
  | _ => none
/-- behind the block: its own names are what they were -/
def unwipe (ρ0 ρ : Env) : List Nat → Env
  | [] => ρ
  | v :: vs => (unwipe ρ0 ρ vs).set v (datOnly ρ0[v]?)
theorem wipeE_length (ρ : Env) : ∀ vs : List Nat, (wipeE ρ vs).length = ρ.length
  | [] => rfl
  | v :: vs => by unfold wipeE; rw [List.length_set, wipeE_length ρ vs]
theorem unwipe_length (ρ0 ρ : Env) : ∀ vs : List Nat, (unwipe ρ0 ρ vs).length = ρ.length
  | [] => rfl
  | v :: vs => by unfold unwipe; rw [List.length_set, unwipe_length ρ0 ρ vs]
theorem unwipe_some {ρ0 ρ : Env} {i : Nat} {c : Cell} : ∀ {vs : List Nat}, (unwipe ρ0 ρ vs)[i]? = some (some c) → (ρ0[i]? = some (some c) ∧ ∃ d, c = .dat d) ∨ (i ∉ vs ∧ ρ[i]? = some (some c))
  | [], h => .inr ⟨by simp, h⟩
  | v :: vs, h => by
    unfold unwipe at h
    by_cases hi : v = i
    · subst hi
      by_cases hv : v < (unwipe ρ0 ρ vs).length
      · rw [List.getElem?_set_self hv] at h
        have h := Option.some.inj h
        unfold datOnly at h
        split at h
        · rename_i d e
          cases h
          exact .inl ⟨e, d, rfl⟩
        · cases h
      · rw [List.getElem?_eq_none (by simpa using hv)] at h
        cases h
    · rw [List.getElem?_set_ne hi] at h
      rcases unwipe_some h with q | ⟨q1, q2⟩
      · exact .inl q
      · exact .inr ⟨by simp only [List.mem_cons, not_or]; exact ⟨fun e => hi e.symm, q1⟩, q2⟩
section
variable {K : PySem.W.Frag} {B : Base} {F : Hp} {ρ : Env} {σ : St} {H : Hp}
theorem Sim.wiped (S : Sim K B F ρ σ H) : ∀ vs : List Nat, Sim K B F (wipeE ρ vs) (wipe σ vs) H
  | [] => S
  | v :: vs => by
    have S1 := Sim.wiped S vs
    unfold wipeE wipe
    by_cases h : v < (wipeE ρ vs).length
    · exact S1.setNone h
    · have hn : ¬ v < (wipe σ vs).length := by rw [S1.len]; exact h
      rw [List.set_eq_of_length_le (by omega), List.set_eq_of_length_le (by omega)]
      exact S1
theorem wipe_out {σ : St} {i : Nat} : ∀ {vs : List Nat}, i ∉ vs → (wipe σ vs)[i]? = σ[i]?
  | [], _ => rfl
  | v :: vs, h => by
    unfold wipe
    rw [List.getElem?_set_ne (fun e => h (by rw [e]; exact List.mem_cons_self))]
    exact wipe_out fun z => h (List.mem_cons_of_mem _ z)
theorem wipe_at {σ : St} {i : Nat} : ∀ {vs : List Nat}, i ∈ vs → (wipe σ vs)[i]? = (σ[i]?).map fun _ => none
  | v :: vs, h => by
    unfold wipe
    by_cases q : v = i
    · subst q
      by_cases hv : v < (wipe σ vs).length
      · rw [List.getElem?_set_self hv]
        have : v < σ.length := by rw [← wipe_length σ vs]; exact hv
        rw [List.getElem?_eq_getElem this]
        rfl
      · rw [List.getElem?_eq_none (by simpa using hv)]
        have : ¬ v < σ.length := by rw [← wipe_length σ vs]; exact hv
        rw [List.getElem?_eq_none (by omega)]
        rfl
    · rw [List.getElem?_set_ne q]
      rcases List.mem_cons.mp h with e | e
      · exact absurd e.symm q
      · exact wipe_at e
theorem wipe_idem {σ : St} {vs : List Nat} : wipe (wipe σ vs) vs = wipe σ vs := by
  apply List.ext_getElem?
  intro i
  by_cases h : i ∈ vs
  · rw [wipe_at h, wipe_at h]
    cases σ[i]? <;> rfl
  · rw [wipe_out h]
theorem Sim.unwiped (S : Sim K B F ρ σ H) {vs : List Nat} {F' : Hp} {ρ' : Env} {H' : Hp} (s : Same F F') (S' : Sim K B F' ρ' (wipe σ vs) H') : Sim K B F' (unwipe ρ ρ' vs) σ H' := by
  have own : ∀ {i : Nat} {o : Bool} {d : D}, (unwipe ρ ρ' vs)[i]? = some (some (.own o d)) → i ∉ vs ∧ ρ'[i]? = some (some (.own o d)) := fun {i o d} h => by
    rcases unwipe_some h with ⟨_, d', q⟩ | q
    · cases q
    · exact q
  exact {
    g := S'.g, f := S'.f, bf := S'.bf, fr := S'.fr, gr := S'.gr
    len := by rw [unwipe_length, ← S'.len, wipe_length]
    dat := fun i d h => by
      rcases unwipe_some h with ⟨q, _⟩ | ⟨q1, q2⟩
      · obtain ⟨v, e1, e2⟩ := S.dat i d q
        exact ⟨v, e1, e2.up s⟩
      · obtain ⟨v, e1, e2⟩ := S'.dat i d q2
        exact ⟨v, by rw [wipe_out q1] at e1; exact e1, e2⟩
    mu := fun i o d h => by
      obtain ⟨q1, q2⟩ := own h
      obtain ⟨p, c, e1, e⟩ := S'.mu i o d q2
      exact ⟨p, c, by rw [wipe_out q1] at e1; exact e1, e⟩
    apart := fun i j o o' d d' p h h' e e' => by
      obtain ⟨q1, q2⟩ := own h
      obtain ⟨q3, q4⟩ := own h'
      exact S'.apart i j o o' d d' p q2 q4 (by rw [wipe_out q1]; exact e) (by rw [wipe_out q3]; exact e') }
/-- beside the slots, an object that nobody may touch -/
def Base.plus (B : Base) (a : Addr) (o : HO) : Base := ⟨upd B.G a o, B.F, upd B.H a o, B.σ⟩
structure Apart (B : Base) (F : Hp) (ρ : Env) (σ : St) (H : Hp) (a : Addr) (o : HO) : Prop where
  at' : H a = some o
  f0 : F a = none
  ns : ∀ (i : Nat) (ow : Bool) (d : D), ρ[i]? = some (some (.own ow d)) → σ[i]? ≠ some (some (.ref a))
theorem Sim.guard (S : Sim K B F ρ σ H) {a : Addr} {o : HO} (h : Apart B F ρ σ H a o) : Sim K (B.plus a o) F ρ σ H where
  g := fun b x e => by
    by_cases q : b = a
    · subst q
      have e : upd B.G b o b = some x := e
      rw [upd_same] at e
      rw [← e]
      exact h.at'
    · have e : upd B.G a o b = some x := e
      rw [upd_ne q] at e
      exact S.g b x e
  f := S.f
  bf := S.bf
  fr := fun b e => by
    by_cases q : b = a
    · subst q
      exact absurd h.f0 e
    · rcases S.fr b e with z | z
      · exact .inl z
      · exact .inr (by show upd B.H a o b = none; rw [upd_ne q]; exact z)
  gr := fun b e => by
    by_cases q : b = a
    · subst q
      rw [h.at']
      simp
    · have e : upd B.H a o b ≠ none := e
      rw [upd_ne q] at e
      exact S.gr b e
  len := S.len
  dat := S.dat
  mu := fun i ow d e => by
    obtain ⟨p, c, h1, h2, h3, h4, h5, h6, h7⟩ := S.mu i ow d e
    have q : p ≠ a := fun z => h.ns i ow d e (by rw [← z]; exact h1)
    exact ⟨p, c, h1, h2, h3, by show upd B.G a o p = none; rw [upd_ne q]; exact h4, h5, fun z => by show upd B.H a o p = none; rw [upd_ne q]; exact h6 z, h7⟩
  apart := S.apart
theorem Sim.unguard {a : Addr} {o : HO} (S : Sim K (B.plus a o) F ρ σ H) (g0 : B.G a = none) (f0 : B.F a = none) (h0 : B.H a = none) : Sim K B F ρ σ H ∧ Apart B F ρ σ H a o := by
  refine ⟨{ g := fun b x e => ?_, f := S.f, bf := S.bf, fr := fun b e => ?_, gr := fun b e => ?_, len := S.len, dat := S.dat, mu := fun i ow d e => ?_, apart := S.apart }, ?_, ?_, fun i ow d e z => ?_⟩
  · refine S.g b x (show upd B.G a o b = some x from ?_)
    rw [upd_ne]
    · exact e
    · rintro rfl
      rw [g0] at e
      cases e
  · rcases S.fr b e with z | z
    · exact .inl z
    · have z : upd B.H a o b = none := z
      by_cases q : b = a
      · subst q
        rw [upd_same] at z
        cases z
      · rw [upd_ne q] at z
        exact .inr z
  · refine S.gr b (show upd B.H a o b ≠ none from ?_)
    exact upd_some e
  · obtain ⟨p, c, h1, h2, h3, h4, h5, h6, h7⟩ := S.mu i ow d e
    have h4 : upd B.G a o p = none := h4
    have q : p ≠ a := fun z => by
      rw [z, upd_same] at h4
      cases h4
    rw [upd_ne q] at h4
    refine ⟨p, c, h1, h2, h3, h4, h5, fun z => ?_, h7⟩
    have := h6 z
    have this : upd B.H a o p = none := this
    rw [upd_ne q] at this
    exact this
  · exact S.g a o (show upd B.G a o a = some o from upd_same)
  · cases e : F a with
    | none => rfl
    | some x =>
      rcases S.fr a (by rw [e]; simp) with z | z
      · exact absurd f0 z
      · have z : upd B.H a o a = none := z
        rw [upd_same] at z
        cases z
  · obtain ⟨p, c, h1, h2, h3, h4, h5, h6, h7⟩ := S.mu i ow d e
    rw [z] at h1
    cases h1
    have h4 : upd B.G a o a = none := h4
    rw [upd_same] at h4
    cases h4
/-- the guarded object changed -/
theorem Sim.other (S : Sim K B F ρ σ H) {a : Addr} {o o' : HO} (h : Apart B F ρ σ H a o) (g0 : B.G a = none) : Sim K B F ρ σ (upd H a o') ∧ Apart B F ρ σ (upd H a o') a o' := by
  refine ⟨{ g := fun b x e => ?_, f := fun b x e => ?_, bf := S.bf, fr := S.fr, gr := fun b e => upd_some (S.gr b e), len := S.len, dat := S.dat, mu := fun i ow d e => ?_, apart := S.apart }, upd_same, h.f0, h.ns⟩
  · rw [upd_ne]
    · exact S.g b x e
    · rintro rfl
      rw [g0] at e
      cases e
  · rw [upd_ne]
    · exact S.f b x e
    · rintro rfl
      rw [h.f0] at e
      cases e
  · obtain ⟨p, c, h1, h2, h3, h4⟩ := S.mu i ow d e
    have q : p ≠ a := fun z => h.ns i ow d e (by rw [← z]; exact h1)
    exact ⟨p, c, h1, by rw [upd_ne q]; exact h2, h3, h4⟩
end

/-! ### the tests of a clause -/
def tDTs (K : PySem.W.Frag) (τ : Den Bool) : TT := tDT K W0 τ
def xYes : Den Bool := fun ρ => .ok true ρ
def DTs (X : Cx) (es : List Expr) (τ : Den Bool) : Prop := PTs X es (tDT X.K W0 τ)
theorem dts_nil {X : Cx} : DTs X [] xYes := ⟨fun pins s σ H Q I hq => by
  obtain ⟨B, F, ρ, S, w⟩ := hq
  exact pts_nil.run pins s σ H Q I (w F H (Same.refl F) S)⟩
theorem dts_one {X : Cx} {c : Expr} {τ : Den Bool} (h : DT X W0 c τ) : DTs X [c] τ := pts_one h

/-- the items of a comprehension -/
def lcD (vs : List Nat) (γ : DenG) (τ : Den Bool) (φ : Den Rv) : List D → Env → Ans (List D)
  | [], ρ => .ok [] ρ
  | d :: ds, ρ => match γ d ρ with
    | none => .bad
    | some ρ1 => (noX (τ ρ1)).bind fun b ρ2 => if b then (noX (φ ρ2)).bind fun r ρ3 => (frz r ρ3).bind fun x ρ4 => (lcD vs γ τ φ ds (wipeE ρ4 vs)).bind fun rest ρ5 => .ok (x :: rest) ρ5
      else lcD vs γ τ φ ds (wipeE ρ2 vs)
def xLc (ι : Den (List D)) (vs : List Nat) (γ : DenG) (τ : Den Bool) (φ : Den Rv) : Den D := fun ρ => (ι ρ).bind fun ds ρ1 => if ds.length ≤ sizeLine then (noX (lcD vs γ τ φ ds (wipeE ρ1 vs))).bind fun xs ρ2 => .ok (.list xs) (unwipe ρ1 ρ2 vs) else .bad
section
variable {X : Cx} {W : WX}
theorem lcD_sound {K : PySem.W.Frag} {ι : Den (List D)} {is vs : List Nat} {γ : DenG} {τ : Den Bool} {φ : Den Rv} (hv : ∀ i ∈ is, i ∈ vs) {σ : St} {H : Hp} {Q : VK} (h : tDN K W (xLc ι vs γ τ φ) σ H Q) :
    tLc (tDI K W ι) (tDG K is γ) (tDT K W0 τ) (tDE K W0 φ) vs σ H Q := by
  obtain ⟨B, F, ρ, S, w⟩ := h
  refine ⟨B, F, ρ, S, wp_mono (wp_bind w) (fun ds ρ1 w1 F1 J H1 s1 S1 J1 => ?_) fun _ _ z => z⟩
  intro D hD
  split at w1
  · rename_i hz
    have fD : F1 D = none := (S1.free hD).2.1
    have gD : B.G D = none := (S1.free hD).1
    have hDn : B.H D = none := (S1.free hD).2.2
    have bD : B.F D = none := by
      cases e : B.F D with
      | none => rfl
      | some x => rw [S1.bf D x e] at fD; cases fD
    have S2 := (S1.wiped vs).fresh (o := .lst []) hD
    have A2 : Apart B F1 (wipeE ρ1 vs) (wipe σ vs) (upd H1 D (.lst [])) D (.lst []) := ⟨upd_same, fD, (S1.wiped vs).noslot hD⟩
    refine ⟨fun i m H' => m + i = ds.length ∧ ∃ F' ρ' acc as, Same F1 F' ∧ Sim K B F' ρ' (wipe σ vs) H' ∧ Apart B F' ρ' (wipe σ vs) H' D (.lst acc) ∧ DrAll K F' acc as ∧ acc.length ≤ i ∧
      Wp (lcD vs γ τ φ (ds.drop i) ρ') (fun rest ρ'' => ∀ F' p H', Same F1 F' → Sim K B F' (unwipe ρ1 ρ'' vs) σ H' → NewAt K B F' (unwipe ρ1 ρ'' vs) σ H' p (.list (as ++ rest)) → Q (.ref p) H') (fun _ _ => False), ⟨ds.length, rfl, F1, wipeE ρ1 vs, [], [], Same.refl F1, S2, A2, .nil, Nat.le_refl _, ?_⟩, fun i m H' hw => ?_⟩
    · rw [List.drop_zero]
      exact wp_noX (wp_mono (wp_bind w1) (fun rest ρ'' q F' p H' s' S' N => q F' p H' (s1.trans s') S' N) fun _ _ z => z)
    · obtain ⟨hm, F', ρ', acc, as, s', S', A', dr, la, w'⟩ := hw
      by_cases hl : i < ds.length
      · have ed : ds.drop i = ds[i] :: ds.drop (i + 1) := List.drop_eq_getElem_cons hl
        have eg : ds[i]? = some ds[i] := List.getElem?_eq_getElem hl
        obtain ⟨h1, h2⟩ := J1.1 i ds[i] B F' ρ' (wipe σ vs) H' s' S' eg
        refine .inr ⟨h1, _, fun H2 hn => ⟨m - 1, by omega, by omega, hn⟩, fun x H2 y => ?_⟩
        have S3 := S'.guard A'
        obtain ⟨_, h3⟩ := J1.1 i ds[i] (B.plus D (.lst acc)) F' ρ' (wipe σ vs) H' s' S3 eg
        obtain ⟨F4, s4, S4, r4⟩ := h3 x H2 y
        rw [ed] at w'
        unfold lcD at w'
        cases e1 : γ ds[i] ρ' with
        | none => rw [e1] at w'; exact w'.elim
        | some ρ2 =>
          rw [e1] at w'
          simp only at w'
          refine ⟨_, F4, ρ', ds[i], ρ2, S4, r4, e1, fun σ2 S5 hw2 => ⟨(hw2 vs hv).trans wipe_idem, ?_⟩⟩
          have hw2 := (hw2 vs hv).trans wipe_idem
          refine ⟨_, F4, ρ2, S5, wp_mono (wp_noX (wp_bind w')) (fun b ρ3 w3 F5 H5 s5 S6 => ?_) fun _ _ z => z⟩
          have dr5 := dr.up (s4.trans s5)
          cases b with
          | false =>
            simp only [Bool.false_eq_true, if_false] at w3 ⊢
            have S7 := S6.wiped vs
            rw [hw2] at S7
            obtain ⟨S8, A8⟩ := S7.unguard gD bD hDn
            exact ⟨F5, wipeE ρ3 vs, acc, as, s'.trans (s4.trans s5), S8, A8, dr5, by omega, w3⟩
          | true =>
            simp only [if_true] at w3 ⊢
            refine ⟨_, F5, ρ3, S6, wp_mono (wp_noX (wp_bind w3)) (fun r ρ4 w4 F6 v H6 s6 S7 r7 => ?_) fun _ _ z => z⟩
            obtain ⟨x', ρ5, e5, w5⟩ := wp_frz (wp_bind w4)
            obtain ⟨F7, s7, r8, S8⟩ := S7.frz r7 e5
            have S9 := S8.wiped vs
            rw [hw2] at S9
            obtain ⟨S10, A10⟩ := S9.unguard gD bD hDn
            obtain ⟨S11, A11⟩ := S10.other (o' := .lst (acc ++ [v])) A10 gD
            refine ⟨acc, A10.at', by omega, F7, wipeE ρ5 vs, acc ++ [v], as ++ [x'], s'.trans (s4.trans (s5.trans (s6.trans s7))), S11, A11, (dr5.up (s6.trans s7)).append (.cons r8 .nil), by rw [List.length_append]; show acc.length + 1 ≤ i + 1; omega, ?_⟩
            refine wp_mono (wp_bind w5) (fun rest ρ6 q F' p H' s'' S' N => ?_) fun _ _ z => z
            refine q F' p H' s'' S' ?_
            have e9 : as ++ x' :: rest = as ++ [x'] ++ rest := by simp
            rw [e9]
            exact N
      · have ei : i = ds.length := by omega
        subst ei
        rw [List.drop_length] at w'
        refine .inl ⟨J1.2 H' (s'.trans S'.f), ?_⟩
        have S3 := S1.unwiped s' S'
        refine w' F' D H' s' S3 ⟨⟨_, A'.at', ?_⟩, A'.f0, gD, hDn, fun j ow d e z => ?_⟩
        · rw [List.append_nil]
          exact dr
        · rcases unwipe_some e with ⟨_, d', q⟩ | ⟨q1, q2⟩
          · cases q
          · exact A'.ns j ow d q2 (by rw [wipe_out q1]; exact z)
  · exact w1.elim
/-- [elt for target in iter if test] -/
theorem dn_lc {k : Nat} (C : Cok X W k) {elt tg iter : Expr} {ifs : List Expr} {scope : Scope} {own : List (Str × Nat)} {pos : Pos} {ι : Den (List D)} {is : List Nat} {γ : DenG} {τ : Den Bool} {φ : Den Rv} (hi : DI X W tg iter ι) (ok : BlkOk X.N X.env.scope scope own) (hv : ∀ i ∈ is, i ∈ own.map (·.2))
    (hg : ∀ (s : Shared) (H : Hp) (C : Addr) (cl : List (Str × Addr)) (fp : List Addr), DG (X.blk s H scope (compEnvC scope cl C X.env) fp) tg is γ) (ht : ∀ (s : Shared) (H : Hp) (C : Addr) (cl : List (Str × Addr)) (fp : List Addr), DTs (X.blk s H scope (compEnvC scope cl C X.env) fp) ifs τ)
    (he : ∀ (s : Shared) (H : Hp) (C : Addr) (cl : List (Str × Addr)) (fp : List Addr), DE (X.blk s H scope (compEnvC scope cl C X.env) fp) W0 elt φ) (hs : ∀ x, foldedSetIterable iter X.env x = pure x := by intro _; rfl) :
    DN X W (.ListComp elt [⟨tg, iter, ifs, 0⟩] scope pos) (xLc ι (own.map (·.2)) γ τ φ) :=
  pe_imp (pe_lc (g := tDG X.K is γ) (tt := tDT X.K W0 τ) (te := tDE X.K W0 φ) C.calm C.nd hi ok hg ht he hs) fun σ H Q h => lcD_sound hv h
theorem Cok.blk {k : Nat} (C : Cok X W k) {s : Shared} {H : Hp} {scope : Scope} {cenv : PySem.Env} {fp : List Addr} : Cok (X.blk s H scope cenv fp) W0 k where
  calm := C.calm
  nd := C.nd
  po := PassesOwn.never
  rm := C.rm
  gd := C.gd
  tk := fun u s' ⟨_, _, _, _, _, _, _, _, _, _, _, _, _, _, _, _, w⟩ => w.elim
end
end DL


/-! D layer, 8: builtins over lists, texts and their methods, f-strings, repr, lists put together. -/
namespace DL
open PySem PySem.Spec L2

/-! ### lists of one kind -/
def intsD : List D → Option (List Int)
  | [] => some []
  | .int i :: r => (intsD r).map (i :: ·)
  | _ => none
def boolsD : List D → Option (List Bool)
  | [] => some []
  | .bool i :: r => (boolsD r).map (i :: ·)
  | _ => none
def strsD : List D → Option (List Str)
  | [] => some []
  | .str i :: r => (strsD r).map (i :: ·)
  | _ => none
theorem intsD_eq : ∀ {ds : List D} {ns : List Int}, intsD ds = some ns → ds = ns.map .int
  | [], _, h => by cases h; rfl
  | .int i :: r, ns, h => by
    obtain ⟨ms, h1, h2⟩ := Option.map_eq_some_iff.mp h
    subst h2
    rw [intsD_eq h1]
    rfl
theorem boolsD_eq : ∀ {ds : List D} {ns : List Bool}, boolsD ds = some ns → ds = ns.map .bool
  | [], _, h => by cases h; rfl
  | .bool i :: r, ns, h => by
    obtain ⟨ms, h1, h2⟩ := Option.map_eq_some_iff.mp h
    subst h2
    rw [boolsD_eq h1]
    rfl
theorem strsD_eq : ∀ {ds : List D} {ns : List Str}, strsD ds = some ns → ds = ns.map .str
  | [], _, h => by cases h; rfl
  | .str i :: r, ns, h => by
    obtain ⟨ms, h1, h2⟩ := Option.map_eq_some_iff.mp h
    subst h2
    rw [strsD_eq h1]
    rfl
@[simp] theorem intsD_map (ns : List Int) : intsD (ns.map .int) = some ns := by induction ns <;> simp_all [intsD]
@[simp] theorem boolsD_map (ns : List Bool) : boolsD (ns.map .bool) = some ns := by induction ns <;> simp_all [boolsD]
@[simp] theorem strsD_map (ns : List Str) : strsD (ns.map .str) = some ns := by induction ns <;> simp_all [strsD]
/-- the items of a list that is walked by a builtin: a list only -/
def lstOf : List D → Option (List D)
  | [.list ds] => some ds
  | _ => none
theorem lstOf_eq {ds xs : List D} (h : lstOf ds = some xs) : ds = [.list xs] := by
  unfold lstOf at h
  split at h
  · cases h; rfl
  · cases h
def gSum (as : List D) : Option D := (lstOf as).bind fun ds => (intsD ds).map fun ns => .int ns.sum
def gAny (as : List D) : Option D := (lstOf as).bind fun ds => (boolsD ds).map fun ns => .bool (ns.any id)
def gAll (as : List D) : Option D := (lstOf as).bind fun ds => (boolsD ds).map fun ns => .bool (ns.all id)
section
variable {X : Cx} {W : WX} {K : PySem.W.Frag}
theorem s1_sum : S1 K (rSum K) (lk gSum) := by
  refine s1_one (fun B F ρ σ H v a d dz Q S q e e2 k => ?_) fun ds dz e => ?_
  · obtain ⟨xs, e3, e4⟩ := Option.bind_eq_some_iff.mp e2
    obtain ⟨ns, e5, e6⟩ := Option.map_eq_some_iff.mp e4
    cases lstOf_eq e3
    subst e6
    obtain ⟨p, vs, rfl, h1, h2⟩ := S.items q e
    rw [intsD_eq e5] at h2
    cases h2.of_ints
    exact ⟨p, ns, rfl, h1, k F _ H (Same.refl F) S (.int _)⟩
  · obtain ⟨xs, e3, _⟩ := Option.bind_eq_some_iff.mp e
    exact ⟨_, lstOf_eq e3⟩
theorem s1_any : S1 K (rAny K) (lk gAny) := by
  refine s1_one (fun B F ρ σ H v a d dz Q S q e e2 k => ?_) fun ds dz e => ?_
  · obtain ⟨xs, e3, e4⟩ := Option.bind_eq_some_iff.mp e2
    obtain ⟨ns, e5, e6⟩ := Option.map_eq_some_iff.mp e4
    cases lstOf_eq e3
    subst e6
    obtain ⟨p, vs, rfl, h1, h2⟩ := S.items q e
    rw [boolsD_eq e5] at h2
    cases h2.of_bools
    exact ⟨p, ns, rfl, h1, k F _ H (Same.refl F) S (.bl _)⟩
  · obtain ⟨xs, e3, _⟩ := Option.bind_eq_some_iff.mp e
    exact ⟨_, lstOf_eq e3⟩
theorem s1_all : S1 K (rAll K) (lk gAll) := by
  refine s1_one (fun B F ρ σ H v a d dz Q S q e e2 k => ?_) fun ds dz e => ?_
  · obtain ⟨xs, e3, e4⟩ := Option.bind_eq_some_iff.mp e2
    obtain ⟨ns, e5, e6⟩ := Option.map_eq_some_iff.mp e4
    cases lstOf_eq e3
    subst e6
    obtain ⟨p, vs, rfl, h1, h2⟩ := S.items q e
    rw [boolsD_eq e5] at h2
    cases h2.of_bools
    exact ⟨p, ns, rfl, h1, k F _ H (Same.refl F) S (.bl _)⟩
  · obtain ⟨xs, e3, _⟩ := Option.bind_eq_some_iff.mp e
    exact ⟨_, lstOf_eq e3⟩
/-- tuple(a list | a tuple) -/
def gTuple : List D → Option D
  | [.list ds] => some (.tuple ds)
  | [.tuple ds] => some (.tuple ds)
  | _ => none
def rTuple (K : PySem.W.Frag) : List V → Hp → VK → Prop := fun xs H Q => ∃ p ys, xs = [.ref p] ∧ ((SqL K H p ys ∧ ∀ l, H l = none → Q (.ref l) (upd H l (.tup ys))) ∨ (SqT K H p ys ∧ Q (.ref p) H))
theorem s1_tuple : S1 K (rTuple K) (lk gTuple) := by
  refine s1_one (fun B F ρ σ H v a d dz Q S q e e2 k => ?_) (fun ds dz e => ?_)
  · unfold gTuple at e2
    split at e2
    · rename_i ds hd
      cases hd
      cases e2
      obtain ⟨p, vs, rfl, h1, h2⟩ := S.items q e
      exact ⟨p, vs, rfl, .inl ⟨h1, fun l n => S.newTup n h2 rfl k⟩⟩
    · rename_i ds hd
      cases hd
      cases e2
      obtain ⟨p, vs, rfl, h1, h2⟩ := S.tuple q e
      exact ⟨p, vs, rfl, .inr ⟨sqT_mono S.f h1, k F _ H (Same.refl F) S (.tup h1 h2)⟩⟩
    · cases e2
  · unfold gTuple at e
    split at e <;> first | exact ⟨_, rfl⟩ | cases e

/-! ### what makes a new list -/
theorem Sim.newL {B : Base} {F : Hp} {ρ : Env} {σ : St} {H : Hp} (S : Sim K B F ρ σ H) {p : Addr} {vs : List V} {ds : List D} (e : H p = none) (r : DrAll K F vs ds) : Sim K B F ρ σ (upd H p (.lst vs)) ∧ NewAt K B F ρ σ (upd H p (.lst vs)) p (.list ds) := by
  obtain ⟨g0, f0, h0⟩ := S.free e
  exact ⟨S.fresh e, ⟨⟨_, upd_same, r⟩, f0, g0, h0, S.noslot e⟩⟩
def S1N (K : PySem.W.Frag) (r : List V → Hp → VK → Prop) (g : Env → List Rv → Option D) : Prop :=
  ∀ (B : Base) (F : Hp) (ρ : Env) (σ : St) (H : Hp) (vs : List V) (rs : List Rv) (dz : D) (Q : VK), Sim K B F ρ σ H → RvsOk K F σ rs vs → g ρ rs = some dz →
    (∀ F' p H', Same F F' → Sim K B F' ρ σ H' → NewAt K B F' ρ σ H' p dz → Q (.ref p) H') → r vs H Q
def xCallN (g : Env → List Rv → Option D) (φ : Den (List Rv)) : Den D := fun ρ => (φ ρ).bind fun rs ρ1 => ofO (g ρ1 rs) ρ1
theorem tcb_soundN {r : List V → Hp → VK → Prop} {g : Env → List Rv → Option D} {ψ : Den (List Rv)} (hs : S1N X.K r g) {σ : St} {H : Hp} {Q : VK} (h : tDN X.K W (xCallN g ψ) σ H Q) : tCB r (tDA X.K W ψ) σ H Q := by
  obtain ⟨B, F, ρ, S, w⟩ := h
  refine ⟨B, F, ρ, S, wp_mono (wp_bind w) (fun rs ρ1 w1 F1 vs H1 s1 S1 q1 => ?_) fun _ _ z => z⟩
  obtain ⟨d, e1, w2⟩ := wp_ofO w1
  exact hs B F1 ρ1 σ H1 vs rs d Q S1 q1 e1 fun F2 v H2 s2 S2 q2 => w2 F2 v H2 (s1.trans s2) S2 q2
variable {e a b : Expr} {es : List Expr} {p pos : Pos} {φ χ : Den Rv} {ψ : Den (List Rv)}
theorem dn_callTy {T : String} {x : Str} {r : List V → Hp → VK → Prop} {g : Env → List Rv → Option D} (hc : CallR X (.type T) r) (hs : S1N X.K r g) (hg : Gl X x) (hm : X.mg x = none) (hv : bootBuiltins x = some (.type T)) (ha : DA X W (e :: es) ψ) (hn : x ≠ "__name__" := by decide) (hdb : (x == ("__debug__" : Str)) = false := by decide)
    (he : starEach (e :: es) X.env = (false, eval e X.env) :: starEach es X.env := by rfl) (hpl : (backTo pos (starEach es X.env)).any (·.1) = false := by rfl) : DN X W (.Call (.Name x p) (e :: es) [] pos) (xCallN g ψ) :=
  pe_imp (pe_callTy hc hg hm hv ha hn hdb he hpl) fun _ _ _ h => tcb_soundN hs h
theorem dn_callB {id : String} {x : Str} {r : List V → Hp → VK → Prop} {g : Env → List Rv → Option D} (hc : CallR X (.builtin id) r) (hs : S1N X.K r g) (hg : Gl X x) (hm : X.mg x = none) (hv : bootBuiltins x = some (.builtin id)) (ha : DA X W (e :: es) ψ) (hn : x ≠ "__name__" := by decide) (hdb : (x == ("__debug__" : Str)) = false := by decide)
    (he : starEach (e :: es) X.env = (false, eval e X.env) :: starEach es X.env := by rfl) (hpl : (backTo pos (starEach es X.env)).any (·.1) = false := by rfl) : DN X W (.Call (.Name x p) (e :: es) [] pos) (xCallN g ψ) :=
  pe_imp (pe_callB hc hg hm hv ha hn hdb he hpl) fun _ _ _ h => tcb_soundN hs h
/-- one argument, a new list -/
theorem s1n_one {r : List V → Hp → VK → Prop} {g : List D → Option D}
    (h : ∀ (B : Base) (F : Hp) (ρ : Env) (σ : St) (H : Hp) (v : V) (a : Rv) (d dz : D) (Q : VK), Sim K B F ρ σ H → RvOk K F σ a v → look ρ a = some d → g [d] = some dz → (∀ F' p H', Same F F' → Sim K B F' ρ σ H' → NewAt K B F' ρ σ H' p dz → Q (.ref p) H') → r [v] H Q)
    (h1 : ∀ ds dz, g ds = some dz → ∃ d, ds = [d]) : S1N K r (lk g) := by
  intro B F ρ σ H vs rs dz Q S q e k
  obtain ⟨ds, e1, e2⟩ := lk_one e
  obtain ⟨d, rfl⟩ := h1 _ _ e2
  obtain ⟨a, rfl, e4⟩ := looks_one e1
  cases q with
  | cons q1 t =>
    cases t
    exact h B F ρ σ H _ a d dz Q S q1 e4 e2 k
/-- list(a list | a tuple | a text) -/
def gList : List D → Option D
  | [.list ds] => some (.list ds)
  | [.tuple ds] => some (.list ds)
  | [.str z] => if z.length ≤ sizeLine then some (.list (z.cps.toList.map fun c => .str ⟨#[c]⟩)) else none
  | _ => none
def rList (K : PySem.W.Frag) : List V → Hp → VK → Prop := fun xs H Q => (∃ p ys, xs = [.ref p] ∧ (SqL K H p ys ∨ SqT K H p ys) ∧ ∀ l, H l = none → Q (.ref l) (upd H l (.lst ys))) ∨
  ∃ z, xs = [.str z] ∧ z.length ≤ sizeLine ∧ ∀ l, H l = none → Q (.ref l) (upd H l (.lst (z.cps.toList.map fun c => V.str ⟨#[c]⟩)))
theorem vals_of_get : ∀ {xs : List V} {us : List Value}, xs.length = us.length → (∀ (j : Nat) (x : V) (u : Value), xs[j]? = some x → us[j]? = some u → RelV x u) → Vals xs us
  | [], [], _, _ => .nil
  | x :: xs, u :: us, hl, h => .cons (h 0 x u rfl rfl) (vals_of_get (Nat.succ.inj hl) fun j => h (j + 1))
theorem call_listStr (hc : X.calm = true) : CallR X (.type "list") (fun xs H Q => ∃ z, xs = [.str z] ∧ z.length ≤ sizeLine ∧ ∀ l, H l = none → Q (.ref l) (upd H l (.lst (z.cps.toList.map fun c => V.str ⟨#[c]⟩)))) := by
  intro pins s σ H xs us Q I r h
  obtain ⟨z, rfl, hz, h⟩ := h
  cases r with
  | cons r rr =>
    cases rr
    obtain ⟨t, rfl⟩ := r
    refine PySem.call_list_str (I.ok.hd hc) z t (fun h' tk acc' c' hk hS hacc => ?_) hz
    have new : ObjOk X.prog X.w (upd H s.heap.objs.size (.lst (z.cps.toList.map fun c => V.str ⟨#[c]⟩))) h' s.heap.objs.size (.lst (z.cps.toList.map fun c => V.str ⟨#[c]⟩)) := by
      refine ⟨by rw [List.length_map, Array.length_toList]; exact hz, acc'.toList, c', ?_, by simpa using hS⟩
      refine vals_of_get (by simp [hacc.1]) fun j x u e1 e2 => ?_
      obtain ⟨c, u', h1, h2⟩ := hacc.2 j u (by simpa using e2)
      subst h2
      rw [List.getElem?_map] at e1
      have h1' : z.cps.toList[j]? = some c := by simpa using h1
      rw [h1'] at e1
      cases e1
      exact ⟨u', rfl⟩
    exact ⟨.ref _, _, I.laid (t' := tk) hk (Nat.le_refl _) new, rfl, h _ I.fresh⟩
theorem call_listA (hc : X.calm = true) : CallR X (.type "list") (rList X.K) := callR_or call_list_of (call_listStr hc)
theorem DrAll.signs {F : Hp} : ∀ (cs : List Nat), DrAll K F (cs.map fun c => V.str ⟨#[c]⟩) (cs.map fun c => PyData.str ⟨#[c]⟩)
  | [] => .nil
  | c :: cs => .cons (.str _) (DrAll.signs cs)
theorem s1n_list : S1N K (rList K) (lk gList) := by
  refine s1n_one (fun B F ρ σ H v a d dz Q S q e e2 k => ?_) (fun ds dz e => ?_)
  · unfold gList at e2
    split at e2
    · rename_i ds hd
      cases hd
      cases e2
      obtain ⟨p, vs, rfl, h1, h2⟩ := S.items q e
      exact .inl ⟨p, vs, rfl, .inl h1, fun l n => let ⟨S', N⟩ := S.newL n h2; k F l _ (Same.refl F) S' N⟩
    · rename_i ds hd
      cases hd
      cases e2
      obtain ⟨p, vs, rfl, h1, h2⟩ := S.tuple q e
      exact .inl ⟨p, vs, rfl, .inr (sqT_mono S.f h1), fun l n => let ⟨S', N⟩ := S.newL n h2; k F l _ (Same.refl F) S' N⟩
    · rename_i z hd
      cases hd
      obtain ⟨hz, e2⟩ := if_some e2
      subst e2
      exact .inr ⟨z, by rw [S.str q e], hz, fun l n => let ⟨S', N⟩ := S.newL n (DrAll.signs _); k F l _ (Same.refl F) S' N⟩
    · cases e2
  · unfold gList at e
    split at e <;> first | exact ⟨_, rfl⟩ | cases e
/-! ### lists one behind the other, lists and texts many times -/
def rCatL (K : PySem.W.Frag) : R2 := fun x y H Q => ∃ l b xs zs, x = .ref l ∧ y = .ref b ∧ SqL K H l xs ∧ SqL K H b zs ∧ xs.length + zs.length ≤ sizeLine ∧ ∀ p, H p = none → Q (.ref p) (upd H p (.lst (xs ++ zs)))
theorem op_catL : OpR X (binaryOp .Add) (rCatL X.K) := by
  intro pins s σ H x y v u Q I rx ry h
  obtain ⟨l, b, xs, zs, rfl, rfl, hH, hB, hz, q⟩ := h
  cases rx
  cases ry
  obtain ⟨its, r, ⟨o, n, ho, hc, _, hd⟩, _⟩ := I.list hH
  obtain ⟨its2, r2, ⟨o2, n2, ho2, hc2, _, hd2⟩, _⟩ := I.list hB
  obtain ⟨cls, dd, data, sl⟩ := o
  obtain ⟨cls2, dd2, data2, sl2⟩ := o2
  simp only at hc hd hc2 hd2
  subst hc hd hc2 hd2
  have hz2 : its.toArray.size + its2.toArray.size ≤ sizeLine := by
    rw [List.size_toArray, List.size_toArray, ← r.length, ← r2.length]
    exact hz
  refine concat_meets ⟨_, ho, rfl⟩ ⟨_, ho2, rfl⟩ noFill_list_add seq_list_add PySem.F.slot_list_add PySem.F.entry_list_add (PySem.F.args_list_add_2 _ _) (PyProof.Rows.list_addW l b its.toArray its2.toArray n n2 dd dd2 sl sl2 hz2) ⟨ho, ho2, ?_⟩
  have ea : its.toArray ++ its2.toArray = (its ++ its2).toArray := by simp
  rw [ea]
  exact ⟨.ref _, _, I.lnew (t' := s.toks) (r.append r2) (by rw [List.length_append]; omega), rfl, q _ I.fresh⟩
def rRepL (K : PySem.W.Frag) : R2 := fun x y H Q => ∃ l k xs, x = .ref l ∧ y = .int k ∧ SqL K H l xs ∧ -(2 ^ 63) ≤ k ∧ k < 2 ^ 63 ∧ xs.length * k.toNat ≤ sizeLine ∧ ∀ p, H p = none → Q (.ref p) (upd H p (.lst (List.replicate k.toNat xs).flatten))
theorem op_repL : OpR X (binaryOp .Mult) (rRepL X.K) := by
  intro pins s σ H x y v u Q I rx ry h
  obtain ⟨l, k, xs, rfl, rfl, hH, h1, h2, hz, q⟩ := h
  cases rx
  obtain ⟨t, rfl⟩ := ry
  obtain ⟨its, r, ⟨o, n, ho, hc, _, hd⟩, _⟩ := I.list hH
  obtain ⟨cls, dd, data, sl⟩ := o
  simp only at hc hd
  subst hc hd
  have hlen : its.toArray.size * k.toNat ≤ sizeLine := by rw [List.size_toArray, ← r.length]; exact hz
  have hcap : ¬ its.toArray.size * k.toNat > (2 ^ 63 - 1) / 8 := by
    have : (sizeLine : Nat) ≤ (2 ^ 63 - 1) / 8 := by decide
    omega
  have hlong : ¬ Builtin.List.listTooLong (its.toArray.size * k.toNat) = true := by
    rw [notLongL hlen]
    exact Bool.false_ne_true
  have hfit : ¬ (!Builtin.List.listFitsIndex k) = true := by
    rw [fitsIndex_both h1 h2]
    exact Bool.false_ne_true
  refine wpAny_binaryOp_repeat_ref (T := "list") (U := "int") (by decide) ⟨_, ho, rfl⟩ (fun s' => typeIs_int s' k t) noFill_list_mul F.fills_int_mul F.slot_int_rmul repeat_list F.slot_int_index.lookup
    (call_meets F.slot_int_rmul (typeIs_int s k t) F.entry_int_rmul (F.args_int_rmul_2 _ _) (lm_int_rmul_list_any k t l its.toArray n dd sl)
      ⟨ho, rfl, ⟨_, ho, rfl⟩, call_meets F.slot_list_mul ⟨_, ho, rfl⟩ F.entry_list_mul (F.args_list_mul_2 _ _) (lm_list_mul_any l its.toArray n dd sl k t hfit hcap hlong) ⟨ho, ?_⟩⟩)
  rw [PyProof.Rows.listMul_foldl_if, List.toList_toArray]
  exact ⟨.ref _, _, I.lnew (t' := s.toks) (r.rep k.toNat) (by rw [PyProof.Rows.lm_len_rep_flat, Nat.mul_comm]; exact hz), rfl, q _ I.fresh⟩
def gRep : D → D → Option D
  | .list xs, .int k => if -(2 ^ 63) ≤ k ∧ k < 2 ^ 63 ∧ xs.length * k.toNat ≤ sizeLine then some (.list (List.replicate k.toNat xs).flatten) else none
  | _, _ => none
def S2N (K : PySem.W.Frag) (r : R2) (op : D → D → Option D) : Prop :=
  ∀ (B : Base) (F : Hp) (ρ : Env) (σ : St) (H : Hp) (x y : V) (a b : Rv) (da db dz : D) (Q : VK), Sim K B F ρ σ H → RvOk K F σ a x → RvOk K F σ b y → look ρ a = some da → look ρ b = some db → op da db = some dz →
    (∀ F' p H', Same F F' → Sim K B F' ρ σ H' → NewAt K B F' ρ σ H' p dz → Q (.ref p) H') → r x y H Q
/-- a new list out of two values -/
def xOpN (op : D → D → Option D) (φ ψ : Den Rv) : Den D := fun ρ => (φ ρ).bind fun a ρ1 => (ψ ρ1).bind fun b ρ2 => (appl2 op a b ρ2).bind fun r ρ3 => match r with
  | .dat d => .ok d ρ3
  | .slot _ => .bad
theorem dn_op {op : Operator} {r : R2} {g : D → D → Option D} (ho : OpR X (binaryOp op) r) (hs : S2N X.K r g) {ψ : Den Rv} (ha : DE X W a φ) (hb : DE X W b ψ) : DN X W (.BinOp a op b pos) (xOpN g φ ψ) := by
  refine pe_imp (pe_op ho ha hb) fun σ H Q h => ?_
  obtain ⟨B, F, ρ, S, w⟩ := h
  refine ⟨B, F, ρ, S, wp_mono (wp_bind w) (fun a ρ1 w1 F1 x H1 s1 S1 q1 => ?_) fun _ _ z => z⟩
  refine ⟨B, F1, ρ1, S1, wp_mono (wp_bind w1) (fun b ρ2 w2 F2 y H2 s2 S2 q2 => ?_) fun _ _ z => z.up s1⟩
  obtain ⟨da, db, dz, e1, e2, e3, w3⟩ := wp_appl2 (wp_bind w2)
  exact hs B F2 ρ2 σ H2 x y _ _ da db dz Q S2 (q1.up s2) q2 e1 e2 e3 fun F3 p H3 s3 S3 N3 => w3 F3 p H3 ((s1.trans s2).trans s3) S3 N3
theorem s2n_cat : S2N K (rCatL K) gCat := by
  intro B F ρ σ H x y a b da db dz Q S ra rb ea eb e q
  cases da <;> cases db <;> simp only [gCat, reduceCtorEq] at e
  obtain ⟨hc, e⟩ := if_some e
  subst e
  obtain ⟨p, vs, rfl, h1, h2⟩ := S.items ra ea
  obtain ⟨p', us, rfl, g1, g2⟩ := S.items rb eb
  exact ⟨p, p', vs, us, rfl, rfl, h1, g1, by rw [h2.length, g2.length]; exact hc, fun l n => let ⟨S', N⟩ := S.newL n (h2.append g2); q F l _ (Same.refl F) S' N⟩
theorem DrAll.rep {F : Hp} {vs : List V} {ds : List D} (r : DrAll K F vs ds) : ∀ n : Nat, DrAll K F (List.replicate n vs).flatten (List.replicate n ds).flatten
  | 0 => .nil
  | n + 1 => by
    rw [List.replicate_succ, List.replicate_succ, List.flatten_cons, List.flatten_cons]
    exact r.append (DrAll.rep r n)
theorem s2n_rep : S2N K (rRepL K) gRep := by
  intro B F ρ σ H x y a b da db dz Q S ra rb ea eb e q
  cases da <;> cases db <;> simp only [gRep, reduceCtorEq] at e
  obtain ⟨hc, e⟩ := if_some e
  subst e
  obtain ⟨p, vs, rfl, h1, h2⟩ := S.items ra ea
  exact ⟨p, _, vs, rfl, S.int rb eb, h1, hc.1, hc.2.1, by rw [h2.length]; exact hc.2.2, fun l n => let ⟨S', N⟩ := S.newL n (h2.rep _); q F l _ (Same.refl F) S' N⟩
/-- a + b of ints, texts, tuples, lists; as data -/
def gAddA (a b : D) : Option D := (gAdd a b).or (gCat a b)
theorem s2_cat : S2 K (rCatL K) gCat := by
  intro B F ρ σ H x y a b da db dz Q S ra rb ea eb e q
  cases da <;> cases db <;> simp only [gCat, reduceCtorEq] at e
  obtain ⟨hc, e⟩ := if_some e
  obtain ⟨p, vs, rfl, h1, h2⟩ := S.items ra ea
  obtain ⟨p', us, rfl, g1, g2⟩ := S.items rb eb
  exact ⟨p, p', vs, us, rfl, rfl, h1, g1, by rw [h2.length, g2.length]; exact hc, fun l n => S.newLst n (h2.append g2) e.symm q⟩
def rAddA (K : PySem.W.Frag) : R2 := fun x y H Q => rAdd K x y H Q ∨ rCatL K x y H Q
theorem op_addL : OpR X (binaryOp .Add) (rAddA X.K) := OpR.or op_addA op_catL
theorem s2_addL : S2 K (rAddA K) gAddA := S2.or s2_add s2_cat
/-- a text times an int -/
def strRep (n : Nat) (z : Str) : Str := ⟨(List.replicate n z.cps.toList).flatten.toArray⟩
def rMulS : R2 := fun x y H Q => ∃ z k, x = .str z ∧ y = .int k ∧ 1 ≤ k ∧ k < 2 ^ 40 ∧ z.length * k.toNat ≤ sizeLine ∧ Q (.str (strRep k.toNat z)) H
theorem foldl_app (z : Array Nat) : ∀ (n : Nat) (acc : Array Nat), (List.replicate n z).foldl (· ++ ·) acc = acc ++ (List.replicate n z.toList).flatten.toArray
  | 0, acc => by simp
  | n + 1, acc => by
    rw [List.replicate_succ, List.foldl_cons, foldl_app z n, List.replicate_succ, List.flatten_cons, Array.append_assoc]
    congr 1
    apply Array.ext'
    simp
theorem op_mulS : OpR X (binaryOp .Mult) rMulS := by
  intro pins s σ H x y v u Q I rx ry h
  obtain ⟨z, k, rfl, rfl, h1, h2, hz, q⟩ := h
  obtain ⟨t, rfl⟩ := rx
  obtain ⟨t', rfl⟩ := ry
  have hn : ¬ k < 1 := by omega
  refine PySem.P.mul_str (by rw [decide_eq_false (by omega), decide_eq_false (by omega)]; rfl) (fun _ _ => ?_) (fun _ _ => ?_) ?_
  · have hk : (z.length : Int) * k ≤ 2 ^ 24 := by
      have : ((z.length * k.toNat : Nat) : Int) ≤ (2 ^ 24 : Nat) := by exact_mod_cast hz
      have e2 : ((z.length * k.toNat : Nat) : Int) = (z.length : Int) * k := by
        rw [Int.natCast_mul, Int.toNat_of_nonneg (by omega)]
      rw [e2] at this
      exact_mod_cast this
    intro hg
    have h3 : (2 ^ 63 - 1) / k + 1 ≤ (z.length : Int) := hg
    have h5 : (2 ^ 63 - 1) % k < k := Int.emod_lt_of_pos _ (by omega)
    have h6 := Int.mul_ediv_add_emod (2 ^ 63 - 1) k
    have h7 : ((2 ^ 63 - 1) / k + 1) * k ≤ (z.length : Int) * k := Int.mul_le_mul_of_nonneg_right h3 (by omega)
    have h8 : ((2 ^ 63 - 1) / k + 1) * k = k * ((2 ^ 63 - 1) / k) + k := by rw [Int.add_mul, Int.one_mul, Int.mul_comm]
    omega
  · unfold Builtin.Str.tooLong
    exact decide_eq_false (by have : sizeLine = 2 ^ 24 := rfl; omega)
  · rw [if_neg hn]
    split
    · rename_i hc
      have e : strRep k.toNat z = z := by
        unfold strRep
        rcases (Bool.or_eq_true _ _).mp hc with e | e
        · have e1 : k = 1 := by simpa using e
          subst e1
          simp
        · have e1 : z.cps = #[] := by
            have : z.cps.size = 0 := by simpa [Str.length] using e
            exact Array.eq_empty_of_size_eq_zero this
          cases z with
          | mk c =>
            simp only at e1
            subst e1
            simp [PyProof.Rows.lm_rep_nil]
      rw [e] at q
      exact ⟨.str z, H, I, ⟨t, rfl⟩, q⟩
    · have e : (⟨(List.replicate k.toNat z.cps).foldl (· ++ ·) #[]⟩ : Str) = strRep k.toNat z := by
        rw [foldl_app]
        unfold strRep
        simp
      rw [e]
      refine ⟨?_, .str _, H, I.tok _, ⟨_, rfl⟩, q⟩
      unfold strRep
      show (List.toArray _).size ≤ _
      rw [List.size_toArray, PyProof.Rows.lm_len_rep_flat]
      have : z.cps.toList.length = z.length := by simp [Str.length]
      rw [this, Nat.mul_comm]
      exact hz
end
end DL


/-! D layer, 9: membership, many times, methods of texts, f-strings, repr. -/
namespace DL
open PySem PySem.Spec L2
section
variable {X : Cx} {W : WX} {K : PySem.W.Frag} {e a b o : Expr} {es : List Expr} {p pos apos : Pos} {φ χ : Den Rv} {ψ : Den (List Rv)}

/-! ### texts many times -/
def gMulS : D → D → Option D
  | .str z, .int k => if 1 ≤ k ∧ k < 2 ^ 40 ∧ z.length * k.toNat ≤ sizeLine then some (.str (strRep k.toNat z)) else none
  | _, _ => none
theorem s2_mulS : S2 K rMulS gMulS := by
  intro B F ρ σ H x y a b da db dz Q S ra rb ea eb e q
  cases da <;> cases db <;> simp only [gMulS, reduceCtorEq] at e
  obtain ⟨hc, e⟩ := if_some e
  subst e
  exact ⟨_, _, S.str ra ea, S.int rb eb, hc.1, hc.2.1, hc.2.2, q F _ H (Same.refl F) S (.str _)⟩
theorem s2_rep : S2 K (rRepL K) gRep := by
  intro B F ρ σ H x y a b da db dz Q S ra rb ea eb e q
  cases da <;> cases db <;> simp only [gRep, reduceCtorEq] at e
  obtain ⟨hc, e⟩ := if_some e
  subst e
  obtain ⟨p, vs, rfl, h1, h2⟩ := S.items ra ea
  exact ⟨p, _, vs, rfl, S.int rb eb, h1, hc.1, hc.2.1, by rw [h2.length]; exact hc.2.2, fun l n => S.newLst n (h2.rep _) rfl q⟩
def gMulA (a b : D) : Option D := (gMul a b).or ((gMulS a b).or (gRep a b))
def rMulA (K : PySem.W.Frag) : R2 := fun x y H Q => rI CMul (fun i j => .int (i * j)) x y H Q ∨ (rMulS x y H Q ∨ rRepL K x y H Q)
theorem op_mulA : OpR X (binaryOp .Mult) (rMulA X.K) := OpR.or op_mul (OpR.or op_mulS op_repL)
theorem s2_mulA : S2 K (rMulA K) gMulA := S2.or s2_mul (S2.or s2_mulS s2_rep)

/-! ### membership -/
def oneSign (y : Str) : Option Nat := if y.length = 1 then some (y.cps.getD 0 0) else none
theorem oneSign_eq {y : Str} {c : Nat} (h : oneSign y = some c) : y = ⟨#[c]⟩ := by
  unfold oneSign at h
  obtain ⟨h1, h2⟩ := if_some h
  cases y with
  | mk l =>
    have h1 : l.size = 1 := h1
    obtain ⟨x, hx⟩ := Array.size_eq_one_iff.mp h1
    subst hx
    cases h2
    rfl
def hasSign (y z : Str) : Option Bool := (oneSign y).map fun c => decide (c ∈ z.cps.toList)
def gInS (neg : Bool) : D → D → Option D
  | .str y, .str z => (hasSign y z).map fun r => .bool (if neg then !r else r)
  | _, _ => none
theorem s2_inS : S2 K (fun x y H Q => ∃ (c : Nat) (z : Str), x = .str ⟨#[c]⟩ ∧ y = .str z ∧ Q (.bl (decide (c ∈ z.cps.toList))) H) (gInS false) := by
  intro B F ρ σ H x y a b da db dz Q S ra rb ea eb e q
  cases da <;> cases db <;> simp only [gInS, reduceCtorEq] at e
  obtain ⟨r, e1, e2⟩ := Option.map_eq_some_iff.mp e
  obtain ⟨c, e3, e4⟩ := Option.map_eq_some_iff.mp e1
  subst e2 e4
  exact ⟨c, _, by rw [S.str ra ea, oneSign_eq e3], S.str rb eb, q F _ H (Same.refl F) S (.bl _)⟩
theorem s2_notInS : S2 K (fun x y H Q => ∃ (c : Nat) (z : Str), x = .str ⟨#[c]⟩ ∧ y = .str z ∧ Q (.bl (!decide (c ∈ z.cps.toList))) H) (gInS true) := by
  intro B F ρ σ H x y a b da db dz Q S ra rb ea eb e q
  cases da <;> cases db <;> simp only [gInS, reduceCtorEq] at e
  obtain ⟨r, e1, e2⟩ := Option.map_eq_some_iff.mp e
  obtain ⟨c, e3, e4⟩ := Option.map_eq_some_iff.mp e1
  subst e2 e4
  exact ⟨c, _, by rw [S.str ra ea, oneSign_eq e3], S.str rb eb, q F _ H (Same.refl F) S (.bl _)⟩
def gInL (neg : Bool) : D → D → Option D
  | d, .list ds => if SeqAt.shaped d = true ∧ SeqAt.shaped (.list ds) = true then some (.bool (if neg then !(ds.any fun z => PyData.eqv z d) else ds.any fun z => PyData.eqv z d)) else none
  | _, _ => none
theorem s2_inL : S2 K (rInD K) (gInL false) := by
  intro B F ρ σ H x y a b da db dz Q S ra rb ea eb e q
  cases db <;> simp only [gInL, reduceCtorEq] at e
  obtain ⟨hc, e⟩ := if_some e
  subst e
  exact ⟨da, _, Dr.dp _ _ (SeqAt.canLay_of_shaped hc.1) (S.look ra ea), Dr.dp _ _ (SeqAt.canLay_of_shaped hc.2) (S.look rb eb), hc.1, hc.2, q F _ H (Same.refl F) S (.bl _)⟩
theorem s2_notInL : S2 K (rNotInD K) (gInL true) := by
  intro B F ρ σ H x y a b da db dz Q S ra rb ea eb e q
  cases db <;> simp only [gInL, reduceCtorEq] at e
  obtain ⟨hc, e⟩ := if_some e
  subst e
  exact ⟨da, _, Dr.dp _ _ (SeqAt.canLay_of_shaped hc.1) (S.look ra ea), Dr.dp _ _ (SeqAt.canLay_of_shaped hc.2) (S.look rb eb), hc.1, hc.2, q F _ H (Same.refl F) S (.bl _)⟩
def gIn (neg : Bool) (a b : D) : Option D := (gInS neg a b).or (gInL neg a b)
def rInA (K : PySem.W.Frag) : R2 := fun x y H Q => (∃ (c : Nat) (z : Str), x = .str ⟨#[c]⟩ ∧ y = .str z ∧ Q (.bl (decide (c ∈ z.cps.toList))) H) ∨ rInD K x y H Q
def rNotInA (K : PySem.W.Frag) : R2 := fun x y H Q => (∃ (c : Nat) (z : Str), x = .str ⟨#[c]⟩ ∧ y = .str z ∧ Q (.bl (!decide (c ∈ z.cps.toList))) H) ∨ rNotInD K x y H Q
theorem op_inA {k : Nat} (r : Room k X.A) : OpR X (compareOp .In) (rInA X.K) := OpR.or op_in_sign (op_inD (by have := r.un; omega))
theorem op_notInA {k : Nat} (r : Room k X.A) : OpR X (compareOp .NotIn) (rNotInA X.K) := OpR.or op_notIn_sign (op_notInD (by have := r.un; omega))
theorem s2_inA : S2 K (rInA K) (gIn false) := S2.or s2_inS s2_inL
theorem s2_notInA : S2 K (rNotInA K) (gIn true) := S2.or s2_notInS s2_notInL

/-! ### methods of a text -/
def SMt (K : PySem.W.Frag) (r : V → List V → Hp → VK → Prop) (g : Str → List D → Option D) : Prop :=
  ∀ (B : Base) (F : Hp) (ρ : Env) (σ : St) (H : Hp) (z : Str) (vs : List V) (rs : List Rv) (ds : List D) (dz : D) (Q : VK), Sim K B F ρ σ H → RvsOk K F σ rs vs → looks ρ rs = some ds → g z ds = some dz →
    (∀ F' v H', Same F F' → Sim K B F' ρ σ H' → Dr K F' v dz → Q v H') → r (.str z) vs H Q
def strOf : Rv → Option Str
  | .dat (.str z) => some z
  | _ => none
theorem strOf_eq {r : Rv} {z : Str} (h : strOf r = some z) : r = .dat (.str z) := by
  unfold strOf at h
  split at h
  · cases h; rfl
  · cases h
def xMt0 (g : Str → List D → Option D) (φ : Den Rv) : Den Rv := fun ρ => (φ ρ).bind fun r ρ1 => (ofO ((strOf r).bind fun z => g z []) ρ1).bind fun d ρ2 => .ok (.dat d) ρ2
def xMt1 (g : Str → List D → Option D) (φ χ : Den Rv) : Den Rv := fun ρ => (φ ρ).bind fun r ρ1 => (ofO (strOf r) ρ1).bind fun z ρ2 => (χ ρ2).bind fun q ρ3 => (ofO ((looks ρ3 [q]).bind fun ds => g z ds) ρ3).bind fun d ρ4 => .ok (.dat d) ρ4
theorem de_mt0 {id : String} {name : Str} {r : V → List V → Hp → VK → Prop} {g : Str → List D → Option D} (slot : Slot "str" name id) (ty : typeOf (.builtin id) = pure (.type "method_descriptor")) (rule : MtR X id r) (hs : SMt X.K r g) (ho : DE X W o φ)
    (hbase : attributeBase o name X.env (eval o X.env) = eval o X.env := by rfl) (hline : (apos.endLine == pos.line) = true := by rfl) : DE X W (.Call (.Attribute o name apos) [] [] pos) (xMt0 g φ) := by
  refine pe_imp (pe_m0 slot ty rule ho hbase hline) fun σ H Q h => ?_
  obtain ⟨B, F, ρ, S, w⟩ := h
  refine ⟨B, F, ρ, S, wp_mono (wp_bind w) (fun a ρ1 w1 F1 x H1 s1 S1 q1 => ?_) fun _ _ z => z⟩
  obtain ⟨d, e1, w2⟩ := wp_ofO (wp_bind w1)
  obtain ⟨z, e2, e3⟩ := Option.bind_eq_some_iff.mp e1
  cases strOf_eq e2
  have q1 : Dr X.K F1 x (.str z) := q1
  cases q1
  exact ⟨⟨z, rfl⟩, hs B F1 ρ1 σ H1 z [] [] [] d Q S1 .nil rfl e3 fun F2 v H2 s2 S2 q2 => w2 F2 v H2 (s1.trans s2) S2 q2⟩
theorem de_mt1 {id : String} {name : Str} {r : V → List V → Hp → VK → Prop} {g : Str → List D → Option D} (slot : Slot "str" name id) (ty : typeOf (.builtin id) = pure (.type "method_descriptor")) (rule : MtR X id r) (hs : SMt X.K r g) (ho : DE X W o φ) (he : DE X W e χ)
    (hse : starEach [e] X.env = [(false, eval e X.env)] := by rfl) (hbase : attributeBase o name X.env (eval o X.env) = eval o X.env := by rfl) (hline : (apos.endLine == pos.line) = true := by rfl) : DE X W (.Call (.Attribute o name apos) [e] [] pos) (xMt1 g φ χ) := by
  refine pe_imp (pe_m1 slot ty rule ho he hse hbase hline) fun σ H Q h => ?_
  obtain ⟨B, F, ρ, S, w⟩ := h
  refine ⟨B, F, ρ, S, wp_mono (wp_bind w) (fun a ρ1 w1 F1 x H1 s1 S1 q1 => ?_) fun _ _ z => z⟩
  obtain ⟨z, e1, w2⟩ := wp_ofO (wp_bind w1)
  cases strOf_eq e1
  have q1 : Dr X.K F1 x (.str z) := q1
  cases q1
  refine ⟨⟨z, rfl⟩, B, F1, ρ1, S1, wp_mono (wp_bind w2) (fun b ρ2 w3 F2 y H2 s2 S2 q2 => ?_) fun _ _ z => z.up s1⟩
  obtain ⟨d, e3, w4⟩ := wp_ofO (wp_bind w3)
  obtain ⟨ds, e4, e5⟩ := Option.bind_eq_some_iff.mp e3
  exact hs B F2 ρ2 σ H2 z [y] [b] ds d Q S2 (.cons q2 .nil) e4 e5 fun F3 v H3 s3 S3 q3 => w4 F3 v H3 ((s1.trans s2).trans s3) S3 q3
/-- one text as the argument -/
theorem smt_str {r : V → List V → Hp → VK → Prop} {g : Str → List D → Option D} (h1 : ∀ z ds dz, g z ds = some dz → ∃ y, ds = [.str y])
    (h : ∀ (B : Base) (F : Hp) (ρ : Env) (σ : St) (H : Hp) (z y : Str) (dz : D) (Q : VK), Sim K B F ρ σ H → g z [.str y] = some dz → (∀ F' v H', Same F F' → Sim K B F' ρ σ H' → Dr K F' v dz → Q v H') → r (.str z) [.str y] H Q) : SMt K r g := by
  intro B F ρ σ H z vs rs ds dz Q S q e1 e2 k
  obtain ⟨y, rfl⟩ := h1 _ _ _ e2
  obtain ⟨a, rfl, e4⟩ := looks_one e1
  cases q with
  | cons q1 t =>
    cases t
    cases S.str q1 e4
    exact h B F ρ σ H z y dz Q S e2 k
def gSplit (z : Str) : List D → Option D
  | [.str y] => if (y.length == 0) = false ∧ z.length + 2 ≤ sizeLine then some (.list ((PySem.Txt.split z y).map .str)) else none
  | _ => none
theorem smt_split : SMt K (fun x xs H Q => ∃ a b, x = .str a ∧ xs = [.str b] ∧ (b.length == 0) = false ∧ a.length + 2 ≤ sizeLine ∧ rNewStrs (PySem.Txt.split a b) H Q) gSplit := by
  refine smt_str (fun z ds dz e => ?_) fun B F ρ σ H z y dz Q S e k => ?_
  · unfold gSplit at e
    split at e
    · exact ⟨_, rfl⟩
    · cases e
  · obtain ⟨hc, e⟩ := if_some (show (if (y.length == 0) = false ∧ z.length + 2 ≤ sizeLine then some (PyData.list ((PySem.Txt.split z y).map .str)) else none) = some dz from e)
    exact ⟨z, y, rfl, rfl, hc.1, hc.2, fun p n => S.newLst n (DrAll.strs _) e.symm k⟩
def gStarts (z : Str) : List D → Option D
  | [.str y] => some (.bool (PySem.Txt.startswith z y))
  | _ => none
theorem smt_starts : SMt K (fun x xs H Q => ∃ a b, x = .str a ∧ xs = [.str b] ∧ Q (.bl (PySem.Txt.startswith a b)) H) gStarts := by
  refine smt_str (fun z ds dz e => ?_) fun B F ρ σ H z y dz Q S e k => ?_
  · unfold gStarts at e
    split at e
    · exact ⟨_, rfl⟩
    · cases e
  · cases e
    exact ⟨z, y, rfl, rfl, k F _ H (Same.refl F) S (.bl _)⟩
def gEnds (z : Str) : List D → Option D
  | [.str y] => some (.bool (PySem.Txt.endswith z y))
  | _ => none
theorem smt_ends : SMt K (fun x xs H Q => ∃ a b, x = .str a ∧ xs = [.str b] ∧ Q (.bl (PySem.Txt.endswith a b)) H) gEnds := by
  refine smt_str (fun z ds dz e => ?_) fun B F ρ σ H z y dz Q S e k => ?_
  · unfold gEnds at e
    split at e
    · exact ⟨_, rfl⟩
    · cases e
  · cases e
    exact ⟨z, y, rfl, rfl, k F _ H (Same.refl F) S (.bl _)⟩
def gJoin (z : Str) : List D → Option D
  | [.list ds] => (strsD ds).bind fun ys => if (ys.map (·.length)).sum + ys.length * z.length ≤ 16777216 then some (.str (PySem.Txt.join z ys)) else none
  | [.tuple ds] => (strsD ds).bind fun ys => if (ys.map (·.length)).sum + ys.length * z.length ≤ 16777216 then some (.str (PySem.Txt.join z ys)) else none
  | _ => none
theorem smt_join : SMt K (fun x xs H Q => ∃ a p, ∃ ys : List Str, x = .str a ∧ xs = [.ref p] ∧ (SqL K H p (ys.map V.str) ∨ SqT K H p (ys.map V.str)) ∧
    (ys.map (·.length)).sum + ys.length * a.length ≤ 16777216 ∧ Q (.str (PySem.Txt.join a ys)) H) gJoin := by
  intro B F ρ σ H z vs rs ds dz Q S q e1 e2 k
  unfold gJoin at e2
  split at e2
  · obtain ⟨ys, e3, e4⟩ := Option.bind_eq_some_iff.mp e2
    obtain ⟨hc, e5⟩ := if_some e4
    subst e5
    obtain ⟨a, rfl, e6⟩ := looks_one e1
    cases q with
    | cons q1 t =>
      cases t
      obtain ⟨p, vs, rfl, h1, h2⟩ := S.items q1 e6
      rw [strsD_eq e3] at h2
      cases h2.of_strs
      exact ⟨z, p, ys, rfl, rfl, .inl h1, hc, k F _ H (Same.refl F) S (.str _)⟩
  · obtain ⟨ys, e3, e4⟩ := Option.bind_eq_some_iff.mp e2
    obtain ⟨hc, e5⟩ := if_some e4
    subst e5
    obtain ⟨a, rfl, e6⟩ := looks_one e1
    cases q with
    | cons q1 t =>
      cases t
      obtain ⟨p, vs, rfl, h1, h2⟩ := S.tuple q1 e6
      rw [strsD_eq e3] at h2
      cases h2.of_strs
      exact ⟨z, p, ys, rfl, rfl, .inr (sqT_mono S.f h1), hc, k F _ H (Same.refl F) S (.str _)⟩
  · cases e2
/-- x.index(y), where y stands in x -/
def rIndexS : V → List V → Hp → VK → Prop := fun x xs H Q => ∃ (a b : Str) (k : Nat), x = .str a ∧ xs = [.str b] ∧ PySem.Txt.index0 a b = some k ∧ Q (.int (k : Nat)) H
theorem mt_indexS (hc : X.calm = true) : MtR X "str.index" rIndexS := by
  intro pins s σ H x xs v us Q I rx rs h
  obtain ⟨a, b, k, rfl, rfl, e, h⟩ := h
  obtain ⟨t, rfl⟩ := rx
  cases rs with
  | cons r1 rs =>
    cases rs
    obtain ⟨u, rfl⟩ := r1
    unfold PySem.Txt.index0 at e
    cases q : Builtin.Str.occurrences a b 0 a.length 1 with
    | nil => rw [q] at e; cases e
    | cons m rest =>
      rw [q] at e
      cases e
      exact PySem.SC.index q ⟨.int (k : Nat), H, I.tok _, ⟨_, rfl⟩, h⟩
def gIndex (z : Str) : List D → Option D
  | [.str y] => (PySem.Txt.index0 z y).map fun k => .int (k : Nat)
  | _ => none
theorem smt_index : SMt K rIndexS gIndex := by
  refine smt_str (fun z ds dz e => ?_) fun B F ρ σ H z y dz Q S e k => ?_
  · unfold gIndex at e
    split at e
    · exact ⟨_, rfl⟩
    · cases e
  · obtain ⟨j, e1, e2⟩ := Option.map_eq_some_iff.mp (show (PySem.Txt.index0 z y).map (fun k => PyData.int (k : Nat)) = some dz from e)
    subst e2
    exact ⟨z, y, j, rfl, rfl, e1, k F _ H (Same.refl F) S (.int _)⟩
/-! ### f-strings -/
def asText (d : D) : Option D := match d with
  | .str y => if y.length ≤ sizeLine then some (.str y) else none
  | .int i => if i.natAbs.log2 < 1920 then some (.str (toString i)) else none
  | _ => none
def xFmt (φ : Den Rv) : Den Rv := fun ρ => (φ ρ).bind fun r ρ1 => (ofO ((look ρ1 r).bind asText) ρ1).bind fun d ρ2 => .ok (.dat d) ρ2
theorem de_fmt (he : DE X W e φ) : DE X W (.FormattedValue e (-1) none pos) (xFmt φ) := by
  refine pe_imp (pe_fmt he) fun σ H Q h => ?_
  obtain ⟨B, F, ρ, S, w⟩ := h
  refine ⟨B, F, ρ, S, wp_mono (wp_bind w) (fun a ρ1 w1 F1 x H1 s1 S1 q1 => ?_) fun _ _ z => z⟩
  obtain ⟨dz, e1, w2⟩ := wp_ofO (wp_bind w1)
  obtain ⟨d, e2, e3⟩ := Option.bind_eq_some_iff.mp e1
  unfold asText at e3
  split at e3
  · obtain ⟨hz, e4⟩ := if_some e3
    subst e4
    exact .inl ⟨_, S1.str q1 e2, hz, w2 F1 _ H1 s1 S1 (.str _)⟩
  · obtain ⟨hz, e4⟩ := if_some e3
    subst e4
    exact .inr ⟨_, S1.int q1 e2, hz, w2 F1 _ H1 s1 S1 (.str _)⟩
  · cases e3
end
end DL
namespace DL
open PySem PySem.Spec L2 PyProof.Rows Builtin Float
/-- {x:03d} and its like, of an int that is not too long -/
theorem pad_field {prog : Program} {w : World} {A : Around} {E : Value → Shared → Prop} {s : Shared} {i : Int} {tk : Tok} {sp : Str} {g : FormatSpec} {Q : Value → Shared → Prop}
    (small : i.natAbs.log2 < 1920) (hp : parseFormatSpec sp.cps.toList "int" 62 = .ok g) (hne : (sp.length == 0) = false)
    (hasc : ((sp.cps.toList.drop 1).any (· ≥ 128) || (sp.cps.getD 0 0 ≥ 128 && !([60, 62, 61, 94] : List Nat).contains (sp.cps.getD 1 0))) = false) (good : intSpecGood sp g = true) (hsz : sp.length ≤ sizeLine)
    (q : ∀ u k, Q (.str (intSpecText g i) u) { s with toks := k }) : wpAny (model prog w) A (formatField (.int i tk) sp) Q E s := by
  unfold intSpecGood at good
  simp only [Bool.and_eq_true] at good
  obtain ⟨⟨⟨⟨⟨⟨g1, g2⟩, g3⟩, g4⟩, g5⟩, g6⟩, g7⟩ := good
  replace g1 := beq_iff_eq.mp g1
  replace g2 := Option.isNone_iff_eq_none.mp g2
  replace g3 : g.noNeg0 = false := (by simpa using g3)
  replace g4 : g.alt = false := (by simpa using g4)
  replace g5 : g.width.getD 0 ≤ 100000 := (by simpa using g5)
  replace g6 := Option.isNone_iff_eq_none.mp g6
  replace g7 := Option.isNone_iff_eq_none.mp g7
  have few : (Nat.toDigits 10 i.natAbs).length ≤ 2000 := by
    have h1 : i.natAbs < 10 ^ 2000 := Nat.lt_of_lt_of_le (lt_of_log2 small) (by decide +kernel)
    have h2 := (Nat.length_repr_le_iff (n := i.natAbs) (k := 2000) (by decide)).mpr h1
    rwa [← String.length_toList, Nat.toList_repr] at h2
  have hlen : (intSpecText g i).length ≤ sizeLine := by rw [intSpecText_length i g6 g7, sizeLine_eq]; split <;> omega
  refine (show wpAny _ _ (holding [.int i tk] (pyFormat (.int i tk) sp)) Q E s from wpAny_holding ?_)
  unfold pyFormat; refine wpAny_bind (wpAny_mkStr ?_ hsz)
  refine wpAny_bind (m := callSpecial? (.int i tk) (Str.ofString "__format__") [.str sp s.toks]) (wpAny_callSpecial?_slot (name := Str.ofString "__format__") (typeIs_int _ i tk) PySem.F.slot_int_format ?_)
  refine wpAny_call (codeAny_call_builtin PySem.F.slot_int_format.plain PySem.F.entry_int_format (PySem.F.slot_int_format.check _ _ _ _ _ _ _ _ (typeIs_int _ i tk) (PySem.F.args_int_format_2 _ _) ?_))
  unfold Builtin.«int.__format__»
  simp only [selfAndOne, noKeywords, Int.intOfSelf, asInt?, asStr?, List.isEmpty_nil, if_true, pure_bind, bind_pure, bind_assoc, hne, hasc, Bool.false_eq_true, if_false, show (Value.str sp s.toks == Value.none) = false from rfl]
  refine wpAny_bind (wpAny_typeNameOf (T := "str") (typeIs_str _ _ _) (by decide) fun _ => ?_)
  first | refine wpAny_bind (wpAny_typeNameOfCut_int ?_) | refine wpAny_bind (wpAny_typeNameOf_int ?_)
  simp only [hp, g1]
  rw [if_pos (by decide)]
  show wpAny _ _ (if _ then _ else _) _ _ _; rw [if_neg (by simp [g2])]
  show wpAny _ _ (if _ then _ else _) _ _ _; rw [if_neg (by simp [g3])]
  show wpAny _ _ (if _ then _ else _) _ _ _; rw [if_neg (by decide)]
  show wpAny _ _ (do let lim ← Builtin.overDigitLimit? i; _) _ _ _
  refine wpAny_bind ?_
  rw [PySem.overDigitLimit_small small]
  refine wpAny_pure ?_
  show wpAny _ _ (if _ then _ else _) _ _ _; rw [if_neg (by simpa using (show ¬ (g.width.getD 0 > 100000) from Nat.not_lt.mpr g5))]
  show wpAny _ _ (retStr _) _ _ _; unfold retStr
  refine wpAny_bind (wpAny_mkStr (wpAny_pure ?_) ?hs2)
  case hs2 =>
    simp only [g4, Bool.false_eq_true, if_false, show ((10 : Nat) == 10) = true by decide, if_true]; conv => lhs; arg 1; whnf
    simp only [intSpecText, intField', g6, g7, g4, Bool.false_eq_true, if_false, show ((10 : Nat) == 10) = true by decide, if_true] at hlen ⊢; exact hlen
  dsimp only; refine wpAny_bind (wpAny_isInstance (typeIs_str _ _ _) isSubtype_str_str (wpAny_pure ?_))
  simp only [g4, Bool.false_eq_true, if_false, show ((10 : Nat) == 10) = true by decide, if_true]; conv => arg 1; arg 1; whnf
  simp only [intSpecText, intField', g6, g7, g4, Bool.false_eq_true, if_false, show ((10 : Nat) == 10) = true by decide, if_true] at q ⊢
  exact q _ _
end DL
namespace DL
open PySem PySem.Spec L2
section
variable {X : Cx} {W : WX} {K : PySem.W.Frag} {e v1 v2 spec : Expr} {es : List Expr} {p pos apos : Pos} {φ χ : Den Rv} {ψ : Den (List Rv)}
def padD (sp : Str) (d : D) : Option D := match d with
  | .int i => if PyProof.Rows.intSpecOk sp = true ∧ i.natAbs.log2 < 1920 ∧ sp.length ≤ sizeLine then some (.str (PyProof.Rows.intSpecTextOf sp i)) else none
  | _ => none
def xPad (sp : Str) (φ : Den Rv) : Den Rv := fun ρ => (φ ρ).bind fun r ρ1 => (ofO ((look ρ1 r).bind (padD sp)) ρ1).bind fun d ρ2 => .ok (.dat d) ρ2
theorem de_pad {sp : Str} {j p1 p2} (he : DE X W e φ) : DE X W (.FormattedValue e (-1) (some (.JoinedStr [.Constant (.str sp) j p1] p2)) pos) (xPad sp φ) := by
  refine ⟨fun pins s σ H Q I h => ?_⟩
  obtain ⟨B, F, ρ, S, w⟩ := h
  refine wpAny_FormattedValue_spec (thn (he.run pins s σ H (fun x H1 => ∃ i : Int, x = .int i ∧ PyProof.Rows.intSpecOk sp = true ∧ i.natAbs.log2 < 1920 ∧ sp.length ≤ sizeLine ∧ Q (.str (PyProof.Rows.intSpecTextOf sp i)) H1) I ?_) fun v s1 hv => ?_)
  · refine ⟨B, F, ρ, S, wp_mono (wp_bind w) (fun a ρ1 w1 F1 x H1 s1 S1 q1 => ?_) fun _ _ z => z⟩
    obtain ⟨dz, e1, w2⟩ := wp_ofO (wp_bind w1)
    obtain ⟨d, e2, e3⟩ := Option.bind_eq_some_iff.mp e1
    unfold padD at e3
    split at e3
    · obtain ⟨hz, e4⟩ := if_some e3
      subst e4
      exact ⟨_, S1.int q1 e2, hz.1, hz.2.1, hz.2.2, w2 F1 _ H1 s1 S1 (.str _)⟩
    · cases e3
  · obtain ⟨x, H1, I1, r1, i, rfl, h1, h2, h3, q⟩ := hv
    obtain ⟨t, rfl⟩ := r1
    have hsp : PE X (.JoinedStr [.Constant (.str sp) j p1] p2) (tC (.str sp)) := pe_joined1 pe_str
    refine thn (hsp.run pins s1 σ H1 (fun y H2 => y = .str sp ∧ H2 = H1) I1 ⟨rfl, rfl⟩) fun r s2 hr => ?_
    obtain ⟨y, H2, I2, r2, rfl, rfl⟩ := hr
    obtain ⟨t2, rfl⟩ := r2
    refine ⟨sp, t2, rfl, ?_⟩
    unfold PyProof.Rows.intSpecOk at h1
    cases hps : PySem.Builtin.Float.parseFormatSpec sp.cps.toList "int" 62 with
    | error m => rw [hps] at h1; simp at h1
    | ok f =>
      rw [hps] at h1
      simp only [Bool.and_eq_true, Bool.not_eq_true'] at h1
      have et : PyProof.Rows.intSpecTextOf sp i = PyProof.Rows.intSpecText f i := by unfold PyProof.Rows.intSpecTextOf; rw [hps]
      rw [et] at q
      exact pad_field h2 hps h1.1.1 h1.1.2 h1.2 h3 fun u k => ⟨.str _, H2, I2.tok _, ⟨_, rfl⟩, q⟩
/-- the parts one behind the other -/
def joinE : List (Den Rv) → Str → Env → Ans Rv
  | [], acc, ρ => .ok (.dat (.str acc)) ρ
  | φ :: r, acc, ρ => (φ ρ).bind fun v ρ1 => (ofO (strOf v) ρ1).bind fun y ρ2 => if (acc ++ y).length ≤ sizeLine then joinE r (acc ++ y) ρ2 else .bad
def xJoined (φs : List (Den Rv)) : Den Rv := fun ρ => joinE φs Str.empty ρ
inductive DJ (X : Cx) (W : WX) : List Expr → List (Den Rv) → Prop where
  | nil : DJ X W [] []
  | cons {e : Expr} {φ : Den Rv} {es : List Expr} {φs : List (Den Rv)} (h : DE X W e φ) (r : DJ X W es φs) : DJ X W (e :: es) (φ :: φs)
theorem DJ.pj {es : List Expr} {φs : List (Den Rv)} (h : DJ X W es φs) : PJ X es (φs.map (tDE X.K W)) := by
  induction h with
  | nil => exact .nil
  | cons h _ ih => exact .cons h ih
theorem joinE_sound {σ : St} {B : Base} {Q : Str → Hp → Prop} : ∀ {φs : List (Den Rv)} {acc : Str} {H : Hp} {F : Hp} {ρ : Env}, Sim K B F ρ σ H →
    Wp (joinE φs acc ρ) (fun r ρ' => ∀ F' H', Same F F' → Sim K B F' ρ' σ H' → ∀ z, r = .dat (.str z) → Q z H') (XQ K W B F σ) → tJs (φs.map (tDE K W)) acc σ H Q
  | [], acc, H, F, ρ, S, w => w F H (Same.refl F) S acc rfl
  | φ :: r, acc, H, F, ρ, S, w => by
    refine ⟨B, F, ρ, S, wp_mono (wp_bind w) (fun a ρ1 w1 F1 x H1 s1 S1 q1 => ?_) fun _ _ z => z⟩
    obtain ⟨y, e1, w2⟩ := wp_ofO (wp_bind w1)
    cases strOf_eq e1
    have q1 : Dr K F1 x (.str y) := q1
    cases q1
    by_cases hz : (acc ++ y).length ≤ sizeLine
    · rw [if_pos hz] at w2
      refine ⟨y, rfl, hz, joinE_sound S1 (wp_mono w2 (fun r ρ2 w3 F2 H2 s2 S2 z hz => w3 F2 H2 (s1.trans s2) S2 z hz) fun _ _ z => z.up s1)⟩
    · rw [if_neg hz] at w2
      exact w2.elim
theorem joinE_str : ∀ {φs : List (Den Rv)} {acc : Str} {ρ ρ' : Env} {r : Rv}, joinE φs acc ρ = .ok r ρ' → ∃ z, r = .dat (.str z)
  | [], acc, ρ, ρ', r, h => by cases h; exact ⟨_, rfl⟩
  | φ :: φs, acc, ρ, ρ', r, h => by
    unfold joinE at h
    cases e1 : φ ρ with
    | bad => rw [e1] at h; cases h
    | exc x ρ1 => rw [e1] at h; cases h
    | ok v ρ1 =>
      rw [e1] at h
      have h : ((ofO (strOf v) ρ1).bind fun y ρ2 => if (acc ++ y).length ≤ sizeLine then joinE φs (acc ++ y) ρ2 else .bad) = .ok r ρ' := h
      cases e2 : strOf v with
      | none => rw [e2] at h; cases h
      | some y =>
        rw [e2] at h
        have h : (if (acc ++ y).length ≤ sizeLine then joinE φs (acc ++ y) ρ1 else .bad) = .ok r ρ' := h
        by_cases hz : (acc ++ y).length ≤ sizeLine
        · rw [if_pos hz] at h
          exact joinE_str h
        · rw [if_neg hz] at h
          cases h
theorem de_joined {φs : List (Den Rv)} (h : DJ X W (v1 :: v2 :: es) φs) : DE X W (.JoinedStr (v1 :: v2 :: es) pos) (xJoined φs) := by
  refine pe_imp (pe_joined h.pj) fun σ H Q hq => ?_
  obtain ⟨B, F, ρ, S, w⟩ := hq
  refine joinE_sound S ?_
  cases e : joinE φs Str.empty ρ with
  | bad => rw [show xJoined φs ρ = _ from e] at w; exact w.elim
  | exc x ρ1 => rw [show xJoined φs ρ = _ from e] at w; exact w
  | ok r ρ1 =>
    rw [show xJoined φs ρ = _ from e] at w
    obtain ⟨z, rfl⟩ := joinE_str e
    intro F' H' s' S' z' hz
    cases hz
    exact w F' _ H' s' S' (.str _)

/-! ### repr -/
def rRepr (K : PySem.W.Frag) : List V → Hp → VK → Prop := fun xs H Q => ∃ x d, xs = [x] ∧ Dp K H x d ∧ SeqAt.shaped d = true ∧ d.showable = true ∧ d.shown.length ≤ sizeLine ∧ Q (.str d.shown) H
theorem call_repr {k : Nat} (C : Cok X W k) : CallR X (.builtin "repr") (rRepr X.K) := by
  intro pins s σ H xs us Q I r h
  obtain ⟨x, d, rfl, hd, hs, hw, hz, q⟩ := h
  cases r with
  | cons r rr =>
    cases rr
    have hu := C.rm.un
    have hdp := SeqAt.depth_of_shaped hs
    obtain ⟨as, hr⟩ := Dp.reads I d x _ hd r
    cases hd with
    | non =>
      cases r
      exact PySem.P.repr_of_none ⟨.str _, H, I.tok _, ⟨_, rfl⟩, q⟩
    | bl b =>
      cases r
      exact PySem.P.repr_of_bool ⟨.str _, H, I.tok _, ⟨_, rfl⟩, q⟩
    | int i =>
      obtain ⟨t, rfl⟩ := r
      exact PySem.P.repr_of_int (by simpa [PyData.showable] using hw) ⟨.str _, H, I.tok _, ⟨_, rfl⟩, q⟩
    | str z =>
      obtain ⟨t, rfl⟩ := r
      exact PySem.P.repr_of_str ⟨.str _, H, I.tok _, ⟨_, rfl⟩, q⟩ hz
    | lst _ _ =>
      cases r
      exact repr_of_reads' hr hw (PyData.noDict_hsm (PyData.hasDict_of_canLay _ (SeqAt.canLay_of_shaped hs))) C.gd (by omega) (fun b o e => e) (fun h' u tk hk => ⟨.str _, H, I.kept hk, ⟨u, rfl⟩, q⟩) hz
    | tup _ _ =>
      cases r
      exact repr_of_reads' hr hw (PyData.noDict_hsm (PyData.hasDict_of_canLay _ (SeqAt.canLay_of_shaped hs))) C.gd (by omega) (fun b o e => e) (fun h' u tk hk => ⟨.str _, H, I.kept hk, ⟨u, rfl⟩, q⟩) hz
def gRepr : List D → Option D
  | [d] => if SeqAt.shaped d = true ∧ d.showable = true ∧ d.shown.length ≤ sizeLine then some (.str d.shown) else none
  | _ => none
theorem s1_repr : S1 K (rRepr K) (lk gRepr) := by
  refine s1_one (fun B F ρ σ H v a d dz Q S q e e2 k => ?_) (fun ds dz e => ?_)
  · obtain ⟨hc, e2⟩ := if_some (show (if SeqAt.shaped d = true ∧ d.showable = true ∧ d.shown.length ≤ sizeLine then some (PyData.str d.shown) else none) = some dz from e2)
    subst e2
    exact ⟨v, d, rfl, Dr.dp _ _ (SeqAt.canLay_of_shaped hc.1) (S.look q e), hc.1, hc.2.1, hc.2.2, k F _ H (Same.refl F) S (.str _)⟩
  · unfold gRepr at e
    split at e <;> first | exact ⟨_, rfl⟩ | cases e
end
end DL


/-! D layer, 10: several names stored at once, some with new lists. -/
namespace DL
open PySem PySem.Spec L2
/-- a value, or a new list or dict -/
inductive Nv where
  | dat (d : D)
  | new (d : D)
def Nv.cell : Nv → Cell
  | .dat d => .dat d
  | .new d => .own true d
def newVs : List Nv → List V → List V
  | .new _ :: ns, v :: vs => v :: newVs ns vs
  | .dat _ :: ns, _ :: vs => newVs ns vs
  | _, _ => []
def NvsOk (K : PySem.W.Frag) (B : Base) (F : Hp) (ρ : Env) (σ : St) (H : Hp) : List Nv → List V → Prop
  | [], [] => True
  | .dat d :: ns, v :: vs => Dr K F v d ∧ NvsOk K B F ρ σ H ns vs
  | .new d :: ns, v :: vs => (∃ p, v = .ref p ∧ NewAt K B F ρ σ H p d ∧ V.ref p ∉ newVs ns vs) ∧ NvsOk K B F ρ σ H ns vs
  | _, _ => False
def tDM (K : PySem.W.Frag) (W : WX) (ψ : Den (List Nv)) : TA := fun σ H Q => ∃ B F ρ, Sim K B F ρ σ H ∧
  Wp (ψ ρ) (fun ns ρ' => ∀ F' vs H', Same F F' → Sim K B F' ρ' σ H' → NvsOk K B F' ρ' σ H' ns vs → Q vs H') (XQ K W B F σ)
def DM (X : Cx) (W : WX) (es : List Expr) (ψ : Den (List Nv)) : Prop := PA X es (tDM X.K W ψ)
def mNil : Den (List Nv) := fun ρ => .ok [] ρ
def datOf : Rv → Option D
  | .dat d => some d
  | .slot _ => none
theorem datOf_eq {r : Rv} {d : D} (h : datOf r = some d) : r = .dat d := by
  cases r with
  | dat d' => cases h; rfl
  | slot i => cases h
def mDat (φ : Den Rv) (ψ : Den (List Nv)) : Den (List Nv) := fun ρ => (φ ρ).bind fun r ρ1 => (ofO (datOf r) ρ1).bind fun d ρ2 => (ψ ρ2).bind fun ns ρ3 => .ok (.dat d :: ns) ρ3
def mNew (φ : Den D) (ψ : Den (List Nv)) : Den (List Nv) := fun ρ => (φ ρ).bind fun d ρ1 => (ψ ρ1).bind fun ns ρ2 => .ok (.new d :: ns) ρ2
def parE : List Nat → List Nv → Env → Option Env
  | [], [], ρ => some ρ
  | i :: is, n :: ns, ρ => if canSet ρ i then parE is ns (ρ.set i (some n.cell)) else none
  | _, _, _ => none
def parS : List Nat → List V → St → St
  | i :: is, v :: vs, σ => parS is vs (σ.set i (some v))
  | _, _, σ => σ
/-- the names is = the values, at once -/
def yPar (is : List Nat) (ψ : Den (List Nv)) : DenS := fun ρ => oBind (ψ ρ) fun ns ρ1 => match parE is ns ρ1 with
  | some ρ2 => .next ρ2
  | none => .bad
section
variable {K : PySem.W.Frag} {B : Base} {F : Hp} {ρ : Env} {σ : St} {H : Hp}
theorem NewAt.set {p : Addr} {d : D} (n : NewAt K B F ρ σ H p d) {i : Nat} {c : Option Cell} {v : V} (hi : i < ρ.length) (hs : σ.length = ρ.length) (h : (∃ d, c = some (.dat d)) ∨ v ≠ .ref p) : NewAt K B F (ρ.set i c) (σ.set i (some v)) H p d := by
  refine ⟨n.ct, n.f0, n.g0, n.h0, fun j ow d' e z => ?_⟩
  by_cases q : j = i
  · subst q
    rw [List.getElem?_set_self hi] at e
    rw [List.getElem?_set_self (by omega)] at z
    rcases h with ⟨d'', rfl⟩ | h
    · cases e
    · cases z
      exact h rfl
  · rw [List.getElem?_set_ne (Ne.symm q)] at e z
    exact n.ns j ow d' e z
theorem NvsOk.set {i : Nat} {c : Option Cell} {v : V} (hi : i < ρ.length) (hs : σ.length = ρ.length) : ∀ {ns : List Nv} {vs : List V}, NvsOk K B F ρ σ H ns vs → (∃ d, c = some (.dat d)) ∨ v ∉ newVs ns vs → NvsOk K B F (ρ.set i c) (σ.set i (some v)) H ns vs
  | [], [], _, _ => trivial
  | .dat d :: ns, w :: vs, h, k => ⟨h.1, NvsOk.set hi hs h.2 k⟩
  | .new d :: ns, w :: vs, h, k => by
    obtain ⟨⟨p, rfl, n, ap⟩, r⟩ := h
    have k' : (∃ d, c = some (.dat d)) ∨ (v ≠ .ref p ∧ v ∉ newVs ns vs) := k.imp id fun k => by
      have k : v ∉ V.ref p :: newVs ns vs := k
      simpa using k
    exact ⟨⟨p, rfl, n.set hi hs (k'.imp id And.left), ap⟩, NvsOk.set hi hs r (k'.imp id And.right)⟩
theorem Sim.par : ∀ {is : List Nat} {ns : List Nv} {vs : List V} {ρ ρ2 : Env} {σ : St}, Sim K B F ρ σ H → NvsOk K B F ρ σ H ns vs → parE is ns ρ = some ρ2 → Sim K B F ρ2 (parS is vs σ) H ∧ is.length = vs.length
  | [], [], [], ρ, ρ2, σ, S, _, e => by cases e; exact ⟨S, rfl⟩
  | [], [], v :: vs, _, _, _, _, h, _ => h.elim
  | [], n :: ns, vs, _, _, _, _, _, e => by cases e
  | i :: is, [], vs, _, _, _, _, _, e => by cases e
  | i :: is, n :: ns, [], _, _, _, _, h, _ => by cases n <;> exact h.elim
  | i :: is, n :: ns, v :: vs, ρ, ρ2, σ, S, h, e => by
    unfold parE at e
    by_cases hc : canSet ρ i = true
    · rw [if_pos hc] at e
      have hi := canSet_lt hc
      cases n with
      | dat d =>
        have S1 := S.setDat hi h.1
        have r := Sim.par S1 (NvsOk.set hi S.len h.2 (.inl ⟨d, rfl⟩)) e
        exact ⟨r.1, congrArg Nat.succ r.2⟩
      | new d =>
        obtain ⟨⟨p, rfl, nw, ap⟩, r⟩ := h
        have S1 := S.setOwn hi nw
        have r := Sim.par S1 (NvsOk.set hi S.len r (.inr ap)) e
        exact ⟨r.1, congrArg Nat.succ r.2⟩
    · rw [if_neg hc] at e
      cases e
theorem NvsOk.fresh {p : Addr} {o : HO} (hp : H p = none) : ∀ {ns : List Nv} {vs : List V}, NvsOk K B F ρ σ H ns vs → NvsOk K B F ρ σ (upd H p o) ns vs
  | [], [], _ => trivial
  | .dat d :: ns, w :: vs, h => ⟨h.1, NvsOk.fresh hp h.2⟩
  | .new d :: ns, w :: vs, h => by
    obtain ⟨⟨q, rfl, n, ap⟩, r⟩ := h
    obtain ⟨c, e, ct⟩ := n.ct
    have hq : q ≠ p := fun z => by rw [z, hp] at e; cases e
    exact ⟨⟨q, rfl, ⟨⟨c, by rw [upd_ne hq]; exact e, ct⟩, n.f0, n.g0, n.h0, n.ns⟩, ap⟩, NvsOk.fresh hp r⟩
theorem NvsOk.unplus {a : Addr} {o : HO} : ∀ {ns : List Nv} {vs : List V}, NvsOk K (B.plus a o) F ρ σ H ns vs → NvsOk K B F ρ σ H ns vs ∧ V.ref a ∉ newVs ns vs
  | [], [], _ => ⟨trivial, by simp [newVs]⟩
  | .dat d :: ns, w :: vs, h => by
    have r := NvsOk.unplus h.2
    exact ⟨⟨h.1, r.1⟩, r.2⟩
  | .new d :: ns, w :: vs, h => by
    obtain ⟨⟨p, rfl, n, ap⟩, r⟩ := h
    have r := NvsOk.unplus r
    have g0 : upd B.G a o p = none := n.g0
    have h0 : upd B.H a o p = none := n.h0
    have q : p ≠ a := fun z => by
      rw [z, upd_same] at g0
      cases g0
    rw [upd_ne q] at g0 h0
    refine ⟨⟨⟨p, rfl, ⟨n.ct, n.f0, g0, h0, n.ns⟩, ap⟩, r.1⟩, ?_⟩
    show V.ref a ∉ V.ref p :: newVs ns vs
    simp only [List.mem_cons, not_or]
    exact ⟨fun z => by cases z; exact q rfl, r.2⟩
theorem NvsOk.length : ∀ {ns : List Nv} {vs : List V}, NvsOk K B F ρ σ H ns vs → vs.length = ns.length
  | [], [], _ => rfl
  | .dat d :: ns, w :: vs, h => congrArg Nat.succ (NvsOk.length h.2)
  | .new d :: ns, w :: vs, h => congrArg Nat.succ (NvsOk.length h.2)
end
section
variable {X : Cx} {W : WX} {e : Expr} {es : List Expr} {pos : Pos} {ψ : Den (List Nv)}
theorem dm_nil : DM X W [] mNil := by
  refine pa_imp pa_nil fun σ H Q hq => ?_
  obtain ⟨B, F, ρ, S, w⟩ := hq
  exact w F [] H (Same.refl F) S trivial
theorem dm_dat {φ : Den Rv} (ha : DE X W e φ) (hr : DM X W es ψ) (hs : starEach (e :: es) X.env = (false, eval e X.env) :: starEach es X.env := by rfl) : DM X W (e :: es) (mDat φ ψ) := by
  refine pa_imp (pa_cons ha hr hs) fun σ H Q hq => ?_
  obtain ⟨B, F, ρ, S, w⟩ := hq
  refine ⟨B, F, ρ, S, wp_mono (wp_bind w) (fun a ρ1 w1 F1 x H1 s1 S1 q1 => ?_) fun _ _ z => z⟩
  obtain ⟨d, e1, w1⟩ := wp_ofO (wp_bind w1)
  cases datOf_eq e1
  refine ⟨B, F1, ρ1, S1, wp_mono (wp_bind w1) (fun b ρ2 w2 F2 y H2 s2 S2 q2 => ?_) fun _ _ z => z.up s1⟩
  exact w2 F2 (x :: y) H2 (s1.trans s2) S2 ⟨Dr.up q1 s2, q2⟩
theorem dm_new {φ : Den D} (ha : DN X W e φ) (hr : DM X W es ψ) (hs : starEach (e :: es) X.env = (false, eval e X.env) :: starEach es X.env := by rfl) : DM X W (e :: es) (mNew φ ψ) := by
  refine pa_imp (pa_cons ha hr hs) fun σ H Q hq => ?_
  obtain ⟨B, F, ρ, S, w⟩ := hq
  refine ⟨B, F, ρ, S, wp_mono (wp_bind w) (fun d ρ1 w1 F1 p H1 s1 S1 q1 => ?_) fun _ _ z => z⟩
  obtain ⟨c, hc, ct⟩ := q1.ct
  have bF : B.F p = none := by
    cases e : B.F p with
    | none => rfl
    | some x =>
      have := S1.bf p x e
      rw [q1.f0] at this
      cases this
  refine ⟨B.plus p c, F1, ρ1, S1.guard ⟨hc, q1.f0, q1.ns⟩, wp_mono (wp_bind w1) (fun ns ρ2 w2 F2 vs H2 s2 S2 q2 => ?_) fun x ρ2 z F2 H2 cls dd s2 S2 ex => ?_⟩
  · obtain ⟨S3, A3⟩ := S2.unguard q1.g0 bF q1.h0
    obtain ⟨q3, ap⟩ := q2.unplus
    exact w2 F2 (.ref p :: vs) H2 (s1.trans s2) S3 ⟨⟨p, rfl, ⟨⟨c, A3.at', ct.up s2⟩, A3.f0, q1.g0, q1.h0, A3.ns⟩, ap⟩, q3⟩
  · obtain ⟨S3, A3⟩ := S2.unguard q1.g0 bF q1.h0
    exact z F2 H2 cls dd (s1.trans s2) S3 ex
variable {a b c : Expr} {x y z : Str} {px py pz pt pt2 : Pos} {kt k2 : Nat} {i j l : Nat}
theorem par_sound2 {Dd : Ends} {σ : St} {H : Hp} (h : tDS X.K W (yPar [i, j] ψ) Dd σ H) : tPar i j (tDM X.K W ψ) Dd σ H := by
  obtain ⟨B, F, ρ, S, w⟩ := h
  refine ⟨B, F, ρ, S, wp_mono (spost_bind w) (fun ns ρ1 w1 F1 vs H1 s1 S1 q1 => ?_) fun _ _ z => z⟩
  cases e : parE [i, j] ns ρ1 with
  | none => rw [e] at w1; exact w1.elim
  | some ρ2 =>
    rw [e] at w1
    obtain ⟨S2, hl⟩ := S1.par q1 e
    match vs, hl with
    | [v, u], _ => exact ⟨v, u, rfl, w1 F1 _ H1 s1 S2⟩
theorem par_sound3 {Dd : Ends} {σ : St} {H : Hp} (h : tDS X.K W (yPar [i, j, l] ψ) Dd σ H) : tPar3 i j l (tDM X.K W ψ) Dd σ H := by
  obtain ⟨B, F, ρ, S, w⟩ := h
  refine ⟨B, F, ρ, S, wp_mono (spost_bind w) (fun ns ρ1 w1 F1 vs H1 s1 S1 q1 => ?_) fun _ _ z => z⟩
  cases e : parE [i, j, l] ns ρ1 with
  | none => rw [e] at w1; exact w1.elim
  | some ρ2 =>
    rw [e] at w1
    obtain ⟨S2, hl⟩ := S1.par q1 e
    match vs, hl with
    | [v, u, t], _ => exact ⟨v, u, t, rfl, w1 F1 _ H1 s1 S2⟩
theorem ds_par2 {k : Nat} (C : Cok X W k) (ha : DM X W [a, b] ψ) (hi : X.N[i]? = some x := by rfl) (hj : X.N[j]? = some y := by rfl) (hij : i ≠ j := by decide) (hx : X.env.scope.names.lookup x = some .local := by rfl) (hy : X.env.scope.names.lookup y = some .local := by rfl)
    (hw : swappedStores [.Tuple [.Name x px, .Name y py] kt pt] (.Tuple [a, b] k2 pt2) X.env = pure (some [x, y]) := by rfl) (hs : swapsWithSole [.Tuple [.Name x px, .Name y py] kt pt] (.Tuple [a, b] k2 pt2) pos.line X.env = pure false := by rfl) :
    DS X W (.Assign [.Tuple [.Name x px, .Name y py] kt pt] (.Tuple [a, b] k2 pt2) pos) (yPar [i, j] ψ) :=
  ps_imp (ps_par C.calm C.nd hi hj hij hx hy ha hw hs) fun _ _ _ h => par_sound2 h
theorem ds_par3 {k : Nat} (C : Cok X W k) (ha : DM X W [a, b, c] ψ) (hi : X.N[i]? = some x := by rfl) (hj : X.N[j]? = some y := by rfl) (hl : X.N[l]? = some z := by rfl) (hij : i ≠ j := by decide) (hil : i ≠ l := by decide) (hjl : j ≠ l := by decide) (hx : X.env.scope.names.lookup x = some .local := by rfl) (hy : X.env.scope.names.lookup y = some .local := by rfl) (hz : X.env.scope.names.lookup z = some .local := by rfl)
    (hw : swappedStores [.Tuple [.Name x px, .Name y py, .Name z pz] kt pt] (.Tuple [a, b, c] k2 pt2) X.env = pure (some [x, y, z]) := by rfl) (hs : swapsWithSole [.Tuple [.Name x px, .Name y py, .Name z pz] kt pt] (.Tuple [a, b, c] k2 pt2) pos.line X.env = pure false := by rfl) :
    DS X W (.Assign [.Tuple [.Name x px, .Name y py, .Name z pz] kt pt] (.Tuple [a, b, c] k2 pt2) pos) (yPar [i, j, l] ψ) :=
  ps_imp (ps_par3 C.calm C.nd hi hj hl hij hil hjl hx hy hz ha hw hs) fun _ _ _ h => par_sound3 h
/-- through a tuple: names that a comprehension holds, or more than three -/
def gNames : List Nat → TGs
  | [] => gNil
  | i :: is => gCons (gName i) (gNames is)
theorem gNames_ok : ∀ {is : List Nat} {vs : List V} {σ : St} {H : Hp} {Q : St → Hp → Prop}, is.length = vs.length → Q (parS is vs σ) H → gNames is vs σ H Q
  | [], [], σ, H, Q, _, q => ⟨rfl, q⟩
  | i :: is, v :: vs, σ, H, Q, hl, q => ⟨v, vs, rfl, gNames_ok (Nat.succ.inj hl) q⟩
inductive PNames (X : Cx) : List Expr → List Nat → Prop where
  | nil : PNames X [] []
  | cons {i : Nat} {x : Str} {p : Pos} {es : List Expr} {is : List Nat} (hi : X.N[i]? = some x) (hx : Loc X.env.scope x) (hf : X.fn x = true ∨ X.env.scope.names.lookup x = some .local) (hs : (assignEach (.Name x p :: es) X.env).map (·.2) = assign (.Name x p) X.env :: (assignEach es X.env).map (·.2)) (r : PNames X es is) : PNames X (.Name x p :: es) (i :: is)
theorem PNames.pgs {es : List Expr} {is : List Nat} (hN : X.N.Nodup) (h : PNames X es is) : PGs X es (gNames is) := by
  induction h with
  | nil => exact pgs_nil
  | cons hi hx hf hs _ ih => exact pgs_cons (pg_name hN hi hx hf) ih hs
theorem ds_parT {k : Nat} (C : Cok X W k) {ts : List Expr} {is : List Nat} (ha : DM X W es ψ) (hg : PNames X ts is) (hn : (assignEach ts X.env).length = is.length := by rfl) (hst : (assignEach ts X.env).findIdx? (·.1) = none := by rfl)
    (hw : swappedStores [.Tuple ts kt pt] (.Tuple es k2 pt2) X.env = pure none := by rfl) (hs : swapsWithSole [.Tuple ts kt pt] (.Tuple es k2 pt2) pos.line X.env = pure false := by rfl) (hz : is.length ≤ sizeLine := by decide) :
    DS X W (.Assign [.Tuple ts kt pt] (.Tuple es k2 pt2) pos) (yPar is ψ) := by
  refine ps_imp (ps_asg (pe_tup ha) (pg_tup C.calm (hg.pgs C.nd) hn hst) hs hw) fun Dd σ H h => ?_
  obtain ⟨B, F, ρ, S, w⟩ := h
  refine ⟨B, F, ρ, S, wp_mono (spost_bind w) (fun ns ρ1 w1 F1 vs H1 s1 S1 q1 => ?_) fun _ _ z => z⟩
  cases e : parE is ns ρ1 with
  | none => rw [e] at w1; exact w1.elim
  | some ρ2 =>
    rw [e] at w1
    have hl := (S1.par q1 e).2
    refine ⟨by rw [← hl]; exact hz, fun p hp => ?_⟩
    obtain ⟨S2, _⟩ := (S1.fresh (o := .tup vs) hp).par (NvsOk.fresh hp q1) e
    exact ⟨p, vs, rfl, SqT.of upd_same, hl.symm, gNames_ok hl (w1 F1 _ _ s1 S2)⟩
end
end DL


/-! D layer, 11: what a caller knows of a def; small things. -/
namespace DL
open PySem PySem.Spec L2
/-- the def that stands under the name x keeps the promise of φ, from k free levels on -/
def Ce (P : Program) (w : World) (K : PySem.W.Frag) (mg : Str → Option Value) (base : Heap) (x : Str) (k : Nat) (ps : List Str) (φ : Env → FAns) : Prop :=
  ∃ (f : Addr) (fd : FuncData), FnG P w K mg base k f fd ps φ ∧ mg x = some (.ref f) ∧ PySem.W.keepIn K (.ref f) = true ∧ Binds K fd ps []
theorem Ce.mk {P : Program} {w : World} {K : PySem.W.Frag} {mg : Str → Option Value} {base : Heap} {x : Str} {k : Nat} {ps : List Str} {φ : Env → FAns} {f : Addr} {fd : FuncData} (G : FnG P w K mg base k f fd ps φ) (hm : mg x = some (.ref f)) (hk : PySem.W.keepIn K (.ref f) = true) (hb : Binds K fd ps []) : Ce P w K mg base x k ps φ := ⟨f, fd, G, hm, hk, hb⟩
section
variable {X : Cx} {W : WX} {e : Expr} {es : List Expr} {p pos : Pos} {x : Str} {j k n : Nat} {ps : List Str} {φ : Env → FAns} {ψ : Den (List Rv)} {χ : Den Rv}
theorem de_ce (c : Ce X.prog X.w X.K X.mg X.base x j ps φ) (C : Cok X W k) (hj : j ≤ k) (hg : Gl X x) (ha : DA X W (e :: es) ψ)
    (hn : ps.length = n := by rfl) (hdb : (x == ("__debug__" : Str)) = false := by decide) (he : starEach (e :: es) X.env = (false, eval e X.env) :: starEach es X.env := by rfl) (hpl : (backTo pos (starEach es X.env)).any (·.1) = false := by rfl) :
    DE X W (.Call (.Name x p) (e :: es) [] pos) (xFn n φ ψ) := by
  subst hn
  obtain ⟨f, fd, G, hm, hk, hb⟩ := c
  exact de_fn G C hj hg hm hk hb ha hdb he hpl
theorem dn_ce (c : Ce X.prog X.w X.K X.mg X.base x j ps φ) (C : Cok X W k) (hj : j ≤ k) (hg : Gl X x) (ha : DA X W (e :: es) ψ)
    (hn : ps.length = n := by rfl) (hdb : (x == ("__debug__" : Str)) = false := by decide) (he : starEach (e :: es) X.env = (false, eval e X.env) :: starEach es X.env := by rfl) (hpl : (backTo pos (starEach es X.env)).any (·.1) = false := by rfl) :
    DN X W (.Call (.Name x p) (e :: es) [] pos) (xFnN n φ ψ) := by
  subst hn
  obtain ⟨f, fd, G, hm, hk, hb⟩ := c
  exact dn_fn G C hj hg hm hk hb ha hdb he hpl
theorem de_ce0 (c : Ce X.prog X.w X.K X.mg X.base x j [] φ) (C : Cok X W k) (hj : j ≤ k) (hg : Gl X x) (hdb : (x == ("__debug__" : Str)) = false := by decide) :
    DE X W (.Call (.Name x p) [] [] pos) (xFn 0 φ xNil) := by
  obtain ⟨f, fd, G, hm, hk, hb⟩ := c
  exact de_fn0 G C hj hg hm hk hb hdb
def gNeg : D → Option D
  | .int i => some (.int (-i))
  | _ => none
def xNeg (χ : Den Rv) : Den Rv := fun ρ => (χ ρ).bind fun r ρ1 => (ofO ((look ρ1 r).bind gNeg) ρ1).bind fun d ρ2 => .ok (.dat d) ρ2
theorem de_neg (he : DE X W e χ) : DE X W (.UnaryOp .USub e pos) (xNeg χ) := by
  refine pe_imp (pe_un un_neg he) fun σ H Q h => ?_
  obtain ⟨B, F, ρ, S, w⟩ := h
  refine ⟨B, F, ρ, S, wp_mono (wp_bind w) (fun a ρ1 w1 F1 x H1 s1 S1 q1 => ?_) fun _ _ z => z⟩
  obtain ⟨dz, e1, w2⟩ := wp_ofO (wp_bind w1)
  obtain ⟨d, e2, e3⟩ := Option.bind_eq_some_iff.mp e1
  cases d <;> simp only [gNeg, reduceCtorEq, Option.some.injEq] at e3
  subst e3
  exact ⟨_, S1.int q1 e2, w2 F1 _ H1 s1 S1 (.int _)⟩
end
section
variable {X : Cx} {W : WX}
/-- name = [..] on one line, the list the name's own; or as data -/
theorem ds_setLc {k : Nat} (C : Cok X W k) {i : Nat} {y : Str} {py : Pos} {elt tg iter : Expr} {ifs : List Expr} {scope : Scope} {own : List (Str × Nat)} {pos spos : Pos} {ι : Den (List D)} {is : List Nat} {γ : DenG} {τ : Den Bool} {φ : Den Rv} (hi : DI X W tg iter ι) (ok : BlkOk X.N X.env.scope scope own) (hv : ∀ i ∈ is, i ∈ own.map (·.2))
    (hg : ∀ (s : Shared) (H : Hp) (C : Addr) (cl : List (Str × Addr)) (fp : List Addr), DG (X.blk s H scope (compEnvC scope cl C X.env) fp) tg is γ) (ht : ∀ (s : Shared) (H : Hp) (C : Addr) (cl : List (Str × Addr)) (fp : List Addr), DTs (X.blk s H scope (compEnvC scope cl C X.env) fp) ifs τ)
    (he : ∀ (s : Shared) (H : Hp) (C : Addr) (cl : List (Str × Addr)) (fp : List Addr), DE (X.blk s H scope (compEnvC scope cl C X.env) fp) W0 elt φ) (hy : X.N[i]? = some y := by rfl) (hyl : X.env.scope.names.lookup y = some .local := by rfl)
    (hsw : swapsWith (.ListComp elt [⟨tg, iter, ifs, 0⟩] scope pos) (some (.Name y py)) spos.line X.env = pure true := by kernel_rfl) (hs : ∀ x, foldedSetIterable iter X.env x = pure x := by intro _; rfl) :
    DS X W (.Assign [.Name y py] (.ListComp elt [⟨tg, iter, ifs, 0⟩] scope pos) spos) (ySetNew i (xLc ι (own.map (·.2)) γ τ φ)) := by
  refine ps_imp (ps_setLc (i := i) (g := tDG X.K is γ) (tt := tDT X.K W0 τ) (te := tDE X.K W0 φ) C.calm C.nd hy hyl hsw hi ok hg ht he hs) fun D σ H hq => ?_
  obtain ⟨B, F, ρ, S, w⟩ := hq
  refine lcD_sound (W := W) hv ⟨B, F, ρ, S, wp_mono (spost_bind w) (fun d ρ1 w1 F1 p H1 s1 S1 q1 => ?_) fun _ _ z => z⟩
  by_cases hc : canSet ρ1 i = true
  · rw [if_pos hc] at w1
    exact w1 F1 _ H1 s1 (S1.setOwn (canSet_lt hc) q1)
  · rw [if_neg hc] at w1
    exact w1.elim
theorem ds_setLcD {k : Nat} (C : Cok X W k) {i : Nat} {y : Str} {py : Pos} {elt tg iter : Expr} {ifs : List Expr} {scope : Scope} {own : List (Str × Nat)} {pos spos : Pos} {ι : Den (List D)} {is : List Nat} {γ : DenG} {τ : Den Bool} {φ : Den Rv} (hi : DI X W tg iter ι) (ok : BlkOk X.N X.env.scope scope own) (hv : ∀ i ∈ is, i ∈ own.map (·.2))
    (hg : ∀ (s : Shared) (H : Hp) (C : Addr) (cl : List (Str × Addr)) (fp : List Addr), DG (X.blk s H scope (compEnvC scope cl C X.env) fp) tg is γ) (ht : ∀ (s : Shared) (H : Hp) (C : Addr) (cl : List (Str × Addr)) (fp : List Addr), DTs (X.blk s H scope (compEnvC scope cl C X.env) fp) ifs τ)
    (he : ∀ (s : Shared) (H : Hp) (C : Addr) (cl : List (Str × Addr)) (fp : List Addr), DE (X.blk s H scope (compEnvC scope cl C X.env) fp) W0 elt φ) (hy : X.N[i]? = some y := by rfl) (hyl : X.env.scope.names.lookup y = some .local := by rfl)
    (hsw : swapsWith (.ListComp elt [⟨tg, iter, ifs, 0⟩] scope pos) (some (.Name y py)) spos.line X.env = pure true := by kernel_rfl) (hs : ∀ x, foldedSetIterable iter X.env x = pure x := by intro _; rfl) :
    DS X W (.Assign [.Name y py] (.ListComp elt [⟨tg, iter, ifs, 0⟩] scope pos) spos) (ySet (gSet i) (xNew (xLc ι (own.map (·.2)) γ τ φ))) := by
  refine ps_imp (ps_setLc (i := i) (g := tDG X.K is γ) (tt := tDT X.K W0 τ) (te := tDE X.K W0 φ) C.calm C.nd hy hyl hsw hi ok hg ht he hs) fun D σ H hq => ?_
  obtain ⟨B, F, ρ, S, w⟩ := hq
  refine lcD_sound (W := W) hv ⟨B, F, ρ, S, wp_mono (wp_bind (spost_bind w)) (fun d ρ1 w1 F1 p H1 s1 S1 q1 => ?_) fun _ _ z => z⟩
  obtain ⟨c, h1, h2⟩ := q1.ct
  have so : Same F1 (upd F1 p c) := same_upd q1.f0
  have S2 := S1.frozen h1 q1.f0 q1.h0 q1.ns
  have w1 : SPost X.K W B F D (match gSet i d ρ1 with | some ρ3 => .next ρ3 | none => .bad) := w1
  cases e3 : gSet i d ρ1 with
  | none => rw [e3] at w1; exact w1.elim
  | some ρ3 =>
    rw [e3] at w1
    obtain ⟨hc, e4⟩ := if_some e3
    subst e4
    exact w1 (upd F1 p c) _ H1 (s1.trans so) (S2.setDat (canSet_lt hc) (h2.dr so upd_same))
end
/-! ### == and != : two texts, or data -/
def gEqS (neg : Bool) : D → D → Option D
  | .str x, .str y => some (.bool (if neg then !decide (x = y) else decide (x = y)))
  | _, _ => none
theorem decV_str (x y : Str) : decide (V.str x = V.str y) = decide (x = y) := decide_eq_decide.mpr ⟨fun z => V.str.inj z, fun z => by rw [z]⟩
theorem s2_eqS {K : PySem.W.Frag} : S2 K rEq (gEqS false) := by
  intro B F ρ σ H x y a b da db dz Q S ra rb ea eb e q
  cases da <;> cases db <;> simp only [gEqS, reduceCtorEq, Option.some.injEq] at e
  subst e
  cases S.str ra ea
  cases S.str rb eb
  refine ⟨rfl, ?_⟩
  rename_i x y
  rw [decV_str x y]
  exact q F _ H (Same.refl F) S (.bl _)
theorem s2_neS {K : PySem.W.Frag} : S2 K rNe (gEqS true) := by
  intro B F ρ σ H x y a b da db dz Q S ra rb ea eb e q
  cases da <;> cases db <;> simp only [gEqS, reduceCtorEq, Option.some.injEq] at e
  subst e
  cases S.str ra ea
  cases S.str rb eb
  refine ⟨rfl, ?_⟩
  rename_i x y
  rw [decV_str x y]
  exact q F _ H (Same.refl F) S (.bl _)
def gEqA (a b : D) : Option D := (gEqS false a b).or (gEq a b)
def gNeA (a b : D) : Option D := (gEqS true a b).or (gNe a b)
def rEqA (K : PySem.W.Frag) : R2 := fun x y H Q => rEq x y H Q ∨ rEqD K x y H Q
def rNeA (K : PySem.W.Frag) : R2 := fun x y H Q => rNe x y H Q ∨ rNeD K x y H Q
theorem op_eqA {X : Cx} {k : Nat} (r : Room k X.A) : OpR X (compareOp .Eq) (rEqA X.K) := OpR.or op_eq (op_eqD r.units)
theorem op_neA {X : Cx} {k : Nat} (r : Room k X.A) : OpR X (compareOp .NotEq) (rNeA X.K) := OpR.or op_ne (op_neD r.units)
theorem s2_eqA {K : PySem.W.Frag} : S2 K (rEqA K) gEqA := S2.or s2_eqS s2_eq
theorem s2_neA {K : PySem.W.Frag} : S2 K (rNeA K) gNeA := S2.or s2_neS s2_ne
/-- the turns that a while is given -/
def fuel : Nat := 1000000000
theorem b_len : bootBuiltins "len" = some (.builtin "len") := by decide +kernel
theorem b_abs : bootBuiltins "abs" = some (.builtin "abs") := by decide +kernel
theorem b_repr : bootBuiltins "repr" = some (.builtin "repr") := by decide +kernel
theorem b_int : bootBuiltins "int" = some (.type "int") := by decide +kernel
theorem b_list : bootBuiltins "list" = some (.type "list") := by decide +kernel
theorem b_chr : bootBuiltins "chr" = some (.builtin "chr") := by decide +kernel
theorem b_sum : bootBuiltins "sum" = some (.builtin "sum") := by decide +kernel
theorem b_ord : bootBuiltins "ord" = some (.builtin "ord") := by decide +kernel
theorem b_str : bootBuiltins "str" = some (.type "str") := by decide +kernel
theorem b_all : bootBuiltins "all" = some (.builtin "all") := by decide +kernel
theorem b_any : bootBuiltins "any" = some (.builtin "any") := by decide +kernel
theorem b_tuple : bootBuiltins "tuple" = some (.type "tuple") := by decide +kernel
theorem b_sorted : bootBuiltins "sorted" = some (.builtin "sorted") := by decide +kernel
theorem b_min : bootBuiltins "min" = some (.builtin "min") := by decide +kernel
theorem b_max : bootBuiltins "max" = some (.builtin "max") := by decide +kernel
theorem b_isinstance : bootBuiltins "isinstance" = some (.builtin "isinstance") := by decide +kernel
theorem b_dict : bootBuiltins "dict" = some (.type "dict") := by decide +kernel
theorem b_set : bootBuiltins "set" = some (.type "set") := by decide +kernel
end DL


/-! D layer, 12: reckoning with denotations; what every law begins with. -/
namespace DL
open PySem PySem.Spec L2
/-- a cell read, as a value; as data; frozen -/
def nmC (i : Nat) (ρ : Env) : Option (Option Cell) → Ans Rv
  | some (some (.dat d)) => .ok (.dat d) ρ
  | some (some (.own _ _)) => .ok (.slot i) ρ
  | _ => .bad
def lkC : Option (Option Cell) → Option D
  | some (some (.dat d)) => some d
  | some (some (.own _ d)) => some d
  | _ => none
def fzC (i : Nat) (ρ : Env) : Option (Option Cell) → Ans D
  | some (some (.dat d)) => .ok d ρ
  | some (some (.own true d)) => .ok d (ρ.set i (some (.dat d)))
  | _ => .bad
@[simp] theorem ev_name (i : Nat) (ρ : Env) : xName i ρ = nmC i ρ ρ[i]? := (rfl)
@[simp] theorem nmC_dat (i : Nat) (ρ : Env) (d : D) : nmC i ρ (some (some (.dat d))) = .ok (.dat d) ρ := (rfl)
@[simp] theorem nmC_own (i : Nat) (ρ : Env) (o : Bool) (d : D) : nmC i ρ (some (some (.own o d))) = .ok (.slot i) ρ := (rfl)
@[simp] theorem ev_look (i : Nat) (ρ : Env) : look ρ (.slot i) = lkC ρ[i]? := by unfold look; exact (rfl)
@[simp] theorem lkC_dat (d : D) : lkC (some (some (.dat d))) = some d := (rfl)
@[simp] theorem lkC_own (o : Bool) (d : D) : lkC (some (some (.own o d))) = some d := (rfl)
@[simp] theorem ev_frz (i : Nat) (ρ : Env) : frz (.slot i) ρ = fzC i ρ ρ[i]? := by unfold frz; exact (rfl)
@[simp] theorem fzC_dat (i : Nat) (ρ : Env) (d : D) : fzC i ρ (some (some (.dat d))) = .ok d ρ := (rfl)
@[simp] theorem fzC_own (i : Nat) (ρ : Env) (d : D) : fzC i ρ (some (some (.own true d))) = .ok d (ρ.set i (some (.dat d))) := (rfl)
section
variable (ρ : Env) (φ ψ χ : Den Rv) (β β' : Den Bool) (α : Den (List Rv)) (g g' : D → D → Option D)
@[simp] theorem ev_C (d : D) : xC d ρ = .ok (.dat d) ρ := (rfl)
@[simp] theorem ev_Frz : xFrz φ ρ = (φ ρ).bind fun r ρ1 => (frz r ρ1).bind fun d ρ2 => .ok (.dat d) ρ2 := (rfl)
/-- two things put together -/
def ap2 (ρ : Env) (g : D → D → Option D) : Option D → Option D → Ans Rv
  | some x, some y => (ofO (g x y) ρ).bind fun d ρ1 => .ok (.dat d) ρ1
  | _, _ => .bad
@[simp] theorem ev_appl2 (a b : Rv) : appl2 g a b ρ = ap2 ρ g (look ρ a) (look ρ b) := by
  unfold appl2 ap2
  cases look ρ a <;> cases look ρ b <;> simp only
  rename_i x y
  cases g x y <;> rfl
@[simp] theorem ap2_some (x y : D) : ap2 ρ g (some x) (some y) = (ofO (g x y) ρ).bind fun d ρ1 => .ok (.dat d) ρ1 := (rfl)
@[simp] theorem ev_op : xOp g φ ψ ρ = (φ ρ).bind fun a ρ1 => (ψ ρ1).bind fun b ρ2 => appl2 g a b ρ2 := (rfl)
def btC (ρ : Env) : Option D → Ans Bool
  | some (.bool b) => .ok b ρ
  | _ => .bad
@[simp] theorem btC_bool (b : Bool) : btC ρ (some (.bool b)) = .ok b ρ := (rfl)
@[simp] theorem ev_bit (r : Rv) : bit r ρ = btC ρ (look ρ r) := by
  unfold bit btC
  rfl
@[simp] theorem ev_test : xTest φ ρ = (φ ρ).bind bit := (rfl)
def trC (ρ : Env) : Option D → Ans Bool
  | some d => ofO (truth d) ρ
  | none => .bad
@[simp] theorem trC_some (d : D) : trC ρ (some d) = ofO (truth d) ρ := (rfl)
@[simp] theorem ev_truthy (r : Rv) : truthy' r ρ = trC ρ (look ρ r) := by
  unfold truthy' trC
  rfl
@[simp] theorem ev_truth : xTruth φ ρ = (φ ρ).bind truthy' := (rfl)
@[simp] theorem ev_not : xNot β ρ = (β ρ).bind fun b ρ1 => .ok (!b) ρ1 := (rfl)
@[simp] theorem ev_and : xAnd β β' ρ = (β ρ).bind fun b ρ1 => if b = true then β' ρ1 else .ok false ρ1 := (rfl)
@[simp] theorem ev_or : xOr β β' ρ = (β ρ).bind fun b ρ1 => if b = true then .ok true ρ1 else β' ρ1 := (rfl)
@[simp] theorem ev_andV : xAndV φ ψ ρ = (φ ρ).bind fun a ρ1 => (bit a ρ1).bind fun b ρ2 => if b = true then ψ ρ2 else .ok (.dat (.bool false)) ρ2 := (rfl)
@[simp] theorem ev_orV : xOrV φ ψ ρ = (φ ρ).bind fun a ρ1 => (bit a ρ1).bind fun b ρ2 => if b = true then .ok (.dat (.bool true)) ρ2 else ψ ρ2 := (rfl)
@[simp] theorem ev_notV : xNotV φ ρ = (φ ρ).bind fun a ρ1 => (truthy' a ρ1).bind fun b ρ2 => .ok (.dat (.bool (!b))) ρ2 := (rfl)
@[simp] theorem ev_if : xIf β φ ψ ρ = (β ρ).bind fun b ρ1 => if b = true then φ ρ1 else ψ ρ1 := (rfl)
@[simp] theorem ev_chain : xChain g g' φ ψ χ ρ = (φ ρ).bind fun a ρ1 => (ψ ρ1).bind fun b ρ2 => (appl2 g a b ρ2).bind fun z ρ3 => (bit z ρ3).bind fun k ρ4 =>
  if k = true then (χ ρ4).bind fun c ρ5 => appl2 g' b c ρ5 else .ok (.dat (.bool false)) ρ4 := (rfl)
@[simp] theorem ev_nil : xNil ρ = .ok [] ρ := (rfl)
@[simp] theorem ev_cons : xCons φ α ρ = (φ ρ).bind fun a ρ1 => (α ρ1).bind fun as ρ2 => .ok (a :: as) ρ2 := (rfl)
@[simp] theorem ev_tup : xTup α ρ = (α ρ).bind fun rs ρ1 => (ofO ((dats rs).bind mkTup) ρ1).bind fun d ρ2 => .ok (.dat d) ρ2 := (rfl)
@[simp] theorem ev_lst : xLst α ρ = (α ρ).bind fun rs ρ1 => ofO ((dats rs).bind mkLst) ρ1 := (rfl)
@[simp] theorem ev_new (δ : Den D) : xNew δ ρ = (δ ρ).bind fun d ρ1 => .ok (.dat d) ρ1 := (rfl)
@[simp] theorem ev_call (f : Env → List Rv → Option D) : xCall f α ρ = (α ρ).bind fun rs ρ1 => (ofO (f ρ1 rs) ρ1).bind fun d ρ2 => .ok (.dat d) ρ2 := (rfl)
@[simp] theorem ev_callN (f : Env → List Rv → Option D) : xCallN f α ρ = (α ρ).bind fun rs ρ1 => ofO (f ρ1 rs) ρ1 := (rfl)
@[simp] theorem ev_lk (f : List D → Option D) (rs : List Rv) : lk f ρ rs = (looks ρ rs).bind f := (rfl)
def lkL : Option D → Option (List D) → Option (List D)
  | some d, some ds => some (d :: ds)
  | _, _ => none
@[simp] theorem ev_looks (r : Rv) (rs : List Rv) : looks ρ (r :: rs) = lkL (look ρ r) (looks ρ rs) := by
  show (match look ρ r, looks ρ rs with | some d, some ds => some (d :: ds) | _, _ => none) = _
  unfold lkL
  rfl
@[simp] theorem lkL_some (d : D) (ds : List D) : lkL (some d) (some ds) = some (d :: ds) := (rfl)
@[simp] theorem ev_noPart : xNoPart ρ = .ok none ρ := (rfl)
def ptC (ρ : Env) : Option D → Ans (Option Int)
  | some (.int i) => .ok (some i) ρ
  | _ => .bad
@[simp] theorem ptC_int (i : Int) : ptC ρ (some (.int i)) = .ok (some i) ρ := (rfl)
@[simp] theorem ev_part : xPart φ ρ = (φ ρ).bind fun r ρ1 => ptC ρ1 (look ρ1 r) := by
  unfold xPart ptC
  rfl
def slC (ρ : Env) (l u : Option Int) : Option D → Ans Rv
  | some d => (ofO (gSl d l u) ρ).bind fun d ρ1 => .ok (.dat d) ρ1
  | none => .bad
@[simp] theorem slC_some (l u : Option Int) (d : D) : slC ρ l u (some d) = (ofO (gSl d l u) ρ).bind fun d ρ1 => .ok (.dat d) ρ1 := (rfl)
@[simp] theorem ev_sl (lo hi : Den (Option Int)) : xSl φ lo hi ρ = (φ ρ).bind fun r ρ1 => (lo ρ1).bind fun l ρ2 => (hi ρ2).bind fun u ρ3 => slC ρ3 l u (look ρ3 r) := by
  unfold xSl slC
  rfl
@[simp] theorem ev_neg : xNeg φ ρ = (φ ρ).bind fun r ρ1 => (ofO ((look ρ1 r).bind gNeg) ρ1).bind fun d ρ2 => .ok (.dat d) ρ2 := (rfl)
@[simp] theorem ev_mt0 (h : Str → List D → Option D) : xMt0 h φ ρ = (φ ρ).bind fun r ρ1 => (ofO ((strOf r).bind fun z => h z []) ρ1).bind fun d ρ2 => .ok (.dat d) ρ2 := (rfl)
@[simp] theorem ev_mt1 (h : Str → List D → Option D) : xMt1 h φ χ ρ = (φ ρ).bind fun r ρ1 => (ofO (strOf r) ρ1).bind fun z ρ2 => (χ ρ2).bind fun q ρ3 => (ofO ((looks ρ3 [q]).bind fun ds => h z ds) ρ3).bind fun d ρ4 => .ok (.dat d) ρ4 := (rfl)
@[simp] theorem strOf_str (z : Str) : strOf (.dat (.str z)) = some z := (rfl)
@[simp] theorem ev_fmt : xFmt φ ρ = (φ ρ).bind fun r ρ1 => (ofO ((look ρ1 r).bind asText) ρ1).bind fun d ρ2 => .ok (.dat d) ρ2 := (rfl)
@[simp] theorem ev_pad (sp : Str) : xPad sp φ ρ = (φ ρ).bind fun r ρ1 => (ofO ((look ρ1 r).bind (padD sp)) ρ1).bind fun d ρ2 => .ok (.dat d) ρ2 := (rfl)
@[simp] theorem ev_joined (φs : List (Den Rv)) : xJoined φs ρ = joinE φs Str.empty ρ := (rfl)
@[simp] theorem ev_joinE_nil (acc : Str) : joinE [] acc ρ = .ok (.dat (.str acc)) ρ := (rfl)
@[simp] theorem ev_joinE_cons (r : List (Den Rv)) (acc : Str) : joinE (φ :: r) acc ρ = (φ ρ).bind fun v ρ1 => (ofO (strOf v) ρ1).bind fun y ρ2 => if (acc ++ y).length ≤ sizeLine then joinE r (acc ++ y) ρ2 else .bad := (rfl)
@[simp] theorem ev_opN : xOpN g φ ψ ρ = (φ ρ).bind fun a ρ1 => (ψ ρ1).bind fun b ρ2 => (appl2 g a b ρ2).bind fun r ρ3 => ofO (datOf r) ρ3 := by
  unfold xOpN
  congr 1; funext a ρ1; congr 1; funext b ρ2; congr 1; funext r ρ3
  cases r <;> rfl
@[simp] theorem datOf_dat (d : D) : datOf (.dat d) = some d := (rfl)
@[simp] theorem ev_items : xItems φ ρ = (φ ρ).bind fun r ρ1 => (frz r ρ1).bind fun d ρ2 => ofO (itemsOf d) ρ2 := by
  unfold xItems
  congr 1; funext r ρ1; congr 1; funext d ρ2
  cases d <;> rfl
@[simp] theorem ev_rng (f : List D → Option (List D)) : xRng f α ρ = (α ρ).bind fun rs ρ1 => ofO ((looks ρ1 rs).bind f) ρ1 := (rfl)
@[simp] theorem ev_walk (f : List D → Option (List D)) : xWalk f α ρ = (α ρ).bind fun rs ρ1 => ofO ((dats rs).bind f) ρ1 := (rfl)
@[simp] theorem ev_yes : xYes ρ = .ok true ρ := (rfl)
@[simp] theorem ev_lc (ι : Den (List D)) (vs : List Nat) (γ : DenG) (τ : Den Bool) : xLc ι vs γ τ φ ρ = (ι ρ).bind fun ds ρ1 => if ds.length ≤ sizeLine then (noX (lcD vs γ τ φ ds (wipeE ρ1 vs))).bind fun xs ρ2 => .ok (.list xs) (unwipe ρ1 ρ2 vs) else .bad := (rfl)
@[simp] theorem ev_fn (np : Nat) (f : Env → FAns) : xFn np f α ρ = (α ρ).bind fun rs ρ1 => (callD np f rs ρ1).bind rtD := (rfl)
@[simp] theorem ev_fnN (np : Nat) (f : Env → FAns) : xFnN np f α ρ = (α ρ).bind fun rs ρ1 => (callD np f rs ρ1).bind rtN := (rfl)
-- statements
variable (a b : DenS) (γ : DenG)
@[simp] theorem ev_next : yNext ρ = .next ρ := (rfl)
@[simp] theorem ev_seq : ySeq a b ρ = (a ρ).andThen b := (rfl)
@[simp] theorem then_next : (Out.next ρ).andThen b = b ρ := (rfl)
@[simp] theorem then_ret (r : Rt) : (Out.ret r ρ).andThen b = .ret r ρ := (rfl)
@[simp] theorem then_brk : (Out.brk ρ).andThen b = .brk ρ := (rfl)
@[simp] theorem then_cont : (Out.cont ρ).andThen b = .cont ρ := (rfl)
@[simp] theorem then_exc (x : Exc) : (Out.exc x ρ).andThen b = .exc x ρ := (rfl)
@[simp] theorem ev_pass : yPass ρ = .next ρ := (rfl)
@[simp] theorem ev_break : yBreak ρ = .brk ρ := (rfl)
@[simp] theorem ev_cont : yCont ρ = .cont ρ := (rfl)
@[simp] theorem ev_ret : yRet φ ρ = oBind (φ ρ) fun r ρ1 => oBind (frz r ρ1) fun d ρ2 => .ret (.dat d) ρ2 := (rfl)
@[simp] theorem ev_retN : yRetN ρ = .ret (.dat .none) ρ := (rfl)
@[simp] theorem ev_retNew (δ : Den D) : yRetNew δ ρ = oBind (δ ρ) fun d ρ1 => .ret (.own d) ρ1 := (rfl)
def roC (ρ : Env) : Option (Option Cell) → Out
  | some (some (.own true d)) => .ret (.own d) ρ
  | _ => .bad
@[simp] theorem roC_own (d : D) : roC ρ (some (some (.own true d))) = .ret (.own d) ρ := (rfl)
@[simp] theorem ev_retOwn (i : Nat) : yRetOwn i ρ = roC ρ ρ[i]? := by unfold yRetOwn roC; exact (rfl)
@[simp] theorem ev_yIf (c : Den Bool) : yIf c a b ρ = oBind (c ρ) fun k ρ1 => if k = true then a ρ1 else b ρ1 := (rfl)
def nxO : Option Env → Out
  | some ρ => .next ρ
  | none => .bad
@[simp] theorem nxO_some : nxO (some ρ) = .next ρ := (rfl)
@[simp] theorem ev_set : ySet γ φ ρ = oBind (φ ρ) fun r ρ1 => oBind (frz r ρ1) fun d ρ2 => nxO (γ d ρ2) := by unfold ySet nxO; exact (rfl)
@[simp] theorem ev_gSet (i : Nat) (d : D) : gSet i d ρ = if canSet ρ i then some (ρ.set i (some (.dat d))) else none := (rfl)
def csC : Option (Option Cell) → Bool
  | some (some (.own false _)) => false
  | some _ => true
  | none => false
@[simp] theorem ev_canSet (i : Nat) : canSet ρ i = csC ρ[i]? := by unfold canSet csC; exact (rfl)
@[simp] theorem csC_none : csC (some none) = true := (rfl)
@[simp] theorem csC_dat (d : D) : csC (some (some (.dat d))) = true := (rfl)
@[simp] theorem csC_own (d : D) : csC (some (some (.own true d))) = true := (rfl)
@[simp] theorem ev_setNew (i : Nat) (δ : Den D) : ySetNew i δ ρ = oBind (δ ρ) fun d ρ1 => if canSet ρ1 i then .next (ρ1.set i (some (.own true d))) else .bad := (rfl)
@[simp] theorem ev_expr : yExpr φ ρ = oBind (φ ρ) fun _ ρ1 => .next ρ1 := (rfl)
@[simp] theorem ev_for (ι : Den (List D)) : yFor ι γ a ρ = oBind (ι ρ) fun ds ρ1 => forD γ a ds ρ1 := (rfl)
@[simp] theorem ev_par (is : List Nat) (μ : Den (List Nv)) : yPar is μ ρ = oBind (μ ρ) fun ns ρ1 => nxO (parE is ns ρ1) := by unfold yPar nxO; exact (rfl)
@[simp] theorem ev_mNil : mNil ρ = .ok [] ρ := (rfl)
@[simp] theorem ev_mDat (μ : Den (List Nv)) : mDat φ μ ρ = (φ ρ).bind fun r ρ1 => (ofO (datOf r) ρ1).bind fun d ρ2 => (μ ρ2).bind fun ns ρ3 => .ok (.dat d :: ns) ρ3 := (rfl)
@[simp] theorem ev_mNew (δ : Den D) (μ : Den (List Nv)) : mNew δ μ ρ = (δ ρ).bind fun d ρ1 => (μ ρ1).bind fun ns ρ2 => .ok (.new d :: ns) ρ2 := (rfl)
@[simp] theorem parE_nil : parE [] [] ρ = some ρ := (rfl)
@[simp] theorem parE_cons (i : Nat) (is : List Nat) (n : Nv) (ns : List Nv) : parE (i :: is) (n :: ns) ρ = if canSet ρ i then parE is ns (ρ.set i (some n.cell)) else none := (rfl)
@[simp] theorem cell_dat (d : D) : (Nv.dat d).cell = .dat d := (rfl)
@[simp] theorem cell_new (d : D) : (Nv.new d).cell = .own true d := (rfl)
def jxC (ρ : Env) (i : Nat) (d : D) : Option D → Out
  | some k => nxO (setIx i k d ρ)
  | none => .bad
@[simp] theorem jxC_some (i : Nat) (d k : D) : jxC ρ i d (some k) = nxO (setIx i k d ρ) := (rfl)
@[simp] theorem ev_setIx (i : Nat) (ι : Den Rv) : ySetIx i ι φ ρ = oBind (φ ρ) fun r ρ1 => oBind (frz r ρ1) fun d ρ2 => oBind (xName i ρ2) fun _ ρ3 => oBind (ι ρ3) fun j ρ4 => jxC ρ4 i d (look ρ4 j) := by
  unfold ySetIx jxC nxO
  rfl
end
def sxC (i : Nat) (ρ : Env) (k d : D) : Option (Option Cell) → Option Env
  | some (some (.own o (.list ds))) => match k with
    | .int j => (ixN ds.length j).map fun m => ρ.set i (some (.own o (.list (ds.set m d))))
    | _ => none
  | _ => none
@[simp] theorem ev_setIxC (i : Nat) (k d : D) (ρ : Env) : setIx i k d ρ = sxC i ρ k d ρ[i]? := by
  unfold setIx
  cases ρ[i]? with
  | none => rfl
  | some c =>
    cases c with
    | none => rfl
    | some c =>
      cases c with
      | dat _ => rfl
      | own o l => cases l <;> cases k <;> rfl
@[simp] theorem sxC_own (i : Nat) (ρ : Env) (j : Int) (d : D) (o : Bool) (ds : List D) : sxC i ρ (.int j) d (some (some (.own o (.list ds)))) = (ixN ds.length j).map fun m => ρ.set i (some (.own o (.list (ds.set m d)))) := (rfl)
@[simp] theorem ev_augIx (g : D → D → Option D) (i : Nat) (ι φ : Den Rv) (ρ : Env) : yAugIx g i ι φ ρ = oBind (xName i ρ) fun o ρ1 => oBind (ι ρ1) fun j ρ2 => oBind (appl2 gGetL o j ρ2) fun old ρ3 => oBind (φ ρ3) fun r ρ4 => oBind (appl2 g old r ρ4) fun new ρ5 => oBind (ofO (datOf new) ρ5) fun d ρ6 => jxC ρ6 i d (look ρ6 j) := by
  unfold yAugIx
  congr 1; funext o ρ1; congr 1; funext j ρ2; congr 1; funext old ρ3; congr 1; funext r ρ4; congr 1; funext new ρ5
  cases new with
  | slot k => rfl
  | dat d =>
    show (match Rv.dat d, look ρ5 j with | .dat d, some k => (match setIx i k d ρ5 with | some ρ6 => Out.next ρ6 | none => .bad) | _, _ => .bad) = jxC ρ5 i d (look ρ5 j)
    cases look ρ5 j with
    | none => rfl
    | some k => simp only [jxC]; cases setIx i k d ρ5 <;> rfl
@[simp] theorem ev_aug (g : D → D → Option D) (i : Nat) (φ : Den Rv) (ρ : Env) : yAug g i φ ρ = oBind (xName i ρ) fun o ρ1 => oBind (φ ρ1) fun r ρ2 => oBind (appl2 g o r ρ2) fun new ρ3 => oBind (ofO (datOf new) ρ3) fun d ρ4 => if canSet ρ4 i then .next (ρ4.set i (some (.dat d))) else .bad := by
  unfold yAug
  congr 1; funext o ρ1; congr 1; funext r ρ2; congr 1; funext new ρ3
  cases new <;> rfl
/-- a list's own method -/
def muC (i : Nat) (op : List D → List D → Option (List D × D)) (as : List D) (ρ : Env) : Option (Option Cell) → Ans Rv
  | some (some (.own o (.list ds))) => match op ds as with
    | some (ds', z) => .ok (.dat z) (ρ.set i (some (.own o (.list ds'))))
    | none => .bad
  | _ => .bad
def isOwnL : Option (Option Cell) → Bool
  | some (some (.own _ (.list _))) => true
  | _ => false
@[simp] theorem isOwnL_own (o : Bool) (ds : List D) : isOwnL (some (some (.own o (.list ds)))) = true := (rfl)
@[simp] theorem muC_own (i : Nat) (op : List D → List D → Option (List D × D)) (as : List D) (ρ : Env) (o : Bool) (ds : List D) : muC i op as ρ (some (some (.own o (.list ds)))) = match op ds as with
    | some (ds', z) => .ok (.dat z) (ρ.set i (some (.own o (.list ds'))))
    | none => .bad := (rfl)
@[simp] theorem ev_mut (i : Nat) (op : List D → List D → Option (List D × D)) (φ : Den (List Rv)) (ρ : Env) : xMut i op φ ρ = if isOwnL ρ[i]? = true then (φ ρ).bind fun rs ρ1 => (ofO (dats rs) ρ1).bind fun as ρ2 => muC i op as ρ2 ρ2[i]? else .bad := by
  unfold xMut
  have key : ∀ (rs : List Rv) (ρ1 : Env), (match ρ1[i]?, dats rs with
    | some (some (.own o (.list ds))), some as => (match op ds as with
      | some (ds', z) => Ans.ok (Rv.dat z) (ρ1.set i (some (.own o (.list ds'))))
      | none => .bad)
    | _, _ => .bad) = (ofO (dats rs) ρ1).bind fun as ρ2 => muC i op as ρ2 ρ2[i]? := fun rs ρ1 => by
    cases dats rs with
    | none => cases ρ1[i]? with
      | none => rfl
      | some c => cases c with
        | none => rfl
        | some c => cases c with
          | dat _ => rfl
          | own o l => cases l <;> rfl
    | some as => cases h : ρ1[i]? with
      | none => simp [muC, h]
      | some c => cases c with
        | none => simp [muC, h]
        | some c => cases c with
          | dat _ => simp [muC, h]
          | own o l => cases l <;> simp [muC, h]
  cases ρ[i]? with
  | none => rfl
  | some c => cases c with
    | none => rfl
    | some c => cases c with
      | dat _ => rfl
      | own o l =>
        cases l <;> first | rfl | skip
        show (φ ρ).bind _ = (φ ρ).bind _
        congr 1
        funext rs ρ1
        exact key rs ρ1
/-! calls -/
@[simp] theorem ats_nil : ats [] = [] := (rfl)
@[simp] theorem ats_dat (d : D) (rs : List Rv) : ats (.dat d :: rs) = ats rs := (rfl)
@[simp] theorem ats_slot (i : Nat) (rs : List Rv) : ats (.slot i :: rs) = i :: ats rs := (rfl)
def piC (c : Option (Option Cell)) (r : Option Env) : Option Env := match c with
  | some (some (.own _ d)) => r.map (some (Cell.own false d) :: ·)
  | _ => none
@[simp] theorem piC_own (o : Bool) (d : D) (r : Option Env) : piC (some (some (.own o d))) r = r.map (some (Cell.own false d) :: ·) := (rfl)
@[simp] theorem passIn_nil (ρ : Env) : passIn ρ [] = some [] := (rfl)
@[simp] theorem passIn_dat (ρ : Env) (d : D) (rs : List Rv) : passIn ρ (.dat d :: rs) = (passIn ρ rs).map (some (.dat d) :: ·) := (rfl)
@[simp] theorem passIn_slot (ρ : Env) (i : Nat) (rs : List Rv) : passIn ρ (.slot i :: rs) = piC ρ[i]? (passIn ρ rs) := by
  show (match ρ[i]? with | some (some (.own _ d)) => (passIn ρ rs).map (some (Cell.own false d) :: ·) | _ => none) = _
  unfold piC
  rfl
@[simp] theorem backIn_nil (c ρ : Env) : backIn [] c ρ = some ρ := by cases c <;> rfl
@[simp] theorem backIn_dat (d : D) (rs : List Rv) (x : Option Cell) (c ρ : Env) : backIn (.dat d :: rs) (x :: c) ρ = backIn rs c ρ := (rfl)
def biC (i : Nat) (d : D) (rs : List Rv) (c ρ : Env) : Option (Option Cell) → Option Env
  | some (some (.own o _)) => backIn rs c (List.set ρ i (some (Cell.own o d)))
  | _ => none
@[simp] theorem biC_own (i : Nat) (d : D) (rs : List Rv) (c ρ : Env) (o : Bool) (d' : D) : biC i d rs c ρ (some (some (.own o d'))) = backIn rs c (List.set ρ i (some (Cell.own o d))) := (rfl)
@[simp] theorem backIn_slot (i : Nat) (o : Bool) (d : D) (rs : List Rv) (c ρ : Env) : backIn (.slot i :: rs) (some (Cell.own o d) :: c) ρ = biC i d rs c ρ ρ[i]? := by
  show (match ρ[i]? with | some (some (Cell.own o _)) => backIn rs c (List.set ρ i (some (Cell.own o d))) | _ => none) = _
  unfold biC
  rfl
/-- the callee's answer taken over -/
def takeC (rs : List Rv) (ρ : Env) : FAns → Ans Rt
  | .ret r ρb => (match backIn rs ρb ρ with
    | some ρ' => .ok r ρ'
    | none => .bad)
  | .exc x ρb => (match backIn rs ρb ρ with
    | some ρ' => .exc x ρ'
    | none => .bad)
  | .bad => .bad
def okO (r : Rt) : Option Env → Ans Rt
  | some ρ => .ok r ρ
  | none => .bad
@[simp] theorem okO_some (r : Rt) (ρ : Env) : okO r (some ρ) = .ok r ρ := (rfl)
@[simp] theorem takeC_ret (rs : List Rv) (ρ : Env) (r : Rt) (ρb : Env) : takeC rs ρ (.ret r ρb) = okO r (backIn rs ρb ρ) := by
  show (match backIn rs ρb ρ with | some ρ' => Ans.ok r ρ' | none => .bad) = _
  cases backIn rs ρb ρ <;> rfl
def runC (φ : Env → FAns) (rs : List Rv) (ρ : Env) : Option Env → Ans Rt
  | some ρc => takeC rs ρ (φ ρc)
  | none => .bad
@[simp] theorem runC_some (φ : Env → FAns) (rs : List Rv) (ρ ρc : Env) : runC φ rs ρ (some ρc) = takeC rs ρ (φ ρc) := (rfl)
@[simp] theorem ev_callD (np : Nat) (φ : Env → FAns) (rs : List Rv) (ρ : Env) : callD np φ rs ρ = if rs.length = np ∧ (ats rs).Nodup then runC φ rs ρ (passIn ρ rs) else .bad := by
  unfold callD
  split
  · cases passIn ρ rs with
    | none => rfl
    | some ρc =>
      show _ = takeC rs ρ (φ ρc)
      unfold takeC
      try dsimp only
      all_goals
        generalize φ ρc = z
        cases z with
        | ret r ρb => dsimp only; cases backIn rs ρb ρ <;> rfl
        | exc x ρb => dsimp only; cases backIn rs ρb ρ <;> rfl
        | bad => rfl
  · rfl
def outE (f : Env → FAns) : Option Env → FAns
  | some ρ => f ρ
  | none => .bad
@[simp] theorem outE_some (f : Env → FAns) (ρ : Env) : outE f (some ρ) = f ρ := (rfl)
@[simp] theorem outF_next (ρ ρ' : Env) : outF ρ (.next ρ') = outE (.ret (.dat .none)) (backE ρ ρ') := by
  show (match backE ρ ρ' with | some ρb => FAns.ret (.dat .none) ρb | none => .bad) = _
  cases backE ρ ρ' <;> rfl
@[simp] theorem outF_ret (ρ ρ' : Env) (r : Rt) : outF ρ (.ret r ρ') = outE (.ret r) (backE ρ ρ') := by
  show (match backE ρ ρ' with | some ρb => FAns.ret r ρb | none => .bad) = _
  cases backE ρ ρ' <;> rfl
@[simp] theorem outF_exc (ρ ρ' : Env) (x : Exc) : outF ρ (.exc x ρ') = outE (.exc x) (backE ρ ρ') := by
  show (match backE ρ ρ' with | some ρb => FAns.exc x ρb | none => .bad) = _
  cases backE ρ ρ' <;> rfl
@[simp] theorem backE_nil (ρ : Env) : backE [] ρ = some [] := by cases ρ <;> rfl
@[simp] theorem backE_dat (d : D) (r : Env) (c : Option Cell) (r' : Env) : backE (some (.dat d) :: r) (c :: r') = (backE r r').map (none :: ·) := by
  cases c with
  | none => rfl
  | some c => cases c <;> rfl
@[simp] theorem backE_own (o : Bool) (d : D) (r : Env) (d' : D) (r' : Env) : backE (some (.own o d) :: r) (some (.own false d') :: r') = (backE r r').map (some (.own false d') :: ·) := (rfl)
theorem ev_fnD (n : Nat) (ψ : DenS) (ρ : Env) : fnD n ψ ρ = outF ρ (ψ (ρ ++ List.replicate (n - ρ.length) none)) := rfl
/-! ### lazily from the left: simp goes into the first part alone -/
def Hold {α : Sort _} (_ : α) : Type := Unit
def Ans.thn {α β : Type} (m : Ans α) (f : α → Env → Ans β) (_ : Hold f) : Ans β := m.bind f
def oThn {α : Type} (m : Ans α) (f : α → Env → Out) (_ : Hold f) : Out := oBind m f
def Out.thn (m : Out) (f : DenS) (_ : Hold f) : Out := m.andThen f
@[simp ↓] theorem bind_lazy {α β : Type} (m : Ans α) (f : α → Env → Ans β) : m.bind f = m.thn f () := (rfl)
@[simp ↓] theorem oBind_lazy {α : Type} (m : Ans α) (f : α → Env → Out) : oBind m f = oThn m f () := (rfl)
@[simp ↓] theorem then_lazy (m : Out) (f : DenS) : m.andThen f = m.thn f () := (rfl)
@[simp] theorem thn_ok {α β : Type} (a : α) (ρ : Env) (f : α → Env → Ans β) : (Ans.ok a ρ).thn f () = f a ρ := (rfl)
@[simp] theorem thn_exc {α β : Type} (x : Exc) (ρ : Env) (f : α → Env → Ans β) : (Ans.exc x ρ).thn f () = .exc x ρ := (rfl)
@[simp] theorem thn_bad {α β : Type} (f : α → Env → Ans β) : (Ans.bad : Ans α).thn f () = .bad := (rfl)
@[simp] theorem oThn_ok {α : Type} (a : α) (ρ : Env) (f : α → Env → Out) : oThn (.ok a ρ) f () = f a ρ := (rfl)
@[simp] theorem oThn_exc {α : Type} (x : Exc) (ρ : Env) (f : α → Env → Out) : oThn (.exc x ρ) f () = .exc x ρ := (rfl)
@[simp] theorem oThn_bad {α : Type} (f : α → Env → Out) : oThn (.bad : Ans α) f () = .bad := (rfl)
@[simp] theorem outThn_next (ρ : Env) (f : DenS) : (Out.next ρ).thn f () = f ρ := (rfl)
@[simp] theorem outThn_ret (r : Rt) (ρ : Env) (f : DenS) : (Out.ret r ρ).thn f () = .ret r ρ := (rfl)
@[simp] theorem outThn_brk (ρ : Env) (f : DenS) : (Out.brk ρ).thn f () = .brk ρ := (rfl)
@[simp] theorem outThn_cont (ρ : Env) (f : DenS) : (Out.cont ρ).thn f () = .cont ρ := (rfl)
@[simp] theorem outThn_exc (x : Exc) (ρ : Env) (f : DenS) : (Out.exc x ρ).thn f () = .exc x ρ := (rfl)
@[simp] theorem sizeLine_val : sizeLine = 16777216 := (rfl)
/-! ### the operations -/
theorem shaped_int (i : Int) : SeqAt.shaped (.int i) = true := by simp [SeqAt.shaped, PyData.canLay0, PyData.depth]
@[simp] theorem gEq_int (i j : Int) : gEq (.int i) (.int j) = some (.bool (i == j)) := by
  unfold gEq
  rw [if_pos ⟨shaped_int i, shaped_int j⟩]
  simp [PyData.eqv]
@[simp] theorem gNe_int (i j : Int) : gNe (.int i) (.int j) = some (.bool (!(i == j))) := by
  unfold gNe
  rw [if_pos ⟨shaped_int i, shaped_int j⟩]
  simp [PyData.eqv]
@[simp] theorem gEqA_int (i j : Int) : gEqA (.int i) (.int j) = some (.bool (i == j)) := gEq_int i j
@[simp] theorem gNeA_int (i j : Int) : gNeA (.int i) (.int j) = some (.bool (!(i == j))) := gNe_int i j
@[simp] theorem gEqA_str (x y : Str) : gEqA (.str x) (.str y) = some (.bool (decide (x = y))) := (rfl)
@[simp] theorem gNeA_str (x y : Str) : gNeA (.str x) (.str y) = some (.bool (!decide (x = y))) := (rfl)
@[simp] theorem gLt_int (i j : Int) : gLt (.int i) (.int j) = some (.bool (decide (i < j))) := (rfl)
@[simp] theorem gLe_int (i j : Int) : gLe (.int i) (.int j) = some (.bool (decide (i ≤ j))) := (rfl)
@[simp] theorem gGt_int (i j : Int) : gGt (.int i) (.int j) = some (.bool (decide (j < i))) := (rfl)
@[simp] theorem gGe_int (i j : Int) : gGe (.int i) (.int j) = some (.bool (decide (j ≤ i))) := (rfl)
@[simp] theorem gAddA_int (i j : Int) : gAddA (.int i) (.int j) = some (.int (i + j)) := (rfl)
@[simp] theorem gAddI_int (i j : Int) : gAddI (.int i) (.int j) = some (.int (i + j)) := (rfl)
@[simp] theorem gSub_int (i j : Int) : gSub (.int i) (.int j) = some (.int (i - j)) := (rfl)
@[simp] theorem gNeg_int (i : Int) : gNeg (.int i) = some (.int (-i)) := (rfl)
@[simp] theorem gMulA_r {i j : Int} (h : -(2 ^ 64) < j ∧ j < 2 ^ 64) : gMulA (.int i) (.int j) = some (.int (i * j)) := by
  simp only [gMulA, gMul]
  rw [if_pos (.inr h)]
  rfl
@[simp] theorem gMulA_l {i j : Int} (h : -(2 ^ 64) < i ∧ i < 2 ^ 64) : gMulA (.int i) (.int j) = some (.int (i * j)) := by
  simp only [gMulA, gMul]
  rw [if_pos (.inl h)]
  rfl
@[simp] theorem gMod_pos {i j : Int} (h : 0 < j) : gMod (.int i) (.int j) = some (.int (i % j)) := by
  simp only [gMod]
  rw [if_pos h]
@[simp] theorem gDiv_pos {i j : Int} (h : 0 < j ∧ j < 1073741824) : gDiv (.int i) (.int j) = some (.int (i / j)) := by
  simp only [gDiv]
  rw [if_pos h]
@[simp] theorem gPow_nat {i j : Int} (h : 0 ≤ j ∧ j ≤ 1000000 ∧ i.natAbs < 2 ^ 64) : gPow (.int i) (.int j) = some (.int (i ^ j.toNat)) := by
  simp only [gPow]
  rw [if_pos h]
@[simp] theorem gInt_int (i : Int) : gInt [.int i] = some (.int i) := (rfl)
@[simp] theorem gAbs_int (i : Int) : gAbs [.int i] = some (.int (if i < 0 then -i else i)) := (rfl)
@[simp] theorem gLen_list (ds : List D) : gLen [.list ds] = some (.int ds.length) := (rfl)
@[simp] theorem gLen_tuple (ds : List D) : gLen [.tuple ds] = some (.int ds.length) := (rfl)
theorem gLen_str {z : Str} (h : z.length ≤ sizeLine) : gLen [.str z] = some (.int z.length) := by
  simp only [gLen]
  rw [if_pos h]
@[simp] theorem ixN_nat (n k : Nat) : ixN n (k : Int) = if k < n then some k else none := by
  unfold ixN
  by_cases h : k < n
  · rw [if_pos h]
    simp [h]
  · rw [if_neg h]
    simp [h]
@[simp] theorem ixN_0 (n : Nat) : ixN n 0 = if 0 < n then some 0 else none := ixN_nat n 0
@[simp] theorem ixN_1 (n : Nat) : ixN n 1 = if 1 < n then some 1 else none := ixN_nat n 1
@[simp] theorem ixN_2 (n : Nat) : ixN n 2 = if 2 < n then some 2 else none := ixN_nat n 2
@[simp] theorem ixN_3 (n : Nat) : ixN n 3 = if 3 < n then some 3 else none := ixN_nat n 3
theorem atI_at (xs : List D) (k : Nat) : atI xs (k : Int) = xs[k]? := by
  unfold atI
  rw [ixN_nat]
  by_cases h : k < xs.length
  · rw [if_pos h]; rfl
  · rw [if_neg h, List.getElem?_eq_none (by omega)]; rfl
@[simp] theorem gIx_list (xs : List D) (i : Int) : gIx (.list xs) (.int i) = atI xs i := (rfl)
@[simp] theorem gIx_tuple (xs : List D) (i : Int) : gIx (.tuple xs) (.int i) = atI xs i := (rfl)
@[simp] theorem atI_0 (xs : List D) : atI xs 0 = xs[0]? := atI_at xs 0
@[simp] theorem atI_1 (xs : List D) : atI xs 1 = xs[1]? := atI_at xs 1
@[simp] theorem atI_2 (xs : List D) : atI xs 2 = xs[2]? := atI_at xs 2
@[simp] theorem atI_3 (xs : List D) : atI xs 3 = xs[3]? := atI_at xs 3
@[simp] theorem atI_4 (xs : List D) : atI xs 4 = xs[4]? := atI_at xs 4
@[simp] theorem atI_5 (xs : List D) : atI xs 5 = xs[5]? := atI_at xs 5
theorem atI_pos (xs : List D) {i : Int} (h : 0 ≤ i) : atI xs i = xs[i.toNat]? := by
  have := atI_at xs i.toNat
  rwa [Int.toNat_of_nonneg h] at this
@[simp] theorem gGetL_pos {xs : List D} {i : Int} (h : 0 ≤ i) : gGetL (.list xs) (.int i) = xs[i.toNat]? := by
  simp only [gGetL]
  rw [if_pos h]
theorem sIx_pos (n d : Nat) {i : Int} (h : 0 ≤ i) : HT.sIx n d (some i) = min i.toNat n := by
  have := HT.sIx_nat n d i.toNat
  rwa [Int.toNat_of_nonneg h] at this
@[simp] theorem gSl_list (xs : List D) (l u : Option Int) : gSl (.list xs) l u = some (.list (cutD xs l u)) := (rfl)
@[simp] theorem gSl_tuple (xs : List D) (l u : Option Int) : gSl (.tuple xs) l u = some (.tuple (cutD xs l u)) := (rfl)
theorem cutD_from (xs : List D) {i : Int} (h : 0 ≤ i) : cutD xs (some i) none = xs.drop i.toNat := by
  unfold cutD
  rw [sIx_pos _ _ h, HT.sIx_none]
  by_cases hl : i.toNat ≤ xs.length
  · rw [Nat.min_eq_left hl]
    exact List.take_of_length_le (by rw [List.length_drop]; exact Nat.le_refl _)
  · rw [Nat.min_eq_right (by omega), List.drop_length, List.drop_eq_nil_of_le (by omega)]
    simp
theorem cutD_to (xs : List D) {i : Int} (h : 0 ≤ i) : cutD xs none (some i) = xs.take i.toNat := by
  unfold cutD
  rw [sIx_pos _ _ h, HT.sIx_none, List.drop_zero, Nat.sub_zero]
  by_cases hl : i.toNat ≤ xs.length
  · rw [Nat.min_eq_left hl]
  · rw [Nat.min_eq_right (by omega), List.take_length, List.take_of_length_le (by omega)]
@[simp] theorem mkLst_ok {ds : List D} (h : ds.length ≤ 16777216) : mkLst ds = some (.list ds) := if_pos h
@[simp] theorem mkTup_ok {ds : List D} (h : ds.length ≤ 16777216) : mkTup ds = some (.tuple ds) := if_pos h
@[simp] theorem gAddA_list {xs ys : List D} (h : xs.length + ys.length ≤ 16777216) : gAddA (.list xs) (.list ys) = some (.list (xs ++ ys)) := by
  show (none : Option D).or (if xs.length + ys.length ≤ 16777216 then some (PyData.list (xs ++ ys)) else none) = _
  rw [if_pos h]
  rfl
end DL


/-! D layer, 13: loops reckoned; what every law begins with: bag, take, some, alike. -/
namespace DL
open PySem PySem.Spec L2
/-! ### loops -/
@[simp] theorem noX_ok {α : Type} (a : α) (ρ : Env) : noX (.ok a ρ) = .ok a ρ := (rfl)
/-- one turn of a comprehension -/
def lcTurn (γ : DenG) (τ : Den Bool) (φ : Den Rv) (d : D) (ρ : Env) : Ans (Option D) := match γ d ρ with
  | none => .bad
  | some ρ1 => (noX (τ ρ1)).bind fun b ρ2 => if b = true then (noX (φ ρ2)).bind fun r ρ3 => (frz r ρ3).bind fun x ρ4 => .ok (some x) ρ4 else .ok none ρ2
@[simp] theorem lcD_nil (vs : List Nat) (γ : DenG) (τ : Den Bool) (φ : Den Rv) (ρ : Env) : lcD vs γ τ φ [] ρ = .ok [] ρ := (rfl)
theorem bind_assoc {α β δ : Type} (m : Ans α) (f : α → Env → Ans β) (g : β → Env → Ans δ) : (m.bind f).bind g = m.bind fun a ρ => (f a ρ).bind g := by cases m <;> rfl
theorem lcD_cons (vs : List Nat) (γ : DenG) (τ : Den Bool) (φ : Den Rv) (d : D) (ds : List D) (ρ : Env) : lcD vs γ τ φ (d :: ds) ρ = (lcTurn γ τ φ d ρ).bind fun o ρ1 => (lcD vs γ τ φ ds (wipeE ρ1 vs)).bind fun rest ρ2 => .ok (o.toList ++ rest) ρ2 := by
  show (match γ d ρ with | none => Ans.bad | some ρ1 => _) = _
  unfold lcTurn
  cases γ d ρ with
  | none => rfl
  | some ρ1 =>
    dsimp only
    rw [bind_assoc]
    congr 1
    funext b ρ2
    cases b with
    | true =>
      rw [if_pos rfl, if_pos rfl, bind_assoc]
      congr 1
      funext r ρ3
      rw [bind_assoc]
      rfl
    | false =>
      rw [if_neg (by simp), if_neg (by simp)]
      show _ = (lcD vs γ τ φ ds (wipeE ρ2 vs)).bind _
      cases lcD vs γ τ φ ds (wipeE ρ2 vs) <;> rfl
theorem lcTurn_true {γ : DenG} {τ : Den Bool} {φ : Den Rv} {d x : D} {ρ ρ1 ρ2 ρ3 ρ4 : Env} {r : Rv} (h1 : γ d ρ = some ρ1) (h2 : τ ρ1 = .ok true ρ2) (h3 : φ ρ2 = .ok r ρ3) (h4 : frz r ρ3 = .ok x ρ4) : lcTurn γ τ φ d ρ = .ok (some x) ρ4 := by
  simp [lcTurn, h1, h2, h3, h4]
theorem lcTurn_false {γ : DenG} {τ : Den Bool} {φ : Den Rv} {d : D} {ρ ρ1 ρ2 : Env} (h1 : γ d ρ = some ρ1) (h2 : τ ρ1 = .ok false ρ2) : lcTurn γ τ φ d ρ = .ok none ρ2 := by
  simp [lcTurn, h1, h2]
/-- nothing outside is touched -/
theorem lcD_pure {vs : List Nat} {γ : DenG} {τ : Den Bool} {φ : Den Rv} {ρ : Env} {f : D → Option D} : ∀ {ds : List D}, (∀ d ∈ ds, ∃ ρ1, lcTurn γ τ φ d ρ = .ok (f d) ρ1 ∧ wipeE ρ1 vs = ρ) → lcD vs γ τ φ ds ρ = .ok (ds.filterMap f) ρ
  | [], _ => rfl
  | d :: ds, h => by
    obtain ⟨ρ1, h1, h2⟩ := h d List.mem_cons_self
    rw [lcD_cons, h1, Ans.bind_ok, h2, lcD_pure fun e he => h e (List.mem_cons_of_mem _ he), Ans.bind_ok]
    congr 1
    cases e : f d <;> simp [e]
theorem lcD_map {vs : List Nat} {γ : DenG} {τ : Den Bool} {φ : Den Rv} {ρ : Env} {f : D → D} {ds : List D} (h : ∀ d ∈ ds, ∃ ρ1, lcTurn γ τ φ d ρ = .ok (some (f d)) ρ1 ∧ wipeE ρ1 vs = ρ) : lcD vs γ τ φ ds ρ = .ok (ds.map f) ρ := by
  rw [lcD_pure (f := fun d => some (f d)) h]
  congr 1
  induction ds with
  | nil => rfl
  | cons d ds ih => simp
/-- an invariant of what stands outside -/
theorem lcD_inv {vs : List Nat} {γ : DenG} {τ : Den Bool} {φ : Den Rv} {I : Env → Prop} {P : D → Prop} : ∀ {ds : List D} {ρ : Env}, I ρ → (∀ d ∈ ds, ∀ ρ, I ρ → ∃ x ρ1, lcTurn γ τ φ d ρ = .ok (some x) ρ1 ∧ P x ∧ I (wipeE ρ1 vs)) →
    ∃ xs ρ', lcD vs γ τ φ ds ρ = .ok xs ρ' ∧ I ρ' ∧ xs.length = ds.length ∧ ∀ x ∈ xs, P x
  | [], ρ, i, _ => ⟨[], ρ, rfl, i, rfl, by simp⟩
  | d :: ds, ρ, i, h => by
    obtain ⟨x, ρ1, h1, h2, h3⟩ := h d List.mem_cons_self ρ i
    obtain ⟨xs, ρ', h4, h5, h6, h7⟩ := lcD_inv (ds := ds) h3 fun e he => h e (List.mem_cons_of_mem _ he)
    refine ⟨x :: xs, ρ', ?_, h5, by simp [h6], ?_⟩
    · rw [lcD_cons, h1, Ans.bind_ok, h4, Ans.bind_ok]
      rfl
    · intro y hy
      rcases List.mem_cons.mp hy with e | e
      · rw [e]; exact h2
      · exact h7 y e
@[simp] theorem forD_nil (γ : DenG) (ψ : DenS) (ρ : Env) : forD γ ψ [] ρ = .next ρ := (rfl)
/-- a turn of a for that goes on -/
def GoesOn (o : Out) (ρ : Env) : Prop := o = .next ρ ∨ o = .cont ρ
theorem forD_cons (γ : DenG) (ψ : DenS) (d : D) (ds : List D) (ρ : Env) : forD γ ψ (d :: ds) ρ = match γ d ρ with
    | none => .bad
    | some ρ1 => match ψ ρ1 with
      | .next ρ2 => forD γ ψ ds ρ2
      | .cont ρ2 => forD γ ψ ds ρ2
      | .brk ρ2 => .next ρ2
      | o => o := (rfl)
theorem forD_step {γ : DenG} {ψ : DenS} {d : D} {ds : List D} {ρ ρ1 ρ2 : Env} (h1 : γ d ρ = some ρ1) (h2 : GoesOn (ψ ρ1) ρ2) : forD γ ψ (d :: ds) ρ = forD γ ψ ds ρ2 := by
  rw [forD_cons, h1]
  dsimp only
  rcases h2 with h2 | h2 <;> rw [h2]
theorem forD_ret {γ : DenG} {ψ : DenS} {d : D} {ds : List D} {ρ ρ1 ρ2 : Env} {r : Rt} (h1 : γ d ρ = some ρ1) (h2 : ψ ρ1 = .ret r ρ2) : forD γ ψ (d :: ds) ρ = .ret r ρ2 := by
  rw [forD_cons, h1]
  dsimp only
  rw [h2]
/-- a for by an invariant -/
theorem forD_inv {γ : DenG} {ψ : DenS} {I : List D → Env → Prop} : ∀ {ds : List D} {ρ : Env}, I ds ρ → (∀ d r ρ, I (d :: r) ρ → ∃ ρ1 ρ2, γ d ρ = some ρ1 ∧ GoesOn (ψ ρ1) ρ2 ∧ I r ρ2) → ∃ ρ', forD γ ψ ds ρ = .next ρ' ∧ I [] ρ'
  | [], ρ, i, _ => ⟨ρ, rfl, i⟩
  | d :: ds, ρ, i, h => by
    obtain ⟨ρ1, ρ2, h1, h2, h3⟩ := h d ds ρ i
    obtain ⟨ρ', h4, h5⟩ := forD_inv h3 h
    exact ⟨ρ', by rw [forD_step h1 h2]; exact h4, h5⟩
theorem whileD_succ (c : Den Bool) (ψ : DenS) (n : Nat) (ρ : Env) : whileD c ψ (n + 1) ρ = oBind (c ρ) fun b ρ1 => if b = true then (match ψ ρ1 with
    | .next ρ2 => whileD c ψ n ρ2
    | .cont ρ2 => whileD c ψ n ρ2
    | .brk ρ2 => .next ρ2
    | o => o) else .next ρ1 := by
  rfl
/-- a while by a measure -/
theorem whileD_inv {c : Den Bool} {ψ : DenS} {I : Nat → Env → Prop} {Post : Out → Prop}
    (h : ∀ m ρ, I m ρ → (∃ ρ1, c ρ = .ok false ρ1 ∧ Post (.next ρ1)) ∨ ∃ ρ1, c ρ = .ok true ρ1 ∧ ((∃ ρ2 m', GoesOn (ψ ρ1) ρ2 ∧ m' < m ∧ I m' ρ2) ∨ (∃ ρ2, ψ ρ1 = .brk ρ2 ∧ Post (.next ρ2)) ∨ ∃ r ρ2, ψ ρ1 = .ret r ρ2 ∧ Post (.ret r ρ2))) :
    ∀ (n m : Nat) (ρ : Env), m < n → I m ρ → Post (whileD c ψ n ρ)
  | n + 1, m, ρ, hn, i => by
    rw [whileD_succ]
    rcases h m ρ i with ⟨ρ1, h1, h2⟩ | ⟨ρ1, h1, h2⟩
    · rw [h1, oBind_ok, if_neg (by simp)]
      exact h2
    · rw [h1, oBind_ok, if_pos rfl]
      rcases h2 with ⟨ρ2, m', h3, h4, h5⟩ | ⟨ρ2, h3, h4⟩ | ⟨r, ρ2, h3, h4⟩
      · have ih := whileD_inv h n m' ρ2 (by omega) h5
        rcases h3 with h3 | h3 <;> rw [h3] <;> exact ih
      · rw [h3]; exact h4
      · rw [h3]; exact h4
/-! ### the bag -/
def bagD (a b c : Int) (ns : List Int) : D := .list [.int a, .int b, .int c, .list (ns.map .int)]
def take1 : DenS := yIf (xTest (xOp gEqA (xOp gIx (xName 0) (xC (.int 0))) (xC (.int 0)))) (ySeq (ySet (gSet 2) (xOp gIx (xOp gAddA (xSl (xOp gIx (xName 0) (xC (.int 3))) (xPart (xOp gIx (xName 0) (xC (.int 2)))) (xNoPart)) (xNew (xLst (xCons (xC (.int 0)) (xNil))))) (xC (.int 0))))
    (ySeq (yAugIx gAddI 0 (xC (.int 2)) (xC (.int 1)))
    (ySeq (yIf (xTest (xOp gGe (xName 2) (xOp gPow (xC (.int 10)) (xC (.int 18))))) (ySetIx 0 (xC (.int 0)) (xName 2)) (yNext))
    (ySeq (ySet (gSet 3) (xOp gAddA (xOp gAddA (xOp gMulA (xOp gIx (xName 0) (xC (.int 1))) (xC (.int 48271))) (xOp gMod (xCall (lk gInt) (xCons (xName 2) (xNil))) (xC (.int 2147483647)))) (xOp gMulA (xC (.int 7919)) (xOp gIx (xName 0) (xC (.int 2))))))
    (ySetIx 0 (xC (.int 1)) (xOp gMod (xCall (lk gInt) (xCons (xName 3) (xNil))) (xC (.int 2147483647)))))))) (yNext)
def take2 : DenS := ySeq (yIf (xTest (xOp gGt (xOp gIx (xName 0) (xC (.int 0))) (xC (.int 0)))) (ySeq (ySet (gSet 4) (xOp gMod (xCall (lk gInt) (xCons (xOp gIx (xName 0) (xC (.int 0))) (xNil))) (xName 1)))
    (ySeq (ySetIx 0 (xC (.int 0)) (xOp gDiv (xCall (lk gInt) (xCons (xOp gIx (xName 0) (xC (.int 0))) (xNil))) (xName 1)))
    (yRet (xName 4)))) (yNext))
    (ySeq (ySet (gSet 5) (xOp gMod (xCall (lk gInt) (xCons (xOp gMulA (xOp gAddA (xOp gIx (xName 0) (xC (.int 1))) (xC (.int 1))) (xC (.int 39373))) (xNil))) (xC (.int 1000000007))))
    (ySeq (ySet (gSet 6) (xOp gMod (xCall (lk gInt) (xCons (xOp gMulA (xOp gMod (xCall (lk gInt) (xCons (xOp gMulA (xName 5) (xName 5)) (xNil))) (xC (.int 998244353))) (xC (.int 30011))) (xNil))) (xC (.int 998244353))))
    (yRet (xOp gMod (xCall (lk gInt) (xCons (xOp gDiv (xName 6) (xC (.int 7))) (xNil))) (xName 1)))))
def takeD : DL.Env → FAns := fnD 7 (ySeq take1 take2)
theorem take1_ok {a b c m : Int} {ns : List Int} (hc : 0 ≤ c) (hl : ns.length ≤ 63) : ∃ a' b' c' x y, 0 ≤ c' ∧
    take1 [some (.own false (bagD a b c ns)), some (.dat (.int m)), none, none, none, none, none] = .next [some (.own false (bagD a' b' c' ns)), some (.dat (.int m)), x, y, none, none, none] := by
  by_cases h : a = 0
  · have hd : ∃ z : Int, (List.map PyData.int ns).drop c.toNat ++ [PyData.int 0] = .int z :: ((List.map PyData.int ns).drop c.toNat ++ [PyData.int 0]).tail := by
      rw [← List.map_drop]
      cases ns.drop c.toNat with
      | nil => exact ⟨0, rfl⟩
      | cons z r => exact ⟨z, rfl⟩
    obtain ⟨z, hz⟩ := hd
    have hlen : ((List.map PyData.int ns).drop c.toNat).length ≤ 63 := by
      rw [List.length_drop, List.length_map]
      omega
    have h1 : gAddA (PyData.list ((List.map PyData.int ns).drop c.toNat)) (PyData.list [PyData.int 0]) = some (.list (.int z :: ((List.map PyData.int ns).drop c.toNat ++ [PyData.int 0]).tail)) := by
      rw [gAddA_list (by simp only [List.length_cons, List.length_nil]; omega), hz]
      rfl
    by_cases h2 : (1000000000000000000 : Int) ≤ z
    · refine ⟨z, (b * 48271 + z % 2147483647 + 7919 * (c + 1)) % 2147483647, c + 1, some (.dat (.int z)), some (.dat (.int (b * 48271 + z % 2147483647 + 7919 * (c + 1)))), by omega, ?_⟩
      simp [take1, bagD, h, cutD_from _ hc, h1, h2]
    · refine ⟨0, (b * 48271 + z % 2147483647 + 7919 * (c + 1)) % 2147483647, c + 1, some (.dat (.int z)), some (.dat (.int (b * 48271 + z % 2147483647 + 7919 * (c + 1)))), by omega, ?_⟩
      simp [take1, bagD, h, cutD_from _ hc, h1, h2]
  · exact ⟨a, b, c, none, none, hc, by simp [take1, bagD, h]⟩
theorem take2_ok {a b c m : Int} {ns : List Int} {x y : Option Cell} (hm : 0 < m) (hm2 : m < 1073741824) : ∃ a' v ρ', 0 ≤ v ∧ v < m ∧
    take2 [some (.own false (bagD a b c ns)), some (.dat (.int m)), x, y, none, none, none] = .ret (.dat (.int v)) (some (.own false (bagD a' b c ns)) :: ρ') ∧ ρ' ≠ [] := by
  by_cases h : 0 < a
  · refine ⟨a / m, a % m, [some (.dat (.int m)), x, y, some (.dat (.int (a % m))), none, none], Int.emod_nonneg _ (by omega), Int.emod_lt_of_pos _ hm, ?_, by simp⟩
    simp [take2, bagD, h, hm, hm2]
  · have hb := Int.emod_nonneg ((b + 1) * 39373) (b := 1000000007) (by decide)
    have hb2 := Int.emod_lt_of_pos ((b + 1) * 39373) (b := 1000000007) (by decide)
    generalize hB : ((b + 1) * 39373) % 1000000007 = B at hb hb2
    have hB2 : -(2 ^ 64) < B ∧ B < 2 ^ 64 := by omega
    refine ⟨a, (B * B % 998244353 * 30011 % 998244353) / 7 % m, [some (.dat (.int m)), x, y, none, some (.dat (.int B)), some (.dat (.int (B * B % 998244353 * 30011 % 998244353)))], Int.emod_nonneg _ (by omega), Int.emod_lt_of_pos _ hm, ?_, by simp⟩
    simp [take2, bagD, h, hm, hm2, hB, gMulA_l hB2]
theorem take_ok {a b c m : Int} {ns : List Int} (hc : 0 ≤ c) (hl : ns.length ≤ 63) (hm : 0 < m) (hm2 : m < 1073741824) : ∃ a' b' c' v, 0 ≤ c' ∧ 0 ≤ v ∧ v < m ∧
    takeD [some (.own false (bagD a b c ns)), some (.dat (.int m))] = .ret (.dat (.int v)) [some (.own false (bagD a' b' c' ns)), none] := by
  obtain ⟨a1, b1, c1, x, y, h1, e1⟩ := take1_ok (a := a) (b := b) (m := m) hc hl
  obtain ⟨a2, v, ρ', h2, h3, e2, h4⟩ := take2_ok (a := a1) (b := b1) (c := c1) (m := m) (ns := ns) (x := x) (y := y) hm hm2
  refine ⟨a2, b1, c1, v, h1, h2, h3, ?_⟩
  unfold takeD
  rw [ev_fnD]
  cases ρ' with
  | nil => exact absurd rfl h4
  | cons z r => simp [e1, e2]
/-! ### a law's bag, its choice -/
def bagL : DL.Env → FAns := fnD 2 (
    yRetNew (xLst (xCons (xC (.int 0)) (xCons (xC (.int 1234567891)) (xCons (xC (.int 0)) (xCons (xNew (xLc (xItems (xSl (xName 0) (xNoPart) (xPart (xC (.int 63))))) [1] (gSet 1) (xYes) (xCall (lk gAbs) (xCons (xName 1) (xNil))))) (xNil)))))))
def someD : DL.Env → FAns := fnD 2 (
    yRet (xOp gIx (xName 1) (xFn 2 takeD (xCons (xName 0) (xCons (xCall (lk gLen) (xCons (xName 1) (xNil))) (xNil))))))
def alikeD : DL.Env → FAns := fnD 2 (
    yRet (xAndV (xOp gEqA (xCall (lk gRepr) (xCons (xName 0) (xNil))) (xCall (lk gRepr) (xCons (xName 1) (xNil)))) (xOp gEqA (xName 0) (xName 1))))
def absI (i : Int) : Int := if i < 0 then -i else i
theorem bag_ok {ns : List Int} (h : ns.length ≤ 63) : bagL [some (.dat (.list (ns.map .int)))] = .ret (.own (bagD 0 1234567891 0 (ns.map absI))) [none] := by
  unfold bagL
  rw [ev_fnD]
  have hcut : cutD (ns.map PyData.int) none (some 63) = ns.map PyData.int := by
    rw [cutD_to _ (by decide)]
    exact List.take_of_length_le (by rw [List.length_map]; exact h)
  have hl : lcD [1] (gSet 1) xYes (xCall (lk gAbs) (xCons (xName 1) xNil)) (ns.map PyData.int) [some (.dat (.list (ns.map .int))), none] = .ok ((ns.map PyData.int).map fun d => match d with | .int i => .int (absI i) | d => d) [some (.dat (.list (ns.map .int))), none] := by
    refine lcD_map fun d hd => ?_
    obtain ⟨i, _, rfl⟩ := List.mem_map.mp hd
    exact ⟨_, lcTurn_true (r := .dat (.int (absI i))) (by simp; rfl) (by simp; rfl) (by simp [absI]; rfl) rfl, by simp [wipeE]⟩
  have hm : ((ns.map PyData.int).map fun d => match d with | .int i => PyData.int (absI i) | d => d) = (ns.map absI).map .int := by
    simp
  rw [hm] at hl
  have hlen : ns.length ≤ 16777216 := by omega
  simp [hcut, hlen, wipeE, unwipe, datOnly, hl, itemsOf, bagD]
/-- what is chosen is one of them -/
def BagOk (d : D) : Prop := ∃ a b c ns, d = bagD a b c ns ∧ 0 ≤ c ∧ ns.length ≤ 63
theorem BagOk.start {ns : List Int} (h : ns.length ≤ 63) : BagOk (bagD 0 1234567891 0 (ns.map absI)) := ⟨_, _, _, _, rfl, by decide, by simpa using h⟩
theorem BagOk.take {bag : D} (h : BagOk bag) {m : Int} (hm : 0 < m) (hm2 : m < 1073741824) : ∃ v bag', takeD [some (.own false bag), some (.dat (.int m))] = .ret (.dat (.int v)) [some (.own false bag'), none] ∧ 0 ≤ v ∧ v < m ∧ BagOk bag' := by
  obtain ⟨a, b, c, ns, rfl, hc, hl⟩ := h
  obtain ⟨a', b', c', v, h1, h2, h3, h4⟩ := take_ok (a := a) (b := b) hc hl hm hm2
  exact ⟨v, _, h4, h2, h3, a', b', c', ns, rfl, h1, hl⟩
theorem BagOk.some {bag : D} (h : BagOk bag) {ds : List D} (hd : ds ≠ []) (hl : ds.length < 1073741824) : ∃ x bag', someD [some (.own false bag), some (.dat (.list ds))] = .ret (.dat x) [some (.own false bag'), none] ∧ x ∈ ds ∧ BagOk bag' := by
  have hp : 0 < ds.length := List.length_pos_iff.mpr hd
  obtain ⟨v, bag', h1, h2, h3, h4⟩ := h.take (m := ds.length) (by omega) (by omega)
  have hv : v.toNat < ds.length := by omega
  refine ⟨ds[v.toNat], bag', ?_, List.getElem_mem hv, h4⟩
  unfold someD
  rw [ev_fnD]
  simp [h1, atI_pos _ h2, List.getElem?_eq_getElem hv]
theorem alike_ok {d : D} (hs : SeqAt.shaped d = true) (hw : d.showable = true) (hz : d.shown.length ≤ sizeLine) : alikeD [some (.dat d), some (.dat d)] = .ret (.dat (.bool true)) [none, none] := by
  unfold alikeD
  rw [ev_fnD]
  have h1 : gRepr [d] = some (.str d.shown) := if_pos ⟨hs, hw, hz⟩
  have h2 : gEqA d d = some (.bool true) := by
    have h3 : gEq d d = some (.bool true) := by
      unfold gEq
      rw [if_pos ⟨hs, hs⟩, PySem.SeqAt.eqv_refl d (SeqAt.canLay_of_shaped hs)]
    unfold gEqA
    rw [h3]
    cases d <;> first | rfl | skip
    simp [gEqS]
  simp [h1, h2]
end DL


/-! D layer, 14: texts as lists of signs. -/
namespace DL
open PySem PySem.Spec L2
/-- the text of these signs -/
def Z (l : List Nat) : Str := ⟨l.toArray⟩
theorem Z_of (z : Str) : ∃ l, z = Z l := ⟨z.cps.toList, by cases z; simp [Z]⟩
@[simp] theorem Z_list (l : List Nat) : (Z l).cps.toList = l := (rfl)
@[simp] theorem Z_len (l : List Nat) : (Z l).length = l.length := by simp [Z, Str.length]
@[simp] theorem Z_app (a b : List Nat) : Z a ++ Z b = Z (a ++ b) := TL.ext_tl (by rw [TL.tl_append]; rfl)
@[simp] theorem Z_inj (a b : List Nat) : Z a = Z b ↔ a = b := ⟨fun h => by have := congrArg (fun z : Str => z.cps.toList) h; simpa using this, fun h => by rw [h]⟩
theorem Z_string (s : String) : Str.ofString s = Z (s.toList.map Char.toNat) := TL.ext_tl (TL.tl_ofString s)
@[simp] theorem Z_empty : Str.empty = Z [] := (rfl)
theorem Z_mk (l : List Nat) : (⟨l.toArray⟩ : Str) = Z l := rfl
@[simp] theorem Z_one (c : Nat) : (⟨#[c]⟩ : Str) = Z [c] := (rfl)
@[simp] theorem Z_getD (l : List Nat) (c : Nat) : (Z (c :: l)).cps.getD 0 0 = c := by unfold Z; simp
/-- as data -/
def sD (l : List Nat) : D := .str (Z l)
theorem gAddA_str {a b : List Nat} (h : a.length + b.length ≤ 16777216) : gAddA (.str (Z a)) (.str (Z b)) = some (.str (Z (a ++ b))) := by
  show (if (Z a).length + (Z b).length ≤ sizeLine then some (PyData.str (Z a ++ Z b)) else none : Option D).or _ = _
  rw [Z_len, Z_len, if_pos (show _ ≤ sizeLine from h), Z_app]
  rfl
theorem gLen_Z {a : List Nat} (h : a.length ≤ 16777216) : gLen [.str (Z a)] = some (.int a.length) := by
  show (if (Z a).length ≤ sizeLine then some (PyData.int (Z a).length) else none) = _
  rw [Z_len, if_pos (show _ ≤ sizeLine from h)]
@[simp] theorem items_Z (l : List Nat) : itemsOf (.str (Z l)) = some (l.map fun c => .str (Z [c])) := (rfl)
@[simp] theorem gOrd_Z (c : Nat) : gOrd [.str (Z [c])] = some (.int c) := by
  show (if (Z [c]).length = 1 then some (PyData.int ((Z [c]).cps.getD 0 0 : Nat)) else none) = _
  rw [Z_len, if_pos (show [c].length = 1 from rfl), Z_getD]
@[simp] theorem gChr_Z {i : Int} (h : 0 ≤ i ∧ i ≤ 1114111) : gChr [.int i] = some (.str (Z [i.toNat])) := if_pos h
/-- a part of a list, places from 0 -/
theorem cutS_Z (l : List Nat) (lo hi : Option Int) : cutS (Z l) lo hi = Z ((l.drop (HT.sIx l.length 0 lo)).take (HT.sIx l.length l.length hi - HT.sIx l.length 0 lo)) := by
  unfold cutS
  rw [Z_len, Z_list]
  rfl
theorem cutS_from (l : List Nat) {i : Int} (h : 0 ≤ i) : cutS (Z l) (some i) none = Z (l.drop i.toNat) := by
  rw [cutS_Z, sIx_pos _ _ h, HT.sIx_none]
  congr 1
  by_cases hl : i.toNat ≤ l.length
  · rw [Nat.min_eq_left hl]
    exact List.take_of_length_le (by rw [List.length_drop]; exact Nat.le_refl _)
  · rw [Nat.min_eq_right (by omega), List.drop_length, List.drop_eq_nil_of_le (by omega)]
    simp
theorem cutS_to (l : List Nat) {i : Int} (h : 0 ≤ i) : cutS (Z l) none (some i) = Z (l.take i.toNat) := by
  rw [cutS_Z, sIx_pos _ _ h, HT.sIx_none, List.drop_zero, Nat.sub_zero]
  congr 1
  by_cases hl : i.toNat ≤ l.length
  · rw [Nat.min_eq_left hl]
  · rw [Nat.min_eq_right (by omega), List.take_length, List.take_of_length_le (by omega)]
theorem cutS_mid (l : List Nat) {i j : Int} (h : 0 ≤ i) (h2 : 0 ≤ j) : cutS (Z l) (some i) (some j) = Z ((l.drop i.toNat).take (j.toNat - i.toNat)) := by
  rw [cutS_Z, sIx_pos _ _ h, sIx_pos _ _ h2]
  congr 1
  by_cases h3 : i.toNat ≤ l.length
  · rw [Nat.min_eq_left h3]
    by_cases h4 : j.toNat ≤ l.length
    · rw [Nat.min_eq_left h4]
    · rw [Nat.min_eq_right (by omega), List.take_of_length_le (by rw [List.length_drop]; exact Nat.le_refl _), List.take_of_length_le (by rw [List.length_drop]; omega)]
  · rw [Nat.min_eq_right (show l.length ≤ i.toNat by omega), List.drop_length, List.drop_eq_nil_of_le (show l.length ≤ i.toNat by omega)]
    simp
theorem gSl_Z {l : List Nat} {lo hi : Option Int} {m : List Nat} (h : l.length ≤ 16777216) (e : cutS (Z l) lo hi = Z m) : gSl (.str (Z l)) lo hi = some (.str (Z m)) := by
  show (if (Z l).length ≤ sizeLine then some (PyData.str (cutS (Z l) lo hi)) else none) = _
  rw [Z_len, if_pos (show _ ≤ sizeLine from h), e]
theorem gSl_from {l : List Nat} {i : Int} (h : l.length ≤ 16777216) (h1 : 0 ≤ i) : gSl (.str (Z l)) (some i) none = some (.str (Z (l.drop i.toNat))) := gSl_Z h (cutS_from l h1)
theorem gSl_to {l : List Nat} {i : Int} (h : l.length ≤ 16777216) (h1 : 0 ≤ i) : gSl (.str (Z l)) none (some i) = some (.str (Z (l.take i.toNat))) := gSl_Z h (cutS_to l h1)
theorem gSl_mid {l : List Nat} {i j : Int} (h : l.length ≤ 16777216) (h1 : 0 ≤ i) (h2 : 0 ≤ j) : gSl (.str (Z l)) (some i) (some j) = some (.str (Z ((l.drop i.toNat).take (j.toNat - i.toNat)))) := gSl_Z h (cutS_mid l h1 h2)
theorem gIx_Z0 {c : Nat} {l : List Nat} (h : l.length < 16777216) : gIx (.str (Z (c :: l))) (.int 0) = some (.str (Z [c])) := by
  show (if (Z (c :: l)).length ≤ sizeLine then (L2.atI (Z (c :: l)).cps.toList 0).map (fun c => PyData.str ⟨#[c]⟩) else none) = _
  rw [Z_len, if_pos (by show (c :: l).length ≤ 16777216; rw [List.length_cons]; omega), Z_list]
  have e : L2.atI (c :: l) 0 = some c := atI_nat (j := 0) rfl
  rw [e]
  rfl
/-! orders of single signs -/
theorem lt_one (a b : Nat) : ([a] < [b]) ↔ a < b := by
  constructor
  · intro h
    cases h with
    | rel h => exact h
    | cons h => cases h
  · intro h
    exact List.Lex.rel h
@[simp] theorem gLe_Z (a b : Nat) : gLe (.str (Z [a])) (.str (Z [b])) = some (.bool (decide (a ≤ b))) := by
  show some (PyData.bool (!decide ([b] < [a]))) = _
  congr 2
  rw [decide_eq_decide.mpr (lt_one b a)]
  by_cases h : a ≤ b
  · rw [decide_eq_true h, decide_eq_false (by omega)]; rfl
  · rw [decide_eq_false h, decide_eq_true (by omega)]; rfl
@[simp] theorem gLt_Z (a b : Nat) : gLt (.str (Z [a])) (.str (Z [b])) = some (.bool (decide (a < b))) := by
  show some (PyData.bool (decide ([a] < [b]))) = _
  rw [decide_eq_decide.mpr (lt_one a b)]
@[simp] theorem gIn_Z (neg : Bool) (c : Nat) (l : List Nat) : gIn neg (.str (Z [c])) (.str (Z l)) = some (.bool (if neg = true then !decide (c ∈ l) else decide (c ∈ l))) := by
  have h1 : oneSign (Z [c]) = some c := by
    unfold oneSign
    rw [Z_len, if_pos (show [c].length = 1 from rfl), Z_getD]
  have h2 : gInS neg (.str (Z [c])) (.str (Z l)) = some (.bool (if neg = true then !decide (c ∈ l) else decide (c ∈ l))) := by
    simp only [gInS, hasSign, h1, Option.map_some, Z_list]
    try (cases neg <;> (simp only [if_true, if_false, Bool.false_eq_true]; congr))
  unfold gIn
  rw [h2]
  rfl
/-! the first part before a sign; a beginning; joined; the first place -/
theorem spl_head (s : Nat) : ∀ (l acc : List Nat), ∃ r, TL.spl [s] 0 acc l = (acc ++ l.takeWhile (· != s)) :: r
  | [], acc => ⟨[], by simp [TL.spl]⟩
  | c :: l, acc => by
    by_cases h : c = s
    · subst h
      refine ⟨TL.spl [c] 0 [] l, ?_⟩
      have hp : TL.pre [c] (c :: l) = true := by simp [TL.pre]
      rw [TL.spl_hit hp]
      simp
    · have hp : TL.pre [s] (c :: l) = false := by
        simp [TL.pre, h]
      obtain ⟨r, hr⟩ := spl_head s l (acc ++ [c])
      refine ⟨r, ?_⟩
      rw [TL.spl_miss hp, hr]
      have : (c != s) = true := by simp [h]
      simp [List.takeWhile_cons, this]
theorem split_first {l : List Nat} {s : Nat} (hs : s < 256) : ∃ r, PySem.Txt.split (Z l) (Z [s]) = Z (l.takeWhile (· != s)) :: r := by
  have h := TL.split_spl (Z l) (Z [s]) (by simp [TL.tl]) (TL.kind_ok (by rw [← Array.all_toList]; simp [hs]))
  obtain ⟨r, hr⟩ := spl_head s l []
  rw [List.nil_append] at hr
  have h : (PySem.Txt.split (Z l) (Z [s])).map TL.tl = (l.takeWhile (· != s)) :: r := h.trans hr
  cases e : PySem.Txt.split (Z l) (Z [s]) with
  | nil => rw [e] at h; simp at h
  | cons z rest =>
    rw [e] at h
    simp only [List.map_cons, List.cons.injEq] at h
    exact ⟨rest, by rw [show z = Z (l.takeWhile (· != s)) from TL.ext_tl h.1]⟩
theorem gSplit_first {l : List Nat} {s : Nat} (hs : s < 256) (h : l.length ≤ 16000000) : ∃ r, gSplit (Z l) [.str (Z [s])] = some (.list (.str (Z (l.takeWhile (· != s))) :: r)) := by
  obtain ⟨r, hr⟩ := split_first (l := l) hs
  refine ⟨r.map .str, ?_⟩
  show (if ((Z [s]).length == 0) = false ∧ (Z l).length + 2 ≤ sizeLine then some (PyData.list ((PySem.Txt.split (Z l) (Z [s])).map .str)) else none) = _
  rw [Z_len, Z_len, if_pos ⟨rfl, by show l.length + 2 ≤ 16777216; omega⟩, hr]
  rfl
theorem starts_Z (l p : List Nat) : PySem.Txt.startswith (Z l) (Z p) = (l.take p.length == p) := by
  unfold PySem.Txt.startswith
  rw [StrLaws.subAt_eq, Z_len, Z_len, Z_list, Z_list, List.drop_zero, Nat.zero_add]
  by_cases h : p.length ≤ l.length
  · rw [decide_eq_true h, Bool.true_and]
  · rw [decide_eq_false h, Bool.false_and]
    symm
    rw [beq_eq_false_iff_ne]
    intro e
    have := congrArg List.length e
    rw [List.length_take] at this
    omega
@[simp] theorem gStarts_Z (l p : List Nat) : gStarts (Z l) [.str (Z p)] = some (.bool (l.take p.length == p)) := by
  show some (PyData.bool (PySem.Txt.startswith (Z l) (Z p))) = _
  rw [starts_Z]
theorem joinL_nil : ∀ ls : List (List Nat), TL.joinL [] ls = ls.flatten
  | [] => rfl
  | [p] => by simp [TL.joinL]
  | p :: q :: r => by
    show p ++ ([] ++ TL.joinL [] (q :: r)) = _
    rw [joinL_nil (q :: r)]
    simp
theorem join_Z (ls : List (List Nat)) : PySem.Txt.join (Z []) (ls.map Z) = Z ls.flatten := by
  rw [TL.join_eq]
  refine TL.ext_tl ?_
  rw [TL.tl_join]
  have h1 : TL.tl (Z []) = [] := (rfl)
  have h2 : (ls.map Z).map TL.tl = ls := by
    rw [List.map_map]
    exact List.map_id'' (fun l => rfl) ls
  rw [h1, h2, joinL_nil]
  rfl
theorem gJoin_Z {ls : List (List Nat)} (h : ls.flatten.length ≤ 16777216) : gJoin (Z []) [.list (ls.map fun l => .str (Z l))] = some (.str (Z ls.flatten)) := by
  have e : (ls.map fun l => PyData.str (Z l)) = (ls.map Z).map .str := by simp
  show (strsD (ls.map fun l => PyData.str (Z l))).bind _ = _
  rw [e, strsD_map]
  show (if ((ls.map Z).map (·.length)).sum + (ls.map Z).length * (Z []).length ≤ 16777216 then some (PyData.str (PySem.Txt.join (Z []) (ls.map Z))) else none) = _
  have e2 : (ls.map Z).map (·.length) = ls.map List.length := by simp
  rw [if_pos, join_Z]
  rw [e2, Z_len]
  simpa [List.length_flatten] using h
theorem index0_Z {l : List Nat} {s : Nat} (h : s ∈ l) : PySem.Txt.index0 (Z l) (Z [s]) = some (l.takeWhile (· != s)).length := by
  unfold PySem.Txt.index0
  have at_iff : ∀ i, StrLaws.At (Z l) (Z [s]) (Z l).length i ↔ l[i]? = some s := fun i => StrLaws.subAt_one (Z l) s i
  have first : ∀ (l : List Nat), s ∈ l → l[(l.takeWhile (· != s)).length]? = some s ∧ ∀ k, k < (l.takeWhile (· != s)).length → l[k]? ≠ some s := by
    intro l
    induction l with
    | nil => intro h; simp at h
    | cons c r ih =>
      intro h
      by_cases hc : c = s
      · subst hc
        simp
      · have hcs : (c != s) = true := by simp [hc]
        have hr : s ∈ r := by
          rcases List.mem_cons.mp h with e | e
          · exact absurd e.symm hc
          · exact e
        obtain ⟨i1, i2⟩ := ih hr
        rw [List.takeWhile_cons, if_pos hcs, List.length_cons]
        refine ⟨by simpa using i1, fun k hk => ?_⟩
        cases k with
        | zero => simpa using hc
        | succ k => simpa using i2 k (by omega)
  obtain ⟨f1, f2⟩ := first l h
  rcases StrLaws.occ_head (Z l) (Z [s]) 1 (Nat.le_refl _) with ⟨_, hn⟩ | ⟨i, r, e, ha, hn⟩
  · exact absurd ((at_iff _).mpr f1) (hn _)
  · rw [e]
    show some i = _
    congr 1
    have hi := (at_iff i).mp ha
    rcases Nat.lt_trichotomy i (l.takeWhile (· != s)).length with hlt | heq | hgt
    · exact absurd hi (f2 i hlt)
    · exact heq
    · exact absurd ((at_iff _).mpr f1) (hn _ hgt)
theorem gIndex_Z {l : List Nat} {s : Nat} (h : s ∈ l) : gIndex (Z l) [.str (Z [s])] = some (.int (l.takeWhile (· != s)).length) := by
  show (PySem.Txt.index0 (Z l) (Z [s])).map _ = _
  rw [index0_Z h]
  rfl
/-! numbers as texts -/
theorem toString_Z (n : Nat) : Str.ofString (toString (n : Int)) = Z (TL.numL n) := TL.ext_tl (TL.tl_num n)
theorem log2_small {n : Nat} (h : n < 2 ^ 1000) : n.log2 < 1920 := by
  by_cases h0 : n = 0
  · subst h0; decide
  · have := (Nat.log2_lt h0).mpr h
    omega
theorem gStr_nat {n : Nat} (h : n < 2 ^ 1000) : gStr [.int n] = some (.str (Z (TL.numL n))) := by
  show (if (n : Int).natAbs.log2 < 1920 then some (PyData.str (Str.ofString (toString (n : Int)))) else none) = _
  rw [if_pos (by simpa using log2_small h), toString_Z]
theorem asText_nat {n : Nat} (h : n < 2 ^ 1000) : asText (.int n) = some (.str (Z (TL.numL n))) := gStr_nat h
theorem asText_Z {l : List Nat} (h : l.length ≤ 16777216) : asText (.str (Z l)) = some (.str (Z l)) := by
  show (if (Z l).length ≤ sizeLine then some (PyData.str (Z l)) else none) = _
  rw [Z_len, if_pos (show _ ≤ sizeLine from h)]
theorem gInt_digits {l : List Nat} (h : NumText.AllDigits l) (hn : l ≠ []) (hl : l.length ≤ 640) : gInt [.str (Z l)] = some (.int (NumText.digitsVal l)) := by
  show (if (Z l).length ≤ 640 then (intText? (Z l)).map PyData.int else none) = _
  rw [Z_len, if_pos hl, PySem.intText_digits (x := Z l) h hn (by rw [Z_len]; omega)]
  rfl
theorem strOk_Z (l : List Nat) : PyData.strOk (Z l) = l.all (· < 0x110000) := by
  unfold PyData.strOk
  rw [← Array.all_toList]
  rfl
theorem shaped_str {l : List Nat} (h : ∀ c ∈ l, c < 0x110000) : SeqAt.shaped (.str (Z l)) = true := by
  unfold SeqAt.shaped
  simp only [PyData.canLay0, PyData.depth, Bool.and_eq_true, strOk_Z, List.all_eq_true]
  exact ⟨fun c hc => by simpa using h c hc, rfl⟩
/-! comprehensions over a text; lists of bools; nothing found -/
theorem lcD_text {vs : List Nat} {γ : DenG} {τ : Den Bool} {φ : Den Rv} {ρ : Env} {f : Nat → Option D} {l : List Nat} (h : ∀ c ∈ l, ∃ ρ1, lcTurn γ τ φ (.str (Z [c])) ρ = .ok (f c) ρ1 ∧ wipeE ρ1 vs = ρ) : lcD vs γ τ φ (l.map fun c => .str (Z [c])) ρ = .ok (l.filterMap f) ρ := by
  induction l with
  | nil => rfl
  | cons c l ih =>
    obtain ⟨ρ1, h1, h2⟩ := h c List.mem_cons_self
    rw [List.map_cons, lcD_cons, h1, Ans.bind_ok, h2, ih fun e he => h e (List.mem_cons_of_mem _ he), Ans.bind_ok]
    congr 1
    cases e : f c <;> simp [e]
theorem gAll_bools (bs : List Bool) : gAll [.list (bs.map .bool)] = some (.bool (bs.all id)) := by
  unfold gAll
  show (boolsD (bs.map .bool)).map _ = _
  rw [boolsD_map]
  rfl
theorem gAny_bools (bs : List Bool) : gAny [.list (bs.map .bool)] = some (.bool (bs.any id)) := by
  unfold gAny
  show (boolsD (bs.map .bool)).map _ = _
  rw [boolsD_map]
  rfl
theorem canLayAll_of : ∀ {xs : List D}, (∀ d ∈ xs, d.canLay0 = true) → PyData.canLayAll0 xs = true
  | [], _ => rfl
  | d :: xs, h => by
    rw [PyData.canLayAll0, h d List.mem_cons_self, canLayAll_of fun e he => h e (List.mem_cons_of_mem _ he)]
    rfl
theorem depthAll_of {n : Nat} : ∀ {xs : List D}, (∀ d ∈ xs, d.depth ≤ n) → PyData.depthAll xs ≤ n
  | [], _ => Nat.zero_le _
  | d :: xs, h => by
    rw [PyData.depthAll]
    exact Nat.max_le.mpr ⟨h d List.mem_cons_self, depthAll_of fun e he => h e (List.mem_cons_of_mem _ he)⟩
/-- laid, of depth n at most -/
def Sh (n : Nat) (d : D) : Prop := d.canLay0 = true ∧ d.depth ≤ n
theorem Sh.mono {m n : Nat} {d : D} (h : Sh m d) (k : m ≤ n) : Sh n d := ⟨h.1, Nat.le_trans h.2 k⟩
theorem Sh.list {n : Nat} {xs : List D} (h : ∀ d ∈ xs, Sh n d) : Sh (n + 1) (.list xs) := by
  refine ⟨?_, ?_⟩
  · rw [PyData.canLay0]; exact canLayAll_of fun d hd => (h d hd).1
  · rw [PyData.depth]
    have := depthAll_of fun d hd => (h d hd).2
    omega
theorem Sh.tuple {n : Nat} {xs : List D} (h : ∀ d ∈ xs, Sh n d) : Sh (n + 1) (.tuple xs) := by
  refine ⟨?_, ?_⟩
  · rw [PyData.canLay0]; exact canLayAll_of fun d hd => (h d hd).1
  · rw [PyData.depth]
    have := depthAll_of fun d hd => (h d hd).2
    omega
theorem Sh.int (i : Int) : Sh 0 (.int i) := ⟨rfl, Nat.le_refl 0⟩
theorem Sh.bool (i : Bool) : Sh 0 (.bool i) := ⟨rfl, Nat.le_refl 0⟩
theorem Sh.none : Sh 0 .none := ⟨rfl, Nat.le_refl 0⟩
theorem Sh.str {l : List Nat} (h : ∀ c ∈ l, c < 0x110000) : Sh 0 (.str (Z l)) := by
  refine ⟨?_, Nat.le_refl 0⟩
  rw [PyData.canLay0, strOk_Z, List.all_eq_true]
  exact fun c hc => by simpa using h c hc
theorem Sh.shaped {n : Nat} {d : D} (h : Sh n d) (k : n ≤ 64) : SeqAt.shaped d = true := by
  unfold SeqAt.shaped
  rw [h.1, decide_eq_true (Nat.le_trans h.2 k)]
  rfl
theorem gNeA_nil {n : Nat} {xs : List D} (h : Sh n (.list xs)) (k : n ≤ 64) : gNeA (.list xs) (.list []) = some (.bool (!xs.isEmpty)) := by
  have e : gNe (.list xs) (.list []) = some (.bool (!xs.isEmpty)) := by
    unfold gNe
    rw [if_pos ⟨h.shaped k, (Sh.list (n := 0) (by simp)).shaped (by decide)⟩]
    cases xs <;> simp [PyData.eqv, PyData.eqvAll]
  exact e
theorem oAppend_ok {ds : List D} {d : D} (h : ds.length < 16777216) : oAppend ds [d] = some (ds ++ [d], .none) := if_pos h
/-! texts that are short and stand -/
def TxtOk (n : Nat) (l : List Nat) : Prop := l.length ≤ n ∧ ∀ c ∈ l, c < 0x110000
theorem TxtOk.mono {m n : Nat} {l : List Nat} (h : TxtOk m l) (k : m ≤ n) : TxtOk n l := ⟨Nat.le_trans h.1 k, h.2⟩
theorem TxtOk.app {m n : Nat} {a b : List Nat} (h : TxtOk m a) (k : TxtOk n b) : TxtOk (m + n) (a ++ b) := by
  refine ⟨by rw [List.length_append]; have := h.1; have := k.1; omega, fun c hc => ?_⟩
  rcases List.mem_append.mp hc with e | e
  · exact h.2 c e
  · exact k.2 c e
theorem TxtOk.take {n : Nat} {l : List Nat} (h : TxtOk n l) (k : Nat) : TxtOk n (l.take k) := ⟨by rw [List.length_take]; have := h.1; omega, fun c hc => h.2 c (List.mem_of_mem_take hc)⟩
theorem TxtOk.drop {n : Nat} {l : List Nat} (h : TxtOk n l) (k : Nat) : TxtOk n (l.drop k) := ⟨by rw [List.length_drop]; have := h.1; omega, fun c hc => h.2 c (List.mem_of_mem_drop hc)⟩
theorem TxtOk.lit (s : String) : ∃ l, Str.ofString s = Z l ∧ TxtOk s.toList.length l ∧ l.length = s.toList.length := by
  refine ⟨s.toList.map Char.toNat, Z_string s, ⟨by simp, fun c hc => ?_⟩, by simp⟩
  obtain ⟨ch, _, rfl⟩ := List.mem_map.mp hc
  rcases ch.valid with h | h
  · exact Nat.lt_trans h (by decide)
  · exact h.2
theorem choose_all {β : Type} {f : β → D} {Q : β → Prop} : ∀ {xs : List D}, (∀ x ∈ xs, ∃ b, x = f b ∧ Q b) → ∃ bs : List β, xs = bs.map f ∧ ∀ b ∈ bs, Q b
  | [], _ => ⟨[], rfl, by simp⟩
  | x :: xs, h => by
    obtain ⟨b, hb, q⟩ := h x List.mem_cons_self
    obtain ⟨bs, e, qs⟩ := choose_all fun y hy => h y (List.mem_cons_of_mem _ hy)
    refine ⟨b :: bs, by rw [hb, e, List.map_cons], fun c hc => ?_⟩
    rcases List.mem_cons.mp hc with e | e
    · rw [e]; exact q
    · exact qs c e
theorem gRange1_ok {j : Int} (h : -(2 ^ 62) ≤ j ∧ j < 2 ^ 62) : gRange1 [.int j] = some (rangeL 0 j.toNat) := if_pos h
theorem gRange2_ok {i j : Int} (h : -(2 ^ 62) ≤ i ∧ i < 2 ^ 62 ∧ -(2 ^ 62) ≤ j ∧ j < 2 ^ 62) : gRange2 [.int i, .int j] = some (rangeL i (j - i).toNat) := if_pos h
theorem rangeL_len (i : Int) (n : Nat) : (rangeL i n).length = n := by simp [rangeL]
theorem gList_Z {l : List Nat} (h : l.length ≤ 16777216) : gList [.str (Z l)] = some (.list (l.map fun c => .str (Z [c]))) := by
  show (if (Z l).length ≤ sizeLine then some (PyData.list ((Z l).cps.toList.map fun c => .str ⟨#[c]⟩)) else none) = _
  rw [Z_len, if_pos (show _ ≤ sizeLine from h)]
  rfl
end DL


set_option exponentiation.threshold 2000
/-! D layer, 15: data that may be shown and compared. -/
namespace DL
open PySem PySem.Spec L2
/-- laid, of depth n and weight w at most, its ints short -/
structure Nc (n w : Nat) (d : D) : Prop where
  sh : Sh n d
  wt : d.weight ≤ w
  short : d.intsShort 13 = true
  show' : d.showable = true
theorem Nc.mono {m n v w : Nat} {d : D} (h : Nc m v d) (h1 : m ≤ n) (h2 : v ≤ w) : Nc n w d := ⟨h.sh.mono h1, Nat.le_trans h.wt h2, h.short, h.show'⟩
theorem Nc.str {n : Nat} {l : List Nat} (h : TxtOk n l) : Nc 0 n (.str (Z l)) := ⟨Sh.str h.2, by
  show (Z l).cps.size ≤ n
  have := h.1
  rw [← Z_len l] at this
  exact this, rfl, rfl⟩
theorem Nc.nat {n : Nat} (h : n < 1000000000000) : Nc 0 41 (.int (n : Int)) := by
  refine ⟨Sh.int _, ?_, ?_, ?_⟩
  · show (if (n : Int) == 0 then 0 else (n : Int).natAbs.log2 + 1) ≤ 41
    split
    · omega
    · rename_i h0
      have h0 : n ≠ 0 := by simpa using h0
      have := (Nat.log2_lt h0 (k := 40)).mpr (by omega)
      rw [Int.natAbs_natCast]
      omega
  · have e : (PyData.int (n : Int)).shown = Z (TL.numL n) := toString_Z n
    show decide ((PyData.int (n : Int)).shown.length ≤ 13) = true
    rw [e, Z_len]
    exact decide_eq_true (Nat.le_trans (TL.numL_len (k := 12) (by decide) (by omega)) (by decide))
  · show decide ((n : Int).natAbs.log2 < 1920) = true
    rw [Int.natAbs_natCast]
    exact decide_eq_true (log2_small (Nat.lt_trans h (Nat.lt_of_lt_of_le (show 1000000000000 < 2 ^ 40 by decide) (Nat.pow_le_pow_right (by decide) (by decide)))))
theorem Nc.none : Nc 0 0 .none := ⟨Sh.none, Nat.le_refl 0, rfl, rfl⟩
theorem Nc.bool (b : Bool) : Nc 0 0 (.bool b) := ⟨Sh.bool b, Nat.le_refl 0, rfl, rfl⟩
theorem weightAll_of {w : Nat} : ∀ {xs : List D}, (∀ d ∈ xs, d.weight ≤ w) → PyData.weightAll xs ≤ xs.length * (w + 1)
  | [], _ => Nat.zero_le _
  | d :: xs, h => by
    rw [PyData.weightAll, List.length_cons, Nat.succ_mul]
    have := h d List.mem_cons_self
    have := weightAll_of fun e he => h e (List.mem_cons_of_mem _ he)
    omega
theorem showableAll_of : ∀ {xs : List D}, (∀ d ∈ xs, d.showable = true) → PyData.showableAll xs = true
  | [], _ => rfl
  | d :: xs, h => by
    rw [PyData.showableAll, h d List.mem_cons_self, showableAll_of fun e he => h e (List.mem_cons_of_mem _ he)]
    rfl
theorem Nc.list {n w k : Nat} {xs : List D} (h : ∀ d ∈ xs, Nc n w d) (hk : xs.length ≤ k) : Nc (n + 1) (k * (w + 1)) (.list xs) := by
  refine ⟨Sh.list fun d hd => (h d hd).sh, ?_, ?_, ?_⟩
  · rw [PyData.weight]
    exact Nat.le_trans (weightAll_of fun d hd => (h d hd).wt) (Nat.mul_le_mul_right _ hk)
  · rw [PyData.intsShort]; exact PySem.Spec.intsShortAll_of fun d hd => (h d hd).short
  · rw [PyData.showable]; exact showableAll_of fun d hd => (h d hd).show'
theorem Nc.tuple {n w k : Nat} {xs : List D} (h : ∀ d ∈ xs, Nc n w d) (hk : xs.length ≤ k) : Nc (n + 1) (k * (w + 1)) (.tuple xs) := by
  refine ⟨Sh.tuple fun d hd => (h d hd).sh, ?_, ?_, ?_⟩
  · rw [PyData.weight]
    exact Nat.le_trans (weightAll_of fun d hd => (h d hd).wt) (Nat.mul_le_mul_right _ hk)
  · rw [PyData.intsShort]; exact PySem.Spec.intsShortAll_of fun d hd => (h d hd).short
  · rw [PyData.showable]; exact showableAll_of fun d hd => (h d hd).show'
theorem Nc.list1 {n w : Nat} {a : D} (h : Nc n w a) : Nc (n + 1) (w + 1) (.list [a]) := by
  have := Nc.list (k := 1) (xs := [a]) (fun d hd => by rw [List.mem_singleton.mp hd]; exact h) (by simp)
  rwa [Nat.one_mul] at this
/-- repr and == of one thing twice -/
theorem alike_nc {n w : Nat} {d : D} (h : Nc n w d) (hn : n ≤ 64) (hw : w ≤ 1048576) : alikeD [some (.dat d), some (.dat d)] = .ret (.dat (.bool true)) [none, none] := by
  have lay : PyData.layable0 d = true := by
    unfold PyData.layable0
    rw [h.sh.1, decide_eq_true (Nat.le_trans h.sh.2 hn), decide_eq_true (Nat.le_trans h.wt hw)]
    rfl
  refine alike_ok (h.sh.shaped hn) h.show' (Nat.le_trans (PyProof.Rows.shown_le13 lay h.short) ?_)
  decide
/-! a comprehension over a list of things of one sort -/
theorem lcD_gen {β : Type} {vs : List Nat} {γ : DenG} {τ : Den Bool} {φ : Den Rv} {ρ : Env} {g f : β → D} {bs : List β} (h : ∀ b ∈ bs, ∃ ρ1, lcTurn γ τ φ (g b) ρ = .ok (some (f b)) ρ1 ∧ wipeE ρ1 vs = ρ) : lcD vs γ τ φ (bs.map g) ρ = .ok (bs.map f) ρ := by
  induction bs with
  | nil => rfl
  | cons b bs ih =>
    obtain ⟨ρ1, h1, h2⟩ := h b List.mem_cons_self
    rw [List.map_cons, lcD_cons, h1, Ans.bind_ok, h2, ih fun e he => h e (List.mem_cons_of_mem _ he), Ans.bind_ok]
    rfl
theorem gRep_two (d : D) : gRep (.list [d]) (.int 2) = some (.list [d, d]) := by
  have h : -(2 ^ 63) ≤ (2 : Int) ∧ (2 : Int) < 2 ^ 63 ∧ [d].length * (2 : Int).toNat ≤ sizeLine := ⟨by decide, by decide, by show 1 * 2 ≤ 16777216; decide⟩
  simp only [gRep]
  rw [if_pos h]
  rfl
theorem gMulA_two (d : D) : gMulA (.list [d]) (.int 2) = some (.list [d, d]) := by
  unfold gMulA
  rw [gRep_two]
  rfl
/-- a name that may be stored into: nothing yet, or data -/
def Cl (x : Option Cell) : Prop := x = none ∨ ∃ d, x = some (.dat d)
theorem Cl.none : Cl Option.none := .inl rfl
theorem Cl.dat (d : D) : Cl (some (.dat d)) := .inr ⟨d, rfl⟩
theorem Cl.cs {x : Option Cell} (h : Cl x) : csC (some x) = true := by
  rcases h with rfl | ⟨d, rfl⟩ <;> simp
end DL


/-! D layer, 16: isinstance, flat membership. -/
namespace DL
open PySem PySem.Spec L2
/-! ### isinstance(e, T) -/
def tyN : D → String
  | .none => "NoneType"
  | .bool _ => "bool"
  | .int _ => "int"
  | .str _ => "str"
  | .list _ => "list"
  | .tuple _ => "tuple"
  | .dict _ => "dict"
def isiD (T : String) (d : D) : Bool := tyN d == T || (T == "int" && tyN d == "bool")
def KitOk (T : String) : Prop := ∀ d : D, kitB (tyN d) T = some (isiD T d)
theorem kit_int : KitOk "int" := fun d => by cases d <;> (simp only [tyN, isiD]; decide +kernel)
theorem kit_bool : KitOk "bool" := fun d => by cases d <;> (simp only [tyN, isiD]; decide +kernel)
theorem kit_str : KitOk "str" := fun d => by cases d <;> (simp only [tyN, isiD]; decide +kernel)
theorem kit_list : KitOk "list" := fun d => by cases d <;> (simp only [tyN, isiD]; decide +kernel)
theorem kit_tuple : KitOk "tuple" := fun d => by cases d <;> (simp only [tyN, isiD]; decide +kernel)
theorem kit_dict : KitOk "dict" := fun d => by cases d <;> (simp only [tyN, isiD]; decide +kernel)
def xIsi (T : String) (φ : Den Rv) : Den Rv := fun ρ => (φ ρ).bind fun r ρ1 => (ofO (look ρ1 r) ρ1).bind fun d ρ2 => .ok (.dat (.bool (isiD T d))) ρ2
@[simp] theorem ev_isi (T : String) (φ : Den Rv) (ρ : Env) : xIsi T φ ρ = (φ ρ).bind fun r ρ1 => (ofO (look ρ1 r) ρ1).bind fun d ρ2 => .ok (.dat (.bool (isiD T d))) ρ2 := (rfl)
theorem tyX_of {K : PySem.W.Frag} {H : Hp} {v : V} {d : D} (h : Dr K H v d) : TyX K H v (.type (tyN d)) := by
  cases h with
  | non => exact .base .non
  | bl b => exact .base (.bl b)
  | int i => exact .base (.int i)
  | str x => exact .base (.str x)
  | lst q r =>
    rcases q with (e | ⟨o, e⟩) | ⟨o, its, n, hk, hc, _⟩
    · exact .base (.lst e)
    · exact .base (.frz e)
    · exact .kList hk hc
  | tup q r =>
    rcases q with (e | ⟨o, e⟩) | ⟨o, its, n, hk, hc, _⟩
    · exact .base (.tup e)
    · exact .fTuple e
    · exact .kTuple hk hc
  | dic q r =>
    rcases q with e | ⟨o, e⟩
    · exact .base (.dK e)
    · exact .fDict e
section
variable {X : Cx} {W : WX} {e : Expr} {p p2 pos : Pos} {φ : Den Rv}
theorem de_isi {T : String} {x : Str} (he : DE X W e φ) (hg : Gl X "isinstance") (hm : X.mg "isinstance" = none) (hgT : Gl X x) (hmT : X.mg x = none) (hbT : bootBuiltins x = some (.type T)) (hk : KitOk T) (hx : x ≠ "__name__" := by decide) (hx2 : (x == ("__debug__" : Str)) = false := by decide)
    (he1 : starEach [e, .Name x p2] X.env = (false, eval e X.env) :: starEach [.Name x p2] X.env := by rfl) (he2 : starEach [.Name x p2] X.env = (false, eval (.Name x p2) X.env) :: starEach [] X.env := by rfl) (hpl : (backTo pos (starEach [.Name x p2] X.env)).any (·.1) = false := by rfl) :
    DE X W (.Call (.Name "isinstance" p) [e, .Name x p2] [] pos) (xIsi T φ) := by
  refine pe_imp (pe_callB call_isi hg hm b_isinstance (pa_cons he (pa_cons (pe_bltn (v := .ty T) hgT hmT hbT rfl hx hx2) pa_nil he2) he1) (by decide) (by decide) he1 hpl) fun σ H Q h => ?_
  obtain ⟨B, F, ρ, S, w⟩ := h
  refine ⟨B, F, ρ, S, wp_mono (wp_bind w) (fun r ρ1 w1 F1 v H1 s1 S1 q1 => ?_) fun _ _ z => z⟩
  obtain ⟨d, e1, w2⟩ := wp_ofO (wp_bind w1)
  exact ⟨v, .ty T, .type (tyN d), .type T, _, rfl, .ty T, tyX_of (S1.look q1 e1), kit_ty (hk d), w2 F1 _ H1 s1 S1 (.bl _)⟩
end
/-! ### x in a list or a tuple of flat things -/
def flatD : D → Bool
  | .none => true
  | .bool _ => true
  | .int _ => true
  | .str _ => true
  | _ => false
def itemsLT : D → Option (List D)
  | .list ds => some ds
  | .tuple ds => some ds
  | _ => none
def gInF (neg : Bool) (a b : D) : Option D := (itemsLT b).bind fun ds => if flatD a = true ∧ ds.all flatD = true then some (.bool (if neg = true then !(ds.any fun z => PyData.eqv z a) else ds.any fun z => PyData.eqv z a)) else none
theorem flat_of {K : PySem.W.Frag} {H : Hp} {v : V} {d : D} (h : Dr K H v d) (f : flatD d = true) : flatV v = true := by
  cases h with
  | lst _ _ => exact absurd f Bool.false_ne_true
  | tup _ _ => exact absurd f Bool.false_ne_true
  | dic _ _ => exact absurd f Bool.false_ne_true
  | _ => rfl
theorem flats_of {K : PySem.W.Frag} {H : Hp} : ∀ {vs : List V} {ds : List D}, DrAll K H vs ds → ds.all flatD = true → vs.all flatV = true
  | _, _, .nil, _ => rfl
  | _, _, .cons a t, f => by
    simp only [List.all_cons, Bool.and_eq_true] at f ⊢
    exact ⟨flat_of a f.1, flats_of t f.2⟩
theorem eqV_of {K : PySem.W.Frag} {H : Hp} {v u : V} {d e : D} (h : Dr K H v d) (k : Dr K H u e) (f : flatD d = true) (g : flatD e = true) : eqV v u = PyData.eqv d e := by
  cases h with
  | lst _ _ => exact absurd f Bool.false_ne_true
  | tup _ _ => exact absurd f Bool.false_ne_true
  | dic _ _ => exact absurd f Bool.false_ne_true
  | _ =>
    cases k with
    | lst _ _ => exact absurd g Bool.false_ne_true
    | tup _ _ => exact absurd g Bool.false_ne_true
    | dic _ _ => exact absurd g Bool.false_ne_true
    | _ => first | rfl | simp only [eqV, PyData.eqv]
theorem inV_of {K : PySem.W.Frag} {H : Hp} {v : V} {d : D} (h : Dr K H v d) (f : flatD d = true) : ∀ {vs : List V} {ds : List D}, DrAll K H vs ds → ds.all flatD = true → inV v vs = ds.any fun z => PyData.eqv z d
  | _, _, .nil, _ => rfl
  | _, _, .cons a t, g => by
    simp only [List.all_cons, Bool.and_eq_true] at g
    show (eqV _ v || inV v _) = (PyData.eqv _ d || _)
    rw [eqV_of a h g.1 f, inV_of h f t g.2]
section
variable {X : Cx} {K : PySem.W.Frag}
theorem s2_inF {neg : Bool} : S2 K (rIn K neg) (gInF neg) := by
  intro B F ρ σ H x y a b da db dz Q S ra rb ea eb e q
  obtain ⟨ds, e1, e2⟩ := Option.bind_eq_some_iff.mp e
  obtain ⟨hc, e3⟩ := if_some e2
  subst e3
  have hx := S.look ra ea
  have fin : ∀ {vs : List V}, DrAll K H vs ds → flatV x = true ∧ vs.all flatV = true ∧ (if neg = true then !inV x vs else inV x vs) = (if neg = true then !(ds.any fun z => PyData.eqv z da) else ds.any fun z => PyData.eqv z da) := fun {vs} r => ⟨flat_of hx hc.1, flats_of r hc.2, by rw [inV_of hx hc.1 r hc.2]⟩
  have hy := S.look rb eb
  cases db <;> simp only [itemsLT, reduceCtorEq, Option.some.injEq] at e1
  · subst e1
    cases hy with
    | lst h1 h2 =>
      obtain ⟨f1, f2, f3⟩ := fin h2
      exact ⟨_, _, rfl, .inl h1, f1, f2, by rw [f3]; exact q F _ H (Same.refl F) S (.bl _)⟩
  · subst e1
    cases hy with
    | tup h1 h2 =>
      obtain ⟨f1, f2, f3⟩ := fin h2
      exact ⟨_, _, rfl, .inr h1, f1, f2, by rw [f3]; exact q F _ H (Same.refl F) S (.bl _)⟩
/-- sign in text; flat in list or tuple; deep in list -/
def gInA (neg : Bool) (a b : D) : Option D := (gInS neg a b).or ((gInF neg a b).or (gInL neg a b))
def rInB (K : PySem.W.Frag) : R2 := fun x y H Q => (∃ (c : Nat) (z : Str), x = .str ⟨#[c]⟩ ∧ y = .str z ∧ Q (.bl (decide (c ∈ z.cps.toList))) H) ∨ (rIn K false x y H Q ∨ rInD K x y H Q)
def rNotInB (K : PySem.W.Frag) : R2 := fun x y H Q => (∃ (c : Nat) (z : Str), x = .str ⟨#[c]⟩ ∧ y = .str z ∧ Q (.bl (!decide (c ∈ z.cps.toList))) H) ∨ (rIn K true x y H Q ∨ rNotInD K x y H Q)
theorem op_inB {k : Nat} (r : Room k X.A) : OpR X (compareOp .In) (rInB X.K) := OpR.or op_in_sign (OpR.or op_in_seq (op_inD (by have := r.un; omega)))
theorem op_notInB {k : Nat} (r : Room k X.A) : OpR X (compareOp .NotIn) (rNotInB X.K) := OpR.or op_notIn_sign (OpR.or op_notIn_seq (op_notInD (by have := r.un; omega)))
theorem s2_inB : S2 K (rInB K) (gInA false) := S2.or s2_inS (S2.or s2_inF s2_inL)
theorem s2_notInB : S2 K (rNotInB K) (gInA true) := S2.or s2_notInS (S2.or s2_inF s2_notInL)
/-! ### max, min of a list of ints -/
def maxI : List Int → Option Int
  | [] => none
  | x :: r => some (r.foldl (fun a b => if a < b then b else a) x)
def minI : List Int → Option Int
  | [] => none
  | x :: r => some (r.foldl (fun a b => if b < a then b else a) x)
theorem fold_max : ∀ (r : List Int) (x : Int), (r.foldl (fun a b => if a < b then b else a) x = x ∨ r.foldl (fun a b => if a < b then b else a) x ∈ r) ∧ x ≤ r.foldl (fun a b => if a < b then b else a) x ∧ ∀ y ∈ r, y ≤ r.foldl (fun a b => if a < b then b else a) x
  | [], x => ⟨.inl rfl, Int.le_refl x, by simp⟩
  | z :: r, x => by
    rw [List.foldl_cons]
    by_cases h : x < z
    · rw [if_pos h]
      obtain ⟨h1, h2, h3⟩ := fold_max r z
      refine ⟨.inr ?_, by omega, fun y hy => ?_⟩
      · rcases h1 with e | e
        · rw [e]; exact List.mem_cons_self
        · exact List.mem_cons_of_mem _ e
      · rcases List.mem_cons.mp hy with e | e
        · rw [e]; exact h2
        · exact h3 y e
    · rw [if_neg h]
      obtain ⟨h1, h2, h3⟩ := fold_max r x
      refine ⟨h1.imp id fun e => List.mem_cons_of_mem _ e, h2, fun y hy => ?_⟩
      rcases List.mem_cons.mp hy with e | e
      · rw [e]; omega
      · exact h3 y e
theorem fold_min : ∀ (r : List Int) (x : Int), (r.foldl (fun a b => if b < a then b else a) x = x ∨ r.foldl (fun a b => if b < a then b else a) x ∈ r) ∧ r.foldl (fun a b => if b < a then b else a) x ≤ x ∧ ∀ y ∈ r, r.foldl (fun a b => if b < a then b else a) x ≤ y
  | [], x => ⟨.inl rfl, Int.le_refl x, by simp⟩
  | z :: r, x => by
    rw [List.foldl_cons]
    by_cases h : z < x
    · rw [if_pos h]
      obtain ⟨h1, h2, h3⟩ := fold_min r z
      refine ⟨.inr ?_, by omega, fun y hy => ?_⟩
      · rcases h1 with e | e
        · rw [e]; exact List.mem_cons_self
        · exact List.mem_cons_of_mem _ e
      · rcases List.mem_cons.mp hy with e | e
        · rw [e]; exact h2
        · exact h3 y e
    · rw [if_neg h]
      obtain ⟨h1, h2, h3⟩ := fold_min r x
      refine ⟨h1.imp id fun e => List.mem_cons_of_mem _ e, h2, fun y hy => ?_⟩
      rcases List.mem_cons.mp hy with e | e
      · rw [e]; omega
      · exact h3 y e
theorem maxI_spec {ns : List Int} {m : Int} (h : maxI ns = some m) : m ∈ ns ∧ ∀ y ∈ ns, y ≤ m := by
  cases ns with
  | nil => cases h
  | cons x r =>
    have h := Option.some.inj h
    obtain ⟨h1, h2, h3⟩ := fold_max r x
    subst h
    refine ⟨?_, fun y hy => ?_⟩
    · rcases h1 with e | e
      · rw [e]; exact List.mem_cons_self
      · exact List.mem_cons_of_mem _ e
    · rcases List.mem_cons.mp hy with e | e
      · rw [e]; exact h2
      · exact h3 y e
theorem minI_spec {ns : List Int} {m : Int} (h : minI ns = some m) : m ∈ ns ∧ ∀ y ∈ ns, m ≤ y := by
  cases ns with
  | nil => cases h
  | cons x r =>
    have h := Option.some.inj h
    obtain ⟨h1, h2, h3⟩ := fold_min r x
    subst h
    refine ⟨?_, fun y hy => ?_⟩
    · rcases h1 with e | e
      · rw [e]; exact List.mem_cons_self
      · exact List.mem_cons_of_mem _ e
    · rcases List.mem_cons.mp hy with e | e
      · rw [e]; exact h2
      · exact h3 y e
def gMax (as : List D) : Option D := (lstOf as).bind fun ds => (intsD ds).bind fun ns => (maxI ns).map .int
def gMin (as : List D) : Option D := (lstOf as).bind fun ds => (intsD ds).bind fun ns => (minI ns).map .int
theorem s1_max : S1 K (rMax K) (lk gMax) := by
  refine s1_one (fun B F ρ σ H v a d dz Q S q e e2 k => ?_) fun ds dz e => ?_
  · obtain ⟨xs, e3, e4⟩ := Option.bind_eq_some_iff.mp e2
    obtain ⟨ns, e5, e6⟩ := Option.bind_eq_some_iff.mp e4
    obtain ⟨m, e7, e8⟩ := Option.map_eq_some_iff.mp e6
    cases lstOf_eq e3
    subst e8
    obtain ⟨p, vs, rfl, h1, h2⟩ := S.items q e
    rw [intsD_eq e5] at h2
    cases h2.of_ints
    obtain ⟨m1, m2⟩ := maxI_spec e7
    refine ⟨p, ns, rfl, h1, List.length_pos_of_mem m1, fun y hy hall => ?_⟩
    have : y = m := by have a1 := m2 y hy; have a2 := hall m m1; omega
    rw [this]
    exact k F _ H (Same.refl F) S (.int _)
  · obtain ⟨xs, e3, _⟩ := Option.bind_eq_some_iff.mp e
    exact ⟨_, lstOf_eq e3⟩
theorem s1_min : S1 K (rMin K) (lk gMin) := by
  refine s1_one (fun B F ρ σ H v a d dz Q S q e e2 k => ?_) fun ds dz e => ?_
  · obtain ⟨xs, e3, e4⟩ := Option.bind_eq_some_iff.mp e2
    obtain ⟨ns, e5, e6⟩ := Option.bind_eq_some_iff.mp e4
    obtain ⟨m, e7, e8⟩ := Option.map_eq_some_iff.mp e6
    cases lstOf_eq e3
    subst e8
    obtain ⟨p, vs, rfl, h1, h2⟩ := S.items q e
    rw [intsD_eq e5] at h2
    cases h2.of_ints
    obtain ⟨m1, m2⟩ := minI_spec e7
    refine ⟨p, ns, rfl, h1, List.length_pos_of_mem m1, fun y hy hall => ?_⟩
    have : y = m := by have a1 := m2 y hy; have a2 := hall m m1; omega
    rw [this]
    exact k F _ H (Same.refl F) S (.int _)
  · obtain ⟨xs, e3, _⟩ := Option.bind_eq_some_iff.mp e
    exact ⟨_, lstOf_eq e3⟩
end
end DL


/-! D layer, 17: range(a, b, -1), dict comprehensions. -/
namespace DL
open PySem PySem.Spec L2
/-! ### range downwards -/
def downL (lo : Int) (n : Nat) : List D := (List.range n).map fun (i : Nat) => PyData.int (lo - (i : Int))
def gRange3 : List D → Option (List D)
  | [.int i, .int j, .int c] => if c = -1 ∧ -(2 ^ 62) ≤ i ∧ i < 2 ^ 62 ∧ -(2 ^ 62) ≤ j ∧ j < 2 ^ 62 then some (downL i (i - j).toNat) else none
  | _ => none
theorem itcDown_ok {K : PySem.W.Frag} {F : Hp} {lo : Int} {n : Nat} : ItOk K F (Itc lo (-1) n) (downL lo n) := by
  refine ⟨fun i d B F1 ρ σ H s1 S e => ?_, fun H f => ?_⟩
  · unfold downL at e
    rw [List.getElem?_map] at e
    obtain ⟨j, h1, h2⟩ := Option.map_eq_some_iff.mp e
    have hi : i < n := by
      have := (List.getElem?_eq_some_iff.mp h1).1
      simpa using this
    have hj : j = i := by
      rw [List.getElem?_range hi] at h1
      exact (Option.some.inj h1).symm
    subst hj
    refine ⟨hi, fun x H' y => ?_⟩
    obtain ⟨rfl, rfl⟩ := y
    subst h2
    have e : lo + (j : Int) * (-1) = lo - j := by omega
    rw [e]
    exact ⟨F1, Same.refl F1, S, .int _⟩
  · show n ≤ (downL lo n).length
    unfold downL
    simp
theorem looks_three {ρ : Env} {rs : List Rv} {d d' d'' : D} (h : looks ρ rs = some [d, d', d'']) : ∃ r r' r'', rs = [r, r', r''] ∧ look ρ r = some d ∧ look ρ r' = some d' ∧ look ρ r'' = some d'' := by
  cases rs with
  | nil => cases h
  | cons r rs =>
    obtain ⟨d', ds, e1, e2, e3⟩ := looks_cons h
    cases e1
    obtain ⟨r', r'', rfl, e4, e5⟩ := looks_two e3
    exact ⟨r, r', r'', rfl, e2, e4, e5⟩
section
variable {X : Cx} {W : WX} {tg : Expr}
theorem di_range3 {a b c : Expr} {p pos : Pos} {φ : Den (List Rv)} (hg : Gl X "range") (hm : X.mg "range" = none) (ha : DA X W [a, b, c] φ)
    (hs : starEach [a, b, c] X.env = (false, eval a X.env) :: starEach [b, c] X.env := by rfl) (hpl : (backTo pos (starEach [b, c] X.env)).any (·.1) = false := by rfl) :
    DI X W tg (.Call (.Name "range" p) [a, b, c] [] pos) (xRng gRange3 φ) := by
  refine pi_imp (pi_range3 hg hm ha hs hpl) fun σ H R hq => ?_
  obtain ⟨B, F, ρ, S, w⟩ := hq
  refine ⟨B, F, ρ, S, wp_mono (wp_bind w) (fun rs ρ1 w1 F1 vs H1 s1 S1 q1 => ?_) fun _ _ z => z⟩
  obtain ⟨ds, e1, w2⟩ := wp_ofO w1
  obtain ⟨as, e2, e3⟩ := Option.bind_eq_some_iff.mp e1
  unfold gRange3 at e3
  split at e3
  · rename_i i j c
    obtain ⟨hz, e9⟩ := if_some e3
    obtain ⟨r, r', r'', rfl, e4, e5, e6⟩ := looks_three e2
    obtain ⟨rfl, h1, h2, h3, h4⟩ := hz
    cases q1 with
    | cons q1 t =>
      cases t with
      | cons q2 t =>
        cases t with
        | cons q3 t =>
          cases t
          rw [S1.int q1 e4, S1.int q2 e5, S1.int q3 e6]
          subst e9
          exact ⟨i, j, -1, _, rfl, RgC.neg h1 h2 h3 h4, w2 F1 _ H1 s1 S1 itcDown_ok⟩
  · cases e3
end
/-! ### dicts as data: a key put -/
def keqD : Key → D → Bool
  | .inl i, .int j => decide (j = i)
  | .inr x, .str y => decide (y = x)
  | _, _ => false
theorem keqD_key (k k' : Key) : keqD k (keyD k') = decide (k' = k) := by
  cases k <;> cases k' <;> simp [keqD, keyD]
def putD (es : List (D × D)) (k : Key) (d : D) : List (D × D) :=
  if (es.any fun e => keqD k e.1) = true then es.map (fun e => if keqD k e.1 = true then (e.1, d) else e) else es ++ [(keyD k, d)]
theorem drKv_any {K : PySem.W.Frag} {F : Hp} {k : Key} : ∀ {kvs : List (Key × V)} {es : List (D × D)}, DrKv K F kvs es → (es.any fun e => keqD k e.1) = kvs.any fun kv => decide (kv.1 = k)
  | _, _, .nil => rfl
  | _, _, .cons a t => by rw [List.any_cons, List.any_cons, drKv_any t, keqD_key]
theorem drKv_map {K : PySem.W.Frag} {F : Hp} {k : Key} {v : V} {d : D} (h : Dr K F v d) : ∀ {kvs : List (Key × V)} {es : List (D × D)}, DrKv K F kvs es → DrKv K F (kvs.map fun kv => if kv.1 = k then (kv.1, v) else kv) (es.map fun e => if keqD k e.1 = true then (e.1, d) else e)
  | _, _, .nil => .nil
  | _, _, .cons (k := k') a t => by
    rw [List.map_cons, List.map_cons, keqD_key]
    by_cases e : k' = k
    · rw [if_pos e, if_pos (decide_eq_true e)]
      exact .cons h (drKv_map h t)
    · rw [if_neg e, if_neg (by simpa using e)]
      exact .cons a (drKv_map h t)
theorem drKv_snoc {K : PySem.W.Frag} {F : Hp} {k : Key} {v : V} {d : D} (h : Dr K F v d) : ∀ {kvs : List (Key × V)} {es : List (D × D)}, DrKv K F kvs es → DrKv K F (kvs ++ [(k, v)]) (es ++ [(keyD k, d)])
  | _, _, .nil => .cons h .nil
  | _, _, .cons a t => .cons a (drKv_snoc h t)
theorem drKv_put {K : PySem.W.Frag} {F : Hp} {k : Key} {v : V} {d : D} {kvs : List (Key × V)} {es : List (D × D)} (r : DrKv K F kvs es) (h : Dr K F v d) : DrKv K F (putK kvs k v) (putD es k d) := by
  unfold putK putD
  rw [drKv_any r]
  split
  · exact drKv_map h r
  · exact drKv_snoc h r
def gKey : D → Option Key
  | .int i => some (.inl i)
  | .str x => some (.inr x)
  | _ => none
theorem key_of {K : PySem.W.Frag} {F : Hp} {v : V} {d : D} {k : Key} (h : Dr K F v d) (e : gKey d = some k) : v = kV k := by
  cases h <;> simp only [gKey, reduceCtorEq, Option.some.injEq] at e <;> (subst e; rfl)
/-! ### {k: v for target in iter if test} -/
def dcD (vs : List Nat) (γ : DenG) (τ : Den Bool) (κ φ : Den Rv) : List D → List (D × D) → Env → Ans (List (D × D))
  | [], es, ρ => .ok es ρ
  | d :: ds, es, ρ => match γ d ρ with
    | none => .bad
    | some ρ1 => (noX (τ ρ1)).bind fun b ρ2 => if b then (noX (κ ρ2)).bind fun r ρ3 => (ofO ((look ρ3 r).bind gKey) ρ3).bind fun k ρ4 => (noX (φ ρ4)).bind fun r ρ5 => (frz r ρ5).bind fun x ρ6 => dcD vs γ τ κ φ ds (putD es k x) (wipeE ρ6 vs)
      else dcD vs γ τ κ φ ds es (wipeE ρ2 vs)
def xDc (ι : Den (List D)) (vs : List Nat) (γ : DenG) (τ : Den Bool) (κ φ : Den Rv) : Den D := fun ρ => (ι ρ).bind fun ds ρ1 => if ds.length ≤ sizeLine then (noX (dcD vs γ τ κ φ ds [] (wipeE ρ1 vs))).bind fun es ρ2 => .ok (.dict es) (unwipe ρ1 ρ2 vs) else .bad
section
variable {X : Cx} {W : WX}
theorem dcD_sound {K : PySem.W.Frag} {ι : Den (List D)} {is vs : List Nat} {γ : DenG} {τ : Den Bool} {κ φ : Den Rv} (hv : ∀ i ∈ is, i ∈ vs) {σ : St} {H : Hp} {Q : VK} (h : tDN K W (xDc ι vs γ τ κ φ) σ H Q) :
    tDc (tDI K W ι) (tDG K is γ) (tDT K W0 τ) (tDE K W0 κ) (tDE K W0 φ) vs σ H Q := by
  obtain ⟨B, F, ρ, S, w⟩ := h
  refine ⟨B, F, ρ, S, wp_mono (wp_bind w) (fun ds ρ1 w1 F1 J H1 s1 S1 J1 => ?_) fun _ _ z => z⟩
  intro D hD
  split at w1
  · rename_i hz
    have fD : F1 D = none := (S1.free hD).2.1
    have gD : B.G D = none := (S1.free hD).1
    have hDn : B.H D = none := (S1.free hD).2.2
    have bD : B.F D = none := by
      cases e : B.F D with
      | none => rfl
      | some x => rw [S1.bf D x e] at fD; cases fD
    have S2 := (S1.wiped vs).fresh (o := .dK []) hD
    have A2 : Apart B F1 (wipeE ρ1 vs) (wipe σ vs) (upd H1 D (.dK [])) D (.dK []) := ⟨upd_same, fD, (S1.wiped vs).noslot hD⟩
    refine ⟨fun i m H' => m + i = ds.length ∧ ∃ F' ρ' acc as, Same F1 F' ∧ Sim K B F' ρ' (wipe σ vs) H' ∧ Apart B F' ρ' (wipe σ vs) H' D (.dK acc) ∧ DrKv K F' acc as ∧ acc.length ≤ i ∧
      Wp (dcD vs γ τ κ φ (ds.drop i) as ρ') (fun es ρ'' => ∀ F' p H', Same F1 F' → Sim K B F' (unwipe ρ1 ρ'' vs) σ H' → NewAt K B F' (unwipe ρ1 ρ'' vs) σ H' p (.dict es) → Q (.ref p) H') (fun _ _ => False), ⟨ds.length, rfl, F1, wipeE ρ1 vs, [], [], Same.refl F1, S2, A2, .nil, Nat.le_refl _, ?_⟩, fun i m H' hw => ?_⟩
    · rw [List.drop_zero]
      exact wp_noX (wp_mono (wp_bind w1) (fun rest ρ'' q F' p H' s' S' N => q F' p H' (s1.trans s') S' N) fun _ _ z => z)
    · obtain ⟨hm, F', ρ', acc, as, s', S', A', dr, la, w'⟩ := hw
      by_cases hl : i < ds.length
      · have ed : ds.drop i = ds[i] :: ds.drop (i + 1) := List.drop_eq_getElem_cons hl
        have eg : ds[i]? = some ds[i] := List.getElem?_eq_getElem hl
        obtain ⟨h1, h2⟩ := J1.1 i ds[i] B F' ρ' (wipe σ vs) H' s' S' eg
        refine .inr ⟨h1, _, fun H2 hn => ⟨m - 1, by omega, by omega, hn⟩, fun x H2 y => ?_⟩
        have S3 := S'.guard A'
        obtain ⟨_, h3⟩ := J1.1 i ds[i] (B.plus D (.dK acc)) F' ρ' (wipe σ vs) H' s' S3 eg
        obtain ⟨F4, s4, S4, r4⟩ := h3 x H2 y
        rw [ed] at w'
        unfold dcD at w'
        cases e1 : γ ds[i] ρ' with
        | none => rw [e1] at w'; exact w'.elim
        | some ρ2 =>
          rw [e1] at w'
          simp only at w'
          refine ⟨_, F4, ρ', ds[i], ρ2, S4, r4, e1, fun σ2 S5 hw2 => ⟨(hw2 vs hv).trans wipe_idem, ?_⟩⟩
          have hw2 := (hw2 vs hv).trans wipe_idem
          refine ⟨_, F4, ρ2, S5, wp_mono (wp_noX (wp_bind w')) (fun b ρ3 w3 F5 H5 s5 S6 => ?_) fun _ _ z => z⟩
          have dr5 := dr.up (s4.trans s5)
          cases b with
          | false =>
            simp only [Bool.false_eq_true, if_false] at w3 ⊢
            have S7 := S6.wiped vs
            rw [hw2] at S7
            obtain ⟨S8, A8⟩ := S7.unguard gD bD hDn
            exact ⟨F5, wipeE ρ3 vs, acc, as, s'.trans (s4.trans s5), S8, A8, dr5, by omega, w3⟩
          | true =>
            simp only [if_true] at w3 ⊢
            refine ⟨_, F5, ρ3, S6, wp_mono (wp_noX (wp_bind w3)) (fun r ρ4 w4 F6 v H6 s6 S7 r7 => ?_) fun _ _ z => z⟩
            obtain ⟨k, e5, w5⟩ := wp_ofO (wp_bind w4)
            obtain ⟨dk, e6, e7⟩ := Option.bind_eq_some_iff.mp e5
            have hk := key_of (S7.look r7 e6) e7
            refine ⟨_, F6, ρ4, S7, wp_mono (wp_noX (wp_bind w5)) (fun r' ρ6 w6 F7 v' H7 s7 S8 r8 => ?_) fun _ _ z => z⟩
            obtain ⟨x', ρ7, e8, w7⟩ := wp_frz (wp_bind w6)
            obtain ⟨F8, s8, r9, S9⟩ := S8.frz r8 e8
            have S10 := S9.wiped vs
            rw [hw2] at S10
            obtain ⟨S11, A11⟩ := S10.unguard gD bD hDn
            obtain ⟨S12, A12⟩ := S11.other (o' := .dK (putK acc k v')) A11 gD
            have dr8 := dr5.up (s6.trans (s7.trans s8))
            exact ⟨acc, k, hk, A11.at', by omega, F8, wipeE ρ7 vs, putK acc k v', putD as k x', s'.trans (s4.trans (s5.trans (s6.trans (s7.trans s8)))), S12, A12, drKv_put dr8 r9, by have := length_putK acc k v'; omega, w7⟩
      · have ei : i = ds.length := by omega
        subst ei
        rw [List.drop_length] at w'
        refine .inl ⟨J1.2 H' (s'.trans S'.f), ?_⟩
        have S3 := S1.unwiped s' S'
        refine w' F' D H' s' S3 ⟨⟨_, A'.at', dr⟩, A'.f0, gD, hDn, fun j ow d e z => ?_⟩
        rcases unwipe_some e with ⟨_, d', q⟩ | ⟨q1, q2⟩
        · cases q
        · exact A'.ns j ow d q2 (by rw [wipe_out q1]; exact z)
  · exact w1.elim
/-- {k: v for target in iter if test} -/
theorem dn_dc {k : Nat} (C : Cok X W k) {kx vx tg iter : Expr} {ifs : List Expr} {scope : Scope} {own : List (Str × Nat)} {pos : Pos} {ι : Den (List D)} {is : List Nat} {γ : DenG} {τ : Den Bool} {κ φ : Den Rv} (hi : DI X W tg iter ι) (ok : BlkOk X.N X.env.scope scope own) (hv : ∀ i ∈ is, i ∈ own.map (·.2))
    (hg : ∀ (s : Shared) (H : Hp) (C : Addr) (cl : List (Str × Addr)) (fp : List Addr), DG (X.blk s H scope (compEnvC scope cl C X.env) fp) tg is γ) (ht : ∀ (s : Shared) (H : Hp) (C : Addr) (cl : List (Str × Addr)) (fp : List Addr), DTs (X.blk s H scope (compEnvC scope cl C X.env) fp) ifs τ)
    (hk : ∀ (s : Shared) (H : Hp) (C : Addr) (cl : List (Str × Addr)) (fp : List Addr), DE (X.blk s H scope (compEnvC scope cl C X.env) fp) W0 kx κ)
    (he : ∀ (s : Shared) (H : Hp) (C : Addr) (cl : List (Str × Addr)) (fp : List Addr), DE (X.blk s H scope (compEnvC scope cl C X.env) fp) W0 vx φ) (hs : ∀ x, foldedSetIterable iter X.env x = pure x := by intro _; rfl) :
    DN X W (.DictComp kx vx [⟨tg, iter, ifs, 0⟩] scope pos) (xDc ι (own.map (·.2)) γ τ κ φ) :=
  pe_imp (pe_dc (g := tDG X.K is γ) (tt := tDT X.K W0 τ) (tk := tDE X.K W0 κ) (tv := tDE X.K W0 φ) C.calm C.nd hi ok hg ht hk he hs) fun σ H Q h => dcD_sound hv h
end
end DL


/-! D layer, 18: k in dict, dict[k], keys ints or texts. -/
namespace DL
open PySem PySem.Spec L2 PyProof.Rows
def atD (es : List (D × D)) (k : Key) : Option D := (es.find? fun e => keqD k e.1).map (·.2)
theorem drKv_val {K : PySem.W.Frag} {F : Hp} {k : Key} : ∀ {kvs : List (Key × V)} {es : List (D × D)}, DrKv K F kvs es → (valV kvs k).isSome = (atD es k).isSome
  | _, _, .nil => rfl
  | _, _, .cons (k := k') a t => by
    by_cases e : k' = k
    · rw [valV_pos (p := (k', _)) e]
      unfold atD
      rw [List.find?_cons_of_pos (by rw [keqD_key]; exact decide_eq_true e)]
      rfl
    · rw [valV_neg (p := (k', _)) e, drKv_val t]
      unfold atD
      rw [List.find?_cons_of_neg (by rw [keqD_key]; simpa using e)]
theorem drKv_at {K : PySem.W.Frag} {F : Hp} {k : Key} {d : D} : ∀ {kvs : List (Key × V)} {es : List (D × D)}, DrKv K F kvs es → atD es k = some d → ∃ v, valV kvs k = some v ∧ Dr K F v d
  | _, _, .nil, h => nomatch h
  | _, _, .cons (k := k') a t, h => by
    unfold atD at h
    by_cases e : k' = k
    · rw [List.find?_cons_of_pos (by rw [keqD_key]; exact decide_eq_true e)] at h
      cases h
      exact ⟨_, valV_pos (p := (k', _)) e, a⟩
    · rw [List.find?_cons_of_neg (by rw [keqD_key]; simpa using e)] at h
      rw [valV_neg (p := (k', _)) e]
      exact drKv_at t h
theorem Sim.dict {K : PySem.W.Frag} {B : Base} {F : Hp} {ρ : Env} {σ : L2.St} {H : Hp} (S : Sim K B F ρ σ H) {r : Rv} {v : V} {es : List (D × D)} (q : RvOk K F σ r v) (e : DL.look ρ r = some (.dict es)) : ∃ p kvs, v = .ref p ∧ Rd H p (.dK kvs) ∧ DrKv K F kvs es := by
  cases r with
  | dat d' =>
    have e' : d' = .dict es := Option.some.inj e
    subst e'
    cases q with
    | dic a b => exact ⟨_, _, rfl, rd_mono S.f a, b⟩
  | slot i =>
    have q' : σ[i]? = some (some v) := q
    unfold DL.look at e
    simp only at e
    cases h : ρ[i]? with
    | none => rw [h] at e; cases e
    | some c =>
      rw [h] at e
      cases c with
      | none => cases e
      | some c =>
        cases c with
        | dat d' =>
          have e' : d' = .dict es := Option.some.inj e
          subst e'
          obtain ⟨w, h1, h2⟩ := S.dat i _ h
          rw [q'] at h1
          cases h1
          cases h2 with
          | dic a b => exact ⟨_, _, rfl, rd_mono S.f a, b⟩
        | own ow d' =>
          have e' : d' = .dict es := Option.some.inj e
          subst e'
          obtain ⟨p, c, h1, h2, h3, _⟩ := S.mu i ow _ h
          rw [q'] at h1
          cases h1
          cases c with
          | dK kvs => exact ⟨p, kvs, rfl, Rd.of h2, h3⟩
          | _ => exact h3.elim
/-! ### k in d -/
def gInK (neg : Bool) (a : D) : D → Option D
  | .dict es => (gKey a).map fun k => .bool (if neg = true then !(atD es k).isSome else (atD es k).isSome)
  | _ => none
def rInK : R2 := fun x y H Q => ∃ a o, y = .ref a ∧ DGet H a x o ∧ Q (.bl o.isSome) H
def rNotInK : R2 := fun x y H Q => ∃ a o, y = .ref a ∧ DGet H a x o ∧ Q (.bl (!o.isSome)) H
section
variable {X : Cx} {W : WX} {K : PySem.W.Frag}
theorem op_inK (hu : X.A.units + 1 < cLine) : OpR X (compareOp .In) rInK := by
  intro pins s σ H x y v u Q I rx ry h
  obtain ⟨a, o, rfl, g, q⟩ := h
  obtain rfl : u = Value.ref a := ry
  exact d_in hu I g rx fun s' I' => ⟨.bl _, H, I', rfl, q⟩
theorem op_notInK (hu : X.A.units + 1 < cLine) : OpR X (compareOp .NotIn) rNotInK := by
  intro pins s σ H x y v u Q I rx ry h
  obtain ⟨a, o, rfl, g, q⟩ := h
  obtain rfl : u = Value.ref a := ry
  exact d_notIn hu I g rx fun s' I' => ⟨.bl _, H, I', rfl, q⟩
theorem s2_inK : S2 K rInK (gInK false) := by
  intro B F ρ σ H x y a b da db dz Q S ra rb ea eb e q
  cases db <;> simp only [gInK, reduceCtorEq, Bool.false_eq_true, if_false] at e
  obtain ⟨k, e1, e2⟩ := Option.map_eq_some_iff.mp e
  subst e2
  have hx := key_of (S.look ra ea) e1
  cases S.look rb eb with
  | dic r t => exact ⟨_, _, rfl, .inl ⟨_, k, r, hx, rfl⟩, by rw [drKv_val t]; exact q F _ H (Same.refl F) S (.bl _)⟩
theorem s2_notInK : S2 K rNotInK (gInK true) := by
  intro B F ρ σ H x y a b da db dz Q S ra rb ea eb e q
  cases db <;> simp only [gInK, reduceCtorEq, if_true] at e
  obtain ⟨k, e1, e2⟩ := Option.map_eq_some_iff.mp e
  subst e2
  have hx := key_of (S.look ra ea) e1
  cases S.look rb eb with
  | dic r t => exact ⟨_, _, rfl, .inl ⟨_, k, r, hx, rfl⟩, by rw [drKv_val t]; exact q F _ H (Same.refl F) S (.bl _)⟩
/-- any of these -/
def gInC (neg : Bool) (a b : D) : Option D := (gInA neg a b).or (gInK neg a b)
def rInC (K : PySem.W.Frag) : R2 := fun x y H Q => rInB K x y H Q ∨ rInK x y H Q
def rNotInC (K : PySem.W.Frag) : R2 := fun x y H Q => rNotInB K x y H Q ∨ rNotInK x y H Q
theorem op_inC {k : Nat} (r : Room k X.A) : OpR X (compareOp .In) (rInC X.K) := OpR.or (op_inB r) (op_inK (by have := r.un; omega))
theorem op_notInC {k : Nat} (r : Room k X.A) : OpR X (compareOp .NotIn) (rNotInC X.K) := OpR.or (op_notInB r) (op_notInK (by have := r.un; omega))
theorem s2_inC : S2 K (rInC K) (gInC false) := S2.or s2_inB s2_inK
theorem s2_notInC : S2 K (rNotInC K) (gInC true) := S2.or s2_notInB s2_notInK
/-! ### d[k] -/
def gIxK : D → D → Option D
  | .dict es, a => (gKey a).bind fun k => atD es k
  | _, _ => none
def rIxK : R2 := fun x y H Q => ∃ a v, x = .ref a ∧ DGet H a y (some v) ∧ Q v H
theorem ix_dict (hu : X.A.units + 1 < cLine) : IxR X rIxK := by
  intro value slice pins s σ H x y v u Q I rx ry h hs
  obtain ⟨a, z, rfl, g, q⟩ := h
  obtain rfl : v = Value.ref a := rx
  have fin : wpAny (model X.prog X.w) X.A (getItem (.ref a) u) (EP X pins σ Q) X.xe s := d_getItem hu I g ry fun w' s' I' rw' => ⟨z, H, I', rw', q⟩
  have hT := dict_typeIs I g
  unfold subscriptTail
  refine wpAny_bind ?_
  rw [getitemInPython_of_ne hT.not_modules]
  refine wpAny_bind (wpAny_specialOf hT PySem.F.slot_dict_getitem.lookup ?_)
  have fin2 : wpAny (model X.prog X.w) X.A (subscripted slice false (.ref a) u) (fun r s₃ => wpAny (model X.prog X.w) X.A (letTemporaryGo value (.ref a) r >>= fun _ => pure r) (EP X pins σ Q) X.xe s₃) X.xe s := by
    rw [hs]
    exact wpAny_operating (wpAny_mono fin (fun r s₃ h₃ => wpAny_bind (wpAny_letTemporaryGo (wpAny_pure h₃))) fun _ _ x => x)
  first
    | exact wpAny_pure (wpAny_bind fin2)
    | exact wpAny_bind (wpAny_pure (wpAny_bind fin2))
    | exact wpAny_bind fin2
theorem s2_ixK : S2 K rIxK gIxK := by
  intro B F ρ σ H x y a b da db dz Q S ra rb ea eb e q
  cases da <;> simp only [gIxK, reduceCtorEq] at e
  obtain ⟨k, e1, e2⟩ := Option.bind_eq_some_iff.mp e
  have hy := key_of (S.look rb eb) e1
  obtain ⟨p, kvs, rfl, r, t⟩ := S.dict ra ea
  obtain ⟨v, h1, h2⟩ := drKv_at t e2
  exact ⟨p, v, rfl, .inl ⟨kvs, k, r, hy, h1.symm⟩, q F v H (Same.refl F) S h2⟩
end
end DL


/-! D layer, 19: list(range(..)). -/
namespace DL
open PySem PySem.Spec L2 PyProof.Rows
theorem drAll_map {K : PySem.W.Frag} {F : Hp} {α : Type} {f : α → V} {g : α → D} (h : ∀ a, Dr K F (f a) (g a)) : ∀ l : List α, DrAll K F (l.map f) (l.map g)
  | [] => .nil
  | a :: l => .cons (h a) (drAll_map h l)
def gRgn1 : D → Option (List D)
  | .int j => if -(2 ^ 62) ≤ j ∧ j ≤ 16777216 then some (rangeL 0 j.toNat) else none
  | _ => none
def gRgn2 : D → D → Option (List D)
  | .int i, .int j => if -(2 ^ 62) ≤ i ∧ i < 2 ^ 62 ∧ -(2 ^ 62) ≤ j ∧ j < 2 ^ 62 ∧ j - i ≤ 16777216 then some (rangeL i (j - i).toNat) else none
  | _, _ => none
def xLRg1 (φ : Den Rv) : Den D := fun ρ => (φ ρ).bind fun r ρ1 => (ofO ((look ρ1 r).bind gRgn1) ρ1).bind fun ds ρ2 => .ok (.list ds) ρ2
@[simp] theorem ev_lrg1 (φ : Den Rv) (ρ : Env) : xLRg1 φ ρ = (φ ρ).bind fun r ρ1 => (ofO ((look ρ1 r).bind gRgn1) ρ1).bind fun ds ρ2 => .ok (.list ds) ρ2 := (rfl)
theorem dr_rg {K : PySem.W.Frag} {F : Hp} (a b : Int) : DrAll K F (rgV a b) (rangeL a (b - a).toNat) := by
  unfold rgV rangeL
  exact drAll_map (fun i => .int _) _
section
variable {X : Cx} {W : WX} {e : Expr} {p p2 pos pos2 : Pos} {φ ψ : Den Rv}
theorem dn_listRg1 (hc : X.calm = true) (hg : Gl X "list") (hm : X.mg "list" = none) (hgr : Gl X "range") (hmr : X.mg "range" = none) (he : DE X W e φ) (na : starEach [e] X.env = (false, eval e X.env) :: starEach [] X.env := by rfl)
    (na2 : starEach [Expr.Call (.Name "range" p2) [e] [] pos2] X.env = (false, eval (.Call (.Name "range" p2) [e] [] pos2) X.env) :: starEach [] X.env := by rfl) : DN X W (.Call (.Name "list" p) [.Call (.Name "range" p2) [e] [] pos2] [] pos) (xLRg1 φ) := by
  refine pe_imp (pe_listRg hc hg hm (prg_1 hgr hmr he na) na2) fun σ H Q hq => ?_
  obtain ⟨B, F, ρ, S, w⟩ := hq
  refine ⟨B, F, ρ, S, wp_mono (wp_bind w) (fun r ρ1 w1 F1 v H1 s1 S1 q1 => ?_) fun _ _ z => z⟩
  obtain ⟨ds, e1, w2⟩ := wp_ofO (wp_bind w1)
  obtain ⟨d, e2, e3⟩ := Option.bind_eq_some_iff.mp e1
  cases d <;> simp only [gRgn1, reduceCtorEq] at e3
  rename_i j
  obtain ⟨hz, e4⟩ := if_some e3
  subst e4
  refine ⟨j, S1.int q1 e2, ⟨by omega, by omega, hz.1, by omega, by omega⟩, fun q n => ?_⟩
  have r := dr_rg (K := X.K) (F := F1) 0 j
  rw [Int.sub_zero] at r
  obtain ⟨S', N⟩ := S1.newL n r
  exact w2 F1 q _ s1 S' N
end
end DL


/-! D layer, 20: xs[::-1], a list or a tuple. -/
namespace DL
open PySem PySem.Spec L2 PyProof.Rows HT
section
variable {prog : Program} {w : World} {A : Around} {E : Value → Shared → Prop} {s : Shared}
theorem places_rev (n : Nat) : Builtin.Slice.slicePlaces ((n : Int) - 1) (-1) (-1) = n := by
  unfold Builtin.Slice.slicePlaces
  have h1 : ¬ ((-1 : Int) > 0) := by omega
  simp only [h1, if_false]
  by_cases h : (n : Int) - 1 > -1
  · rw [if_pos h]
    have e : -(-1 : Int) = 1 := rfl
    rw [e, Int.ediv_one]
    omega
  · rw [if_neg h]
    omega
theorem adjust_rev (n : Nat) : Builtin.Slice.sliceAdjust none none (-1) (n : Int) = ((n : Int) - 1, -1) := by
  unfold Builtin.Slice.sliceAdjust
  have h1 : ((-1 : Int) < 0) := by omega
  simp only [h1, if_true]
theorem pick_rev (xs : Array Value) : ((List.range xs.size).filterMap fun (m : Nat) => xs[(((xs.size : Nat) : Int) - 1 + (m : Int) * (-1)).toNat]?).toArray = xs.toList.reverse.toArray := by
  have e : (fun (m : Nat) => xs[(((xs.size : Nat) : Int) - 1 + (m : Int) * (-1)).toNat]?) = (fun k => xs[k]?) ∘ fun m => xs.size - 1 - m := by
    funext m
    have : (((xs.size : Nat) : Int) - 1 + (m : Int) * (-1)).toNat = xs.size - 1 - m := by omega
    rw [this]
    rfl
  rw [e, ← List.filterMap_map, PySem.W.krv_range, List.filterMap_reverse, PySem.W.krv_all]
/-- a slice object's step −1, its bounds left out, applied to n items -/
theorem applied_rev {sl : Addr} {a b c : Value} {n : Nat} {Q : Int × Int × Nat → Shared → Prop} (hs : s.heap.IsSliceOf sl a b c) (ha : IsPart a none) (hb : IsPart b none) (hc : IsPart c (some (-1)))
    (h : Q ((n : Int) - 1, -1, n) s) : wpAny (model prog w) A (Builtin.Slice.sliceApplied (.ref sl) (pure (n : Int))) Q E s := by
  obtain ⟨o, e1, _, e2⟩ := hs
  have three : ∀ {R : Value × Value × Value → Shared → Prop}, R (a, b, c) s → wpAny (model prog w) A (Builtin.Slice.sliceFields (.ref sl)) R E s := fun r =>
    wpAny_bind (wpAny_field e1 e2 (x := a) rfl (wpAny_bind (wpAny_field e1 e2 (x := b) rfl (wpAny_bind (wpAny_field e1 e2 (x := c) rfl (wpAny_pure r))))))
  have last : wpAny (model prog w) A (pure ((Builtin.Slice.sliceAdjust none none (-1) (n : Int)).1, (-1 : Int), Builtin.Slice.slicePlaces (Builtin.Slice.sliceAdjust none none (-1) (n : Int)).1 (Builtin.Slice.sliceAdjust none none (-1) (n : Int)).2 (-1))) Q E s := by
    rw [adjust_rev]
    exact wpAny_pure (by rw [places_rev]; exact h)
  exact wpAny_bind (three (wpAny_bind (slicePart_ hc (wpAny_bind (slicePart_ ha (wpAny_bind (slicePart_ hb (wpAny_bind (wpAny_pure last)))))))))
/-- the slot of a tuple under such a slice -/
theorem slot_rev {t sl : Addr} {items : Array Value} {a b c : Value} {Q : PySem.Fin → Shared → Prop} (ht : IsTup s.heap t items) (hs : s.heap.IsSliceOf sl a b c) (ha : IsPart a none) (hb : IsPart b none) (hc : IsPart c (some (-1))) (hz : items.size ≤ sizeLine)
    (h : Q (.done (.ret (.ref s.heap.objs.size))) { s with heap := s.heap.push { cls := .type "tuple", data := .seq items.toList.reverse.toArray } }) : wpAny (model prog w) A (Builtin.«tuple.__getitem__» ⟨[.ref t, .ref sl], []⟩) Q E s := by
  have isl : s.TypeIs (.ref sl) "slice" := hs.elim fun o h => ⟨o, h.1, h.2.1⟩
  have room : sizeOk (.seq items.toList.reverse.toArray) := by
    show items.toList.reverse.toArray.size ≤ sizeLine
    simpa using hz
  have other : ((((items.size : Nat) : Int) - 1 == 0) && ((-1 : Int) == 1) && (items.size == items.size)) = false := by
    have e : ((-1 : Int) == 1) = false := rfl
    rw [e, Bool.and_false, Bool.false_and]
  show wpAny _ _ (Builtin.Tuple.tupleItemsOf (.ref t) >>= _) _ _ s
  refine wpAny_bind (tupleItemsOf_ ht (wpAny_bind (wpAny_typeOf isl ?_)))
  rw [if_pos (show (Value.type "slice" == Value.type "slice") = true by decide)]
  refine wpAny_bind (applied_rev hs ha hb hc ?_)
  show wpAny _ _ (if ((((items.size : Nat) : Int) - 1 == 0) && ((-1 : Int) == 1) && (items.size == items.size)) = true then _ else _) _ _ s
  rw [other, if_neg Bool.false_ne_true, pick_rev]
  exact wpAny_bind (m := Builtin.Tuple.tupleExact _) (wpAny_newObj_type (wpAny_pure h) room)
theorem get_rev {t sl : Addr} {items : Array Value} {a b c : Value} {Q : Value → Shared → Prop} (ht : IsTup s.heap t items) (hs : s.heap.IsSliceOf sl a b c) (ha : IsPart a none) (hb : IsPart b none) (hc : IsPart c (some (-1))) (hz : items.size ≤ sizeLine)
    (h : Q (.ref s.heap.objs.size) { s with heap := s.heap.push { cls := .type "tuple", data := .seq items.toList.reverse.toArray } }) : wpAny (model prog w) A (getItem (.ref t) (.ref sl)) Q E s := by
  unfold getItem
  refine wpAny_holding (wpAny_bind (wpAny_sequenceKey ht.typeIs (by decide) ?_))
  refine wpAny_bind (wpAny_callSpecial?_slot (name := Str.ofString "__getitem__") ht.typeIs PyProof.Rows.slot_tuple_getitem ?_)
  exact wpAny_call_entry PyProof.Rows.slot_tuple_getitem ht.typeIs entry_tuple_getitem (slot_rev ht hs ha hb hc hz ⟨_, rfl, wpAny_pure h⟩) (args_tuple_getitem _ _)
end
section
variable {X : Cx} {W : WX}
def tRevT (K : PySem.W.Frag) (te : TE) : TE := fun σ H Q => te σ H fun x H1 => ∃ a xs, x = .ref a ∧ SqT K H1 a xs ∧ ∀ p, H1 p = none → Q (.ref p) (upd H1 p (.tup xs.reverse))
def at_none {H : Hp} : (fun (o : Option Int) (H' : Hp) => o = none ∧ H' = H) none H := ⟨rfl, rfl⟩
theorem pe_revT {e : Expr} {te : TE} {k : Nat} {p1 p2 p3 pos : Pos} (he : PE X e te) : PE X (.Subscript e (.Slice none none (some (.UnaryOp .USub (.Constant (.int 1) k p1) p2)) p3) pos) (tRevT X.K te) := by
  have step : PO X (some (.UnaryOp .USub (.Constant (.int 1) k p1) p2)) (tPart (tUn (rU fun i => .int (-i)) (tC (.int 1)))) := po_some (pe_un un_neg pe_int)
  refine ⟨fun pins s σ H Q I h => Subscript_ (thn (he.run pins s σ H _ I h) fun v s1 ⟨x, H1, I1, r1, t, xs, ex, hx, q⟩ => ?_)⟩
  subst ex
  cases r1
  refine wpAny_Slice (thn (po_none.run pins s1 σ H1 (fun o G => o = none ∧ G = H1) I1 at_none) fun va s2 z => ?_)
  obtain ⟨_, _, I2, pa, rfl, rfl⟩ := z
  refine thn (po_none.run pins s2 σ _ (fun o G => o = none ∧ G = _) I2 at_none) fun vb s3 z => ?_
  obtain ⟨_, _, I3, pb, rfl, rfl⟩ := z
  refine thn (step.run pins s3 σ _ (fun o G => o = some (-1) ∧ G = _) I3 ⟨1, rfl, -1, rfl, rfl, rfl⟩) fun vc s4 z => ?_
  obtain ⟨_, _, I4, pc, rfl, rfl⟩ := z
  have I5 := I4.kept (h' := s4.heap.push { cls := .type "slice", data := .fields #[va, vb, vc] }) (t' := s4.toks) fun b ob q => Heap.get?_push_of_some _ q
  obtain ⟨its, r, ht, hz⟩ := I5.tuple hx
  have len := r.length
  refine tail_any (ops := [.ref t, .ref s4.heap.objs.size]) ht.typeIs PyProof.Rows.slot_tuple_getitem.lookup (get_rev ht (Heap.IsSliceOf.new _ va vb vc) pa pb pc (by rw [List.size_toArray]; omega) ?_) (by with_unfolding_all rfl)
  exact ⟨.ref _, _, I5.laid (t' := s4.toks) (o := .tup xs.reverse) (fun b ob q => Heap.get?_push_of_some _ q) (Nat.le_refl _) ⟨by rw [List.length_reverse]; exact hz, _, r.reverse, IsTup.new _ _⟩, rfl, q _ (I5.hok.fresh (Nat.le_refl _))⟩
def gRev : D → Option D
  | .list ds => some (.list ds.reverse)
  | .tuple ds => some (.tuple ds.reverse)
  | _ => none
def xRev (φ : Den Rv) : Den Rv := fun ρ => (φ ρ).bind fun r ρ1 => (ofO ((look ρ1 r).bind gRev) ρ1).bind fun d ρ2 => .ok (.dat d) ρ2
@[simp] theorem ev_rev (φ : Den Rv) (ρ : Env) : xRev φ ρ = (φ ρ).bind fun r ρ1 => (ofO ((look ρ1 r).bind gRev) ρ1).bind fun d ρ2 => .ok (.dat d) ρ2 := (rfl)
theorem drAll_rev {K : PySem.W.Frag} {F : Hp} {vs : List V} {ds : List D} (r : DrAll K F vs ds) : DrAll K F vs.reverse ds.reverse := by
  induction vs generalizing ds with
  | nil => cases r; exact .nil
  | cons v vs ih =>
    cases r with
    | cons a t =>
      rw [List.reverse_cons, List.reverse_cons]
      exact (ih t).append (.cons a .nil)
theorem de_rev {e : Expr} {φ : Den Rv} {k : Nat} {p1 p2 p3 pos : Pos} (he : DE X W e φ) : DE X W (.Subscript e (.Slice none none (some (.UnaryOp .USub (.Constant (.int 1) k p1) p2)) p3) pos) (xRev φ) := by
  refine ⟨fun pins s σ H Q I hq => ?_⟩
  obtain ⟨B, F, ρ, S, w⟩ := hq
  have w0 := wp_bind w
  cases e1 : φ ρ with
  | bad => rw [e1] at w0; exact w0.elim
  | exc x ρ1 =>
    rw [e1] at w0
    exact (pe_revT he).run pins s σ H Q I ⟨B, F, ρ, S, by rw [e1]; exact w0⟩
  | ok r ρ1 =>
    rw [e1] at w0
    obtain ⟨dz, e2, w2⟩ := wp_ofO (wp_bind w0)
    obtain ⟨d, e3, e4⟩ := Option.bind_eq_some_iff.mp e2
    cases d <;> simp only [gRev, reduceCtorEq, Option.some.injEq] at e4
    · subst e4
      refine (pe_revL he).run pins s σ H Q I ⟨B, F, ρ, S, ?_⟩
      rw [e1]
      intro F1 v H1 s1 S1 q1
      obtain ⟨p, vs, rfl, h1, h2⟩ := S1.items q1 e3
      exact ⟨p, vs, rfl, h1, fun p' n => S1.newLst n (drAll_rev h2) rfl fun F5 v H5 s5 S5 q5 => w2 F5 v H5 (s1.trans s5) S5 q5⟩
    · subst e4
      refine (pe_revT he).run pins s σ H Q I ⟨B, F, ρ, S, ?_⟩
      rw [e1]
      intro F1 v H1 s1 S1 q1
      obtain ⟨p, vs, rfl, h1, h2⟩ := S1.tuple q1 e3
      exact ⟨p, vs, rfl, sqT_mono S1.f h1, fun p' n => S1.newTup n (drAll_rev h2) rfl fun F5 v H5 s5 S5 q5 => w2 F5 v H5 (s1.trans s5) S5 q5⟩
end
end DL


/-! D layer, 21: {}, name = {k: v for ..} on one line. -/
namespace DL
open PySem PySem.Spec L2 PyProof.Rows
section
variable {X : Cx} {W : WX} {pos : Pos}
def xDct0 : Den D := fun ρ => .ok (.dict []) ρ
@[simp] theorem ev_dct0 (ρ : Env) : xDct0 ρ = .ok (.dict []) ρ := (rfl)
theorem dn_dict0 : DN X W (.Dict [] [] pos) xDct0 := by
  refine pe_imp pe_dnewK fun σ H Q hq => ?_
  obtain ⟨B, F, ρ, S, w⟩ := hq
  intro p n
  obtain ⟨g0, f0, h0⟩ := S.free n
  exact w F p _ (Same.refl F) (S.fresh n) ⟨⟨_, upd_same, .nil⟩, f0, g0, h0, S.noslot n⟩
theorem ps_setDc {i : Nat} {y : Str} {py : Pos} {kx vx tg iter : Expr} {ifs : List Expr} {scope : Scope} {own : List (Str × Nat)} {pos spos : Pos} {wi : TI} {g : TG} {tt : TT} {tk tv : TE} (hc : X.calm = true) (hN : X.N.Nodup) (hy : X.N[i]? = some y) (hyl : X.env.scope.names.lookup y = some .local)
    (hsw : swapsWith (.DictComp kx vx [⟨tg, iter, ifs, 0⟩] scope pos) (some (.Name y py)) spos.line X.env = pure true) (hi : PI X tg iter wi) (ok : BlkOk X.N X.env.scope scope own)
    (hg : ∀ (s : Shared) (H : Hp) (C : Addr) (cl : List (Str × Addr)) (fp : List Addr), PG (X.blk s H scope (compEnvC scope cl C X.env) fp) tg g) (ht : ∀ (s : Shared) (H : Hp) (C : Addr) (cl : List (Str × Addr)) (fp : List Addr), PTs (X.blk s H scope (compEnvC scope cl C X.env) fp) ifs tt)
    (hk : ∀ (s : Shared) (H : Hp) (C : Addr) (cl : List (Str × Addr)) (fp : List Addr), PE (X.blk s H scope (compEnvC scope cl C X.env) fp) kx tk)
    (he : ∀ (s : Shared) (H : Hp) (C : Addr) (cl : List (Str × Addr)) (fp : List Addr), PE (X.blk s H scope (compEnvC scope cl C X.env) fp) vx tv) (hs : ∀ x, foldedSetIterable iter X.env x = pure x := by intro _; rfl) :
    PS X (.Assign [.Name y py] (.DictComp kx vx [⟨tg, iter, ifs, 0⟩] scope pos) spos) (tAsg (tDc wi g tt tk tv (own.map (·.2))) (gName i)) := by
  refine ⟨fun pins s σ H D I h => ?_⟩
  have q0 : tDc wi g tt tk tv (own.map (·.2)) σ H (fun x H1 => gName i x σ H1 D.nx) := h
  rw [exec_Assign_Name_used _ _ _ _ hsw]
  have core := dc_core (pos := pos) (Qf := fun _ s' => SP X pins D .next s') (use := some (assign (.Name y py) X.env)) (pos' := firstIterPos [⟨tg, iter, ifs, 0⟩] pos) hc hN I hi ok hg ht hk he hs q0 fun N C s' m H' I' q hn f => by
    show wpAny _ _ (assign (.Name y py) X.env (.ref N)) _ _ _
    refine wpAny_assign_Name (store_ok2 (v := V.ref N) I' hN hy (.inl hyl) rfl (fun s2 I2 z => ?_) (.inr hyl))
    obtain ⟨a, sb, ha⟩ := z
    obtain ⟨f0, f1, f2, f3, f4, f5⟩ := f
    have far : C ≠ a := fun e => ha.elim (fun z => f1 (e.trans z)) fun z => f4 y a z e.symm
    exact ⟨m, hn.sameBut sb far, fun h3 sb3 => ⟨_, H', I2.turned (t' := s2.toks) (fun b o hb e => (sb3.2 b hb).trans e) f0 f1 f3 f4 f5, q⟩⟩
  exact wpAny_bind (wpAny_standAt (wpAny_bind (wpAny_bind (thn core fun _ s' hq => wpAny_pure (wpAny_pure hq)))))
theorem ds_setDcD {k : Nat} (C : Cok X W k) {i : Nat} {y : Str} {py : Pos} {kx vx tg iter : Expr} {ifs : List Expr} {scope : Scope} {own : List (Str × Nat)} {pos spos : Pos} {ι : Den (List D)} {is : List Nat} {γ : DenG} {τ : Den Bool} {κ φ : Den Rv} (hi : DI X W tg iter ι) (ok : BlkOk X.N X.env.scope scope own) (hv : ∀ i ∈ is, i ∈ own.map (·.2))
    (hg : ∀ (s : Shared) (H : Hp) (C : Addr) (cl : List (Str × Addr)) (fp : List Addr), DG (X.blk s H scope (compEnvC scope cl C X.env) fp) tg is γ) (ht : ∀ (s : Shared) (H : Hp) (C : Addr) (cl : List (Str × Addr)) (fp : List Addr), DTs (X.blk s H scope (compEnvC scope cl C X.env) fp) ifs τ)
    (hk : ∀ (s : Shared) (H : Hp) (C : Addr) (cl : List (Str × Addr)) (fp : List Addr), DE (X.blk s H scope (compEnvC scope cl C X.env) fp) W0 kx κ)
    (he : ∀ (s : Shared) (H : Hp) (C : Addr) (cl : List (Str × Addr)) (fp : List Addr), DE (X.blk s H scope (compEnvC scope cl C X.env) fp) W0 vx φ) (hy : X.N[i]? = some y := by rfl) (hyl : X.env.scope.names.lookup y = some .local := by rfl)
    (hsw : swapsWith (.DictComp kx vx [⟨tg, iter, ifs, 0⟩] scope pos) (some (.Name y py)) spos.line X.env = pure true := by kernel_rfl) (hs : ∀ x, foldedSetIterable iter X.env x = pure x := by intro _; rfl) :
    DS X W (.Assign [.Name y py] (.DictComp kx vx [⟨tg, iter, ifs, 0⟩] scope pos) spos) (ySet (gSet i) (xNew (xDc ι (own.map (·.2)) γ τ κ φ))) := by
  refine ps_imp (ps_setDc (i := i) (g := tDG X.K is γ) (tt := tDT X.K W0 τ) (tk := tDE X.K W0 κ) (tv := tDE X.K W0 φ) C.calm C.nd hy hyl hsw hi ok hg ht hk he hs) fun D σ H hq => ?_
  obtain ⟨B, F, ρ, S, w⟩ := hq
  refine dcD_sound (W := W) hv ⟨B, F, ρ, S, wp_mono (wp_bind (spost_bind w)) (fun d ρ1 w1 F1 p H1 s1 S1 q1 => ?_) fun _ _ z => z⟩
  obtain ⟨c, h1, h2⟩ := q1.ct
  have so : Same F1 (upd F1 p c) := same_upd q1.f0
  have S2 := S1.frozen h1 q1.f0 q1.h0 q1.ns
  have w1 : SPost X.K W B F D (match gSet i d ρ1 with | some ρ3 => .next ρ3 | none => .bad) := w1
  cases e3 : gSet i d ρ1 with
  | none => rw [e3] at w1; exact w1.elim
  | some ρ3 =>
    rw [e3] at w1
    obtain ⟨hc, e4⟩ := if_some e3
    subst e4
    exact w1 (upd F1 p c) _ H1 (s1.trans so) (S2.setDat (canSet_lt hc) (h2.dr so upd_same))
end
end DL


/-! D layer, 22: sorted(set(ints)). -/
namespace DL
open PySem PySem.Spec L2 PyProof.Rows
/-! ### each number once, in order -/
def insU (x : Int) : List Int → List Int
  | [] => [x]
  | y :: r => if x < y then x :: y :: r else if x = y then y :: r else y :: insU x r
def sortU (ns : List Int) : List Int := ns.foldr insU []
theorem mem_insU {x k : Int} : ∀ {l : List Int}, k ∈ insU x l ↔ k = x ∨ k ∈ l
  | [] => by simp [insU]
  | y :: r => by
    unfold insU
    by_cases h : x < y
    · rw [if_pos h, List.mem_cons]
    · rw [if_neg h]
      by_cases e : x = y
      · rw [if_pos e, e]
        simp
      · rw [if_neg e, List.mem_cons, mem_insU, List.mem_cons]
        constructor
        · rintro (a | a | a)
          · exact .inr (.inl a)
          · exact .inl a
          · exact .inr (.inr a)
        · rintro (a | a | a)
          · exact .inr (.inl a)
          · exact .inl a
          · exact .inr (.inr a)
theorem insU_ord {x : Int} : ∀ {l : List Int}, l.Pairwise (· < ·) → (insU x l).Pairwise (· < ·)
  | [], _ => List.pairwise_singleton _ _
  | y :: r, h => by
    obtain ⟨h1, h2⟩ := List.pairwise_cons.mp h
    unfold insU
    by_cases q : x < y
    · rw [if_pos q]
      refine List.pairwise_cons.mpr ⟨fun z hz => ?_, h⟩
      rcases List.mem_cons.mp hz with e | e
      · rw [e]; exact q
      · exact Int.lt_trans q (h1 z e)
    · rw [if_neg q]
      by_cases e : x = y
      · rw [if_pos e]; exact h
      · rw [if_neg e]
        refine List.pairwise_cons.mpr ⟨fun z hz => ?_, insU_ord h2⟩
        rcases mem_insU.mp hz with a | a
        · rw [a]; omega
        · exact h1 z a
theorem mem_sortU {k : Int} : ∀ {ns : List Int}, k ∈ sortU ns ↔ k ∈ ns
  | [] => Iff.rfl
  | n :: ns => by
    show k ∈ insU n (sortU ns) ↔ _
    rw [mem_insU, mem_sortU, List.mem_cons]
theorem sortU_ord : ∀ ns : List Int, (sortU ns).Pairwise (· < ·)
  | [] => .nil
  | n :: ns => insU_ord (sortU_ord ns)
theorem ord_eq : ∀ {a b : List Int}, a.Pairwise (· < ·) → b.Pairwise (· < ·) → (∀ k, k ∈ a ↔ k ∈ b) → a = b
  | [], [], _, _, _ => rfl
  | [], y :: b, _, _, h => absurd ((h y).mpr List.mem_cons_self) (List.not_mem_nil)
  | x :: a, [], _, _, h => absurd ((h x).mp List.mem_cons_self) (List.not_mem_nil)
  | x :: a, y :: b, ha, hb, h => by
    obtain ⟨a1, a2⟩ := List.pairwise_cons.mp ha
    obtain ⟨b1, b2⟩ := List.pairwise_cons.mp hb
    have e : x = y := by
      rcases List.mem_cons.mp ((h x).mp List.mem_cons_self) with e | e
      · exact e
      · rcases List.mem_cons.mp ((h y).mpr List.mem_cons_self) with e2 | e2
        · exact e2.symm
        · have := b1 x e; have := a1 y e2; omega
    subst e
    rw [ord_eq a2 b2 fun k => ?_]
    constructor
    · intro hk
      rcases List.mem_cons.mp ((h k).mp (List.mem_cons_of_mem _ hk)) with e | e
      · have := a1 k hk; omega
      · exact e
    · intro hk
      rcases List.mem_cons.mp ((h k).mpr (List.mem_cons_of_mem _ hk)) with e | e
      · have := b1 k hk; omega
      · exact e
/-! ### set(t), the ints of a tuple -/
section
variable {X : Cx} {W : WX}
def rSetTI (K : PySem.W.Frag) (w : World) : List V → Hp → VK → Prop := fun xs H Q => ∃ (l : Addr) (ns : List Int), xs = [V.ref l] ∧ SqT K H l (ns.map V.int) ∧ ns.length < 64 ∧
  ∀ a S n, H a = none → (∀ k, S k = true ↔ k ∈ ns) → n ≤ ns.length → Q (.ref a) (upd H a (SetO w a S n))
theorem cr_setTI (hc : X.calm = true) : CallR X (.type "set") (rSetTI X.K X.w) := by
  intro pins s σ H xs us Q I r h
  obtain ⟨l, ns, rfl, hl, hn, q⟩ := h
  rw [Vals.ref1 r]
  obtain ⟨its, rv, pt, hz⟩ := I.tuple hl
  refine call_set_tupI (P := X.prog) (w := X.w) ns (I.ok.hd hc) (show s.heap.IsTuple l its.toArray from pt) (ints_of_vals rv) (by unfold scanBound; omega) fun h' tk c R hcn k => ?_
  exact ⟨.ref s.heap.objs.size, _, I.laid (t' := tk) k (Nat.le_refl _) (setO_new R), rfl, q _ _ c (I.hok.fresh (Nat.le_refl _)) (fun k => by rw [decide_eq_true_eq]) hcn⟩
/-! ### sorted(set(t)) -/
def gSSet : D → Option D
  | .tuple ds => (intsD ds).bind fun ns => if ns.length < 64 then some (.list ((sortU ns).map .int)) else none
  | _ => none
def xSSet (φ : Den Rv) : Den D := fun ρ => (φ ρ).bind fun r ρ1 => ofO ((look ρ1 r).bind gSSet) ρ1
@[simp] theorem ev_sset (φ : Den Rv) (ρ : Env) : xSSet φ ρ = (φ ρ).bind fun r ρ1 => ofO ((look ρ1 r).bind gSSet) ρ1 := (rfl)
theorem dn_sset {e : Expr} {φ : Den Rv} {p p2 pos pos2 : Pos} (hc : X.calm = true) (hg : Gl X "sorted") (hm : X.mg "sorted" = none) (hg2 : Gl X "set") (hm2 : X.mg "set" = none) (hv : bootBuiltins "sorted" = some (.builtin "sorted")) (hv2 : bootBuiltins "set" = some (.type "set")) (he : DE X W e φ)
    (na : starEach [e] X.env = (false, eval e X.env) :: starEach [] X.env := by rfl) (np : (backTo pos2 (starEach [] X.env)).any (·.1) = false := by rfl)
    (na2 : starEach [Expr.Call (.Name "set" p2) [e] [] pos2] X.env = (false, eval (.Call (.Name "set" p2) [e] [] pos2) X.env) :: starEach [] X.env := by rfl) (np2 : (backTo pos (starEach [] X.env)).any (·.1) = false := by rfl) :
    DN X W (.Call (.Name "sorted" p) [.Call (.Name "set" p2) [e] [] pos2] [] pos) (xSSet φ) := by
  have inner := pe_callTy (p := p2) (pos := pos2) (cr_setTI hc) hg2 hm2 hv2 (pa_cons he pa_nil na) (by decide) (by decide) na np
  refine pe_imp (pe_callB (p := p) (pos := pos) (cr_sortedSet hc) hg hm hv (pa_cons inner pa_nil na2) (by decide) (by decide) na2 np2) fun σ H Q hq => ?_
  obtain ⟨B, F, ρ, S, w⟩ := hq
  refine ⟨B, F, ρ, S, wp_mono (wp_bind w) (fun r ρ1 w1 F1 v H1 s1 S1 q1 => ?_) fun _ _ z => z⟩
  obtain ⟨dz, e1, w2⟩ := wp_ofO w1
  obtain ⟨d, e2, e3⟩ := Option.bind_eq_some_iff.mp e1
  cases d <;> simp only [gSSet, reduceCtorEq] at e3
  obtain ⟨ns, e4, e5⟩ := Option.bind_eq_some_iff.mp e3
  obtain ⟨hz, e6⟩ := if_some e5
  subst e6
  obtain ⟨l, vs, rfl, h1, h2⟩ := S1.tuple q1 e2
  rw [intsD_eq e4] at h2
  cases h2.of_ints
  refine ⟨l, ns, rfl, sqT_mono S1.f h1, hz, fun a St n hn hS hl => ?_⟩
  refine ⟨a, St, n, rfl, upd_same, by omega, fun ms q hord hmem hlen hq => ?_⟩
  have em : ms = sortU ns := ord_eq hord (sortU_ord ns) fun k => by rw [hmem, hS, mem_sortU]
  subst em
  obtain ⟨S3, N⟩ := (S1.fresh (o := SetO X.w a St n) hn).newL hq (DrAll.ints (sortU ns))
  exact w2 F1 q _ s1 S3 N
end
end DL


/-! D layer, 23: set(list of ints), sorted(set(list or tuple of ints)). -/
namespace DL
open PySem PySem.Spec L2 PyProof.Rows
theorem b_bool : bootBuiltins "bool" = some (.type "bool") := by decide +kernel
section
variable {P : Program} {w : World} {A : Around} {E : Value → Shared → Prop} {s : Shared}
abbrev set0 (w : World) : Obj := { cls := .type "set", dict := none, data := .set #[] 0 (.fresh 0 0 (!w.params.followText "set-order")) }
/-- T(args): the new object by its code, then the initializer's code -/
theorem callType_code {T newId initId : String} {args : List Value} {Q Q1 : Value → Shared → Prop} (ft : TypeCalled T newId initId) (hct : checkTypeCall T ⟨args, []⟩ = pure ())
    (hnew : codeAny (model P w) A.in1 (.call (.builtin newId) ⟨.type T :: args, []⟩) (wants Q1 E) s)
    (hinit : ∀ obj s1, Q1 obj s1 → s1.TypeIs obj T ∧ codeAny (model P w) A.in1 (.call (.builtin initId) ⟨obj :: args, []⟩) (wants (fun r s2 => r = .none ∧ Q obj s2) E) s1) : wpAny (model P w) A (call (.type T) args) Q E s := by
  have ⟨c, tl, hmro⟩ := ft.mro
  have hmade := ft.made
  have hsub := ft.sub
  have h1 := ft.notType
  have h2 := ft.canCreate
  have plain := Around.under_plain (A := A) (weight_type_call_type T args []) rfl
  refine wpAny_call (codeAny_of_tree (show wpAny _ _ (callAny (.type T) _) _ _ _ from wpAny_pure ⟨Code.quiet_builtin _ (by decide +kernel), codeAny_builtin F.entry_type_call ?_⟩))
  rw [plain]
  clear plain
  repeat (any_goals (first | assumption | wp_step))
  refine codeAny_mono hnew fun r s1 hr => ?_
  rcases r with e | fl
  · exact hr
  cases fl with
  | ret obj =>
    have ⟨hT, hi⟩ := hinit obj s1 hr
    have hli := ft.init.lookup
    have hbi := ft.init.bind obj
    clear hinit hnew
    repeat (any_goals (first | assumption | wp_step))
    refine codeAny_mono hi fun r s2 hr => ?_
    rcases r with e | fl
    · exact hr
    cases fl with
    | ret v =>
      obtain ⟨rfl, hq⟩ := hr
      repeat (any_goals (first | assumption | wp_step))
    | _ => exact hr.elim
  | _ => exact hr.elim
theorem call_set_lstI {l : Addr} {items : Array Value} (ns : List Int) {Q : Value → Shared → Prop} (hh : A.handled = none) (hl : s.heap.IsList l items) (hi : IntsAre items.toList ns) (hb : ns.length + 1 < scanBound)
    (h : ∀ (h' : Heap) (tk c : Nat), SetR w h' s.heap.objs.size (fun j => decide (j ∈ ns)) c → c ≤ ns.length → (∀ b o, s.heap.get? b = some o → h'.get? b = some o) → Q (.ref s.heap.objs.size) { s with heap := h', toks := tk }) :
    wpAny (model P w) A (call (.type "set") [.ref l]) Q E s := by
  have many : items.size = ns.length := by rw [← IntsAre.length hi, Array.length_toList]
  refine callType_code (Q1 := fun obj s1 => obj = .ref s.heap.objs.size ∧ s1 = { s with heap := s.heap.push (set0 w) }) F.called_set (F.typeCall_set_1 _) (code_set_led1 (.ref l) ⟨rfl, rfl⟩) fun obj s1 z => ?_
  obtain ⟨rfl, rfl⟩ := z
  have at0 : (s.heap.push (set0 w)).get? s.heap.objs.size = some (set0 w) := Heap.get?_push_size _ rfl
  have hT : Shared.TypeIs { s with heap := s.heap.push (set0 w) } (.ref s.heap.objs.size) "set" := ⟨_, at0, rfl⟩
  have lo : l < s.heap.objs.size := let ⟨_, h, _⟩ := hl; Heap.lt_size h
  have lst : (s.heap.push (set0 w)).IsList l items := hl.push _
  have sz : (s.heap.push (set0 w)).objs.size = s.heap.objs.size + 1 := Heap.size_push ..
  refine ⟨hT, codeAny_call_builtin F.called_set.init.plain F.entry_set_init (check_set_init_1 hT ?_)⟩
  have ⟨⟨ocls, odict, odata, oslots⟩, hol, hcl, nl, hdl⟩ := lst
  simp only at hcl hdl
  subst hcl hdl
  have hsls := F.sub_list_set
  have hslf := F.sub_list_frozenset
  have hne : (Value.type "list" == Value.type "dict") = false := by decide
  unfold Builtin.«set.__init__» noKeywords Builtin.Frozenset.updateFrom
  generalize hPI : pyIter = PI
  wp_walk
  subst hPI
  refine wpAny_pyIter_list lst (wpAny_bind (wpAny_runValue ?_))
  have far : l ≠ (s.heap.push (set0 w)).objs.size := Nat.ne_of_lt (by rw [sz]; exact Nat.lt_succ_of_lt lo)
  have val : ∀ (i : Nat) (v : Value), items[i]? = some v → ∃ k t, ns[i]? = some k ∧ v = .int k t := fun i v hv => by
    have hlt : i < ns.length := by rw [← many]; exact (Array.getElem?_eq_some_iff.mp hv).1
    obtain ⟨t, e⟩ := PyProof.Rows.IntsAre.int_at hi i v (by rw [Array.getElem?_toList]; exact hv)
    exact ⟨ns[i], t, List.getElem?_eq_getElem hlt, by rw [e, List.getD_eq_getElem?_getD, List.getElem?_eq_getElem hlt]; rfl⟩
  refine set_update_ints ((Walks.list (by simp [hh]) _ l far items).toS) s.heap.objs.size (fun z => by
      rcases List.mem_cons.mp z with e | e
      · exact Nat.ne_of_lt (Nat.lt_succ_self _) (e.trans sz)
      · exact Nat.ne_of_gt lo (List.mem_singleton.mp e)) ns many hb val (items.size - 0) 0 _ (by omega) (Nat.zero_le _)
    ⟨⟨_, Heap.get?_push_size _ rfl, rfl, rfl⟩, lst.push _⟩ ⟨0, Nat.le_refl 0, setR_new_at (Heap.get?_push_of_some _ at0)⟩ fun s' c hm hc hS => ?_
  obtain ⟨h', g2, d', tk', os'⟩ := s'
  obtain rfl : g2 = s.gens := hm.gens
  obtain rfl : d' = s.drawn := hm.drawn
  obtain rfl : os' = s.os := hm.os
  refine wpAny_pure (wpAny_pure ⟨rfl, h h' tk' c hS (by omega) fun b o e => hm.heap b o (fun z => ?_) (Heap.get?_push_of_some _ (Heap.get?_push_of_some _ e))⟩)
  have := Heap.lt_size e
  rcases List.mem_cons.mp z with e | e
  · exact Nat.ne_of_lt this e
  · exact Nat.ne_of_lt (Nat.lt_succ_of_lt this) ((List.mem_singleton.mp e).trans sz)
end
section
variable {X : Cx} {W : WX}
def rSetLI (K : PySem.W.Frag) (w : World) : List V → Hp → VK → Prop := fun xs H Q => ∃ (l : Addr) (ns : List Int), xs = [V.ref l] ∧ SqL K H l (ns.map V.int) ∧ ns.length < 64 ∧
  ∀ a S n, H a = none → (∀ k, S k = true ↔ k ∈ ns) → n ≤ ns.length → Q (.ref a) (upd H a (SetO w a S n))
theorem cr_setLI (hc : X.calm = true) : CallR X (.type "set") (rSetLI X.K X.w) := by
  intro pins s σ H xs us Q I r h
  obtain ⟨l, ns, rfl, hl, hn, q⟩ := h
  rw [Vals.ref1 r]
  obtain ⟨its, rv, pl, hz⟩ := I.list hl
  refine call_set_lstI (P := X.prog) (w := X.w) ns (I.ok.hd hc) pl.isList (ints_of_vals rv) (by unfold scanBound; omega) fun h' tk c R hcn k => ?_
  exact ⟨.ref s.heap.objs.size, _, I.laid (t' := tk) k (Nat.le_refl _) (setO_new R), rfl, q _ _ c (I.hok.fresh (Nat.le_refl _)) (fun k => by rw [decide_eq_true_eq]) hcn⟩
def rSetI (K : PySem.W.Frag) (w : World) : List V → Hp → VK → Prop := fun xs H Q => rSetTI K w xs H Q ∨ rSetLI K w xs H Q
theorem cr_setI (hc : X.calm = true) : CallR X (.type "set") (rSetI X.K X.w) := fun pins s σ H xs us Q I r h => h.elim (cr_setTI hc pins s σ H xs us Q I r) (cr_setLI hc pins s σ H xs us Q I r)
def gSSetA : D → Option D
  | .tuple ds => (intsD ds).bind fun ns => if ns.length < 64 then some (.list ((sortU ns).map .int)) else none
  | .list ds => (intsD ds).bind fun ns => if ns.length < 64 then some (.list ((sortU ns).map .int)) else none
  | _ => none
def xSSetA (φ : Den Rv) : Den D := fun ρ => (φ ρ).bind fun r ρ1 => ofO ((look ρ1 r).bind gSSetA) ρ1
@[simp] theorem ev_ssetA (φ : Den Rv) (ρ : Env) : xSSetA φ ρ = (φ ρ).bind fun r ρ1 => ofO ((look ρ1 r).bind gSSetA) ρ1 := (rfl)
theorem dn_ssetA {e : Expr} {φ : Den Rv} {p p2 pos pos2 : Pos} (hc : X.calm = true) (hg : Gl X "sorted") (hm : X.mg "sorted" = none) (hg2 : Gl X "set") (hm2 : X.mg "set" = none) (hv : bootBuiltins "sorted" = some (.builtin "sorted")) (hv2 : bootBuiltins "set" = some (.type "set")) (he : DE X W e φ)
    (na : starEach [e] X.env = (false, eval e X.env) :: starEach [] X.env := by rfl) (np : (backTo pos2 (starEach [] X.env)).any (·.1) = false := by rfl)
    (na2 : starEach [Expr.Call (.Name "set" p2) [e] [] pos2] X.env = (false, eval (.Call (.Name "set" p2) [e] [] pos2) X.env) :: starEach [] X.env := by rfl) (np2 : (backTo pos (starEach [] X.env)).any (·.1) = false := by rfl) :
    DN X W (.Call (.Name "sorted" p) [.Call (.Name "set" p2) [e] [] pos2] [] pos) (xSSetA φ) := by
  have inner := pe_callTy (p := p2) (pos := pos2) (cr_setI hc) hg2 hm2 hv2 (pa_cons he pa_nil na) (by decide) (by decide) na np
  refine pe_imp (pe_callB (p := p) (pos := pos) (cr_sortedSet hc) hg hm hv (pa_cons inner pa_nil na2) (by decide) (by decide) na2 np2) fun σ H Q hq => ?_
  obtain ⟨B, F, ρ, S, w⟩ := hq
  refine ⟨B, F, ρ, S, wp_mono (wp_bind w) (fun r ρ1 w1 F1 v H1 s1 S1 q1 => ?_) fun _ _ z => z⟩
  obtain ⟨dz, e1, w2⟩ := wp_ofO w1
  obtain ⟨d, e2, e3⟩ := Option.bind_eq_some_iff.mp e1
  have fin : ∀ (l : Addr) (ns : List Int), ns.length < 64 → dz = .list ((sortU ns).map .int) → ∀ a St n, H1 a = none → (∀ k, St k = true ↔ k ∈ ns) → n ≤ ns.length → rSortedSet X.w [V.ref a] (upd H1 a (SetO X.w a St n)) Q := fun l ns hz ez a St n hn hS hl => by
    subst ez
    refine ⟨a, St, n, rfl, upd_same, by omega, fun ms q hord hmem hlen hq => ?_⟩
    have em : ms = sortU ns := ord_eq hord (sortU_ord ns) fun k => by rw [hmem, hS, mem_sortU]
    subst em
    obtain ⟨S3, N⟩ := (S1.fresh (o := SetO X.w a St n) hn).newL hq (DrAll.ints (sortU ns))
    exact w2 F1 q _ s1 S3 N
  cases d <;> simp only [gSSetA, reduceCtorEq] at e3
  · obtain ⟨ns, e4, e5⟩ := Option.bind_eq_some_iff.mp e3
    obtain ⟨hz, e6⟩ := if_some e5
    obtain ⟨l, vs, rfl, h1, h2⟩ := S1.items q1 e2
    rw [intsD_eq e4] at h2
    cases h2.of_ints
    exact .inr ⟨l, ns, rfl, h1, hz, fin l ns hz e6.symm⟩
  · obtain ⟨ns, e4, e5⟩ := Option.bind_eq_some_iff.mp e3
    obtain ⟨hz, e6⟩ := if_some e5
    obtain ⟨l, vs, rfl, h1, h2⟩ := S1.tuple q1 e2
    rw [intsD_eq e4] at h2
    cases h2.of_ints
    exact .inl ⟨l, ns, rfl, sqT_mono S1.f h1, hz, fin l ns hz e6.symm⟩
end
end DL


/-! D layer, 24: repr of an empty dict. -/
namespace DL
open PySem PySem.Spec L2 PyProof.Rows
section
variable {X : Cx} {W : WX} {K : PySem.W.Frag}
def rReprE : List V → Hp → VK → Prop := fun xs H Q => ∃ a, xs = [.ref a] ∧ Rd H a (.dK []) ∧ Q (.str (PyData.dict []).shown) H
theorem call_reprE {k : Nat} (C : Cok X W k) : CallR X (.builtin "repr") rReprE := by
  intro pins s σ H xs us Q I r h
  obtain ⟨a, rfl, e, q⟩ := h
  rw [Vals.ref1 r]
  have hu := C.rm.un
  obtain ⟨_, hd, vs, rel, o, es, ep, h1, h2, h3, h4⟩ := dk_rd I.hok e
  cases rel
  have hs : (a == sysModules) = false := hd
  have ee : es.toList = [] := by
    have h5 := h4.2.1
    cases z : es.toList with
    | nil => rfl
    | cons x r => rw [z] at h5; first | exact h5.elim | cases h5
  have rd : Reads s.heap (.ref a) (.dict []) (a :: [] ++ []) := .dict h1 h2.1 h3 (by rw [ee]; exact .nil) (by rw [ee]; exact .nil)
  exact repr_of_reads' rd rfl (fun _ m => by simp only [List.append_nil, List.mem_singleton] at m; rw [← m] at hs; simp at hs) C.gd (by show X.A.units + 2 < cLine; omega) (fun b o e => e) (fun h' u tk hk => ⟨.str _, H, I.kept hk, ⟨u, rfl⟩, q⟩) (by decide)
def gReprA : List D → Option D
  | [.dict []] => some (.str (PyData.dict []).shown)
  | as => gRepr as
def rReprA (K : PySem.W.Frag) : List V → Hp → VK → Prop := fun xs H Q => rRepr K xs H Q ∨ rReprE xs H Q
theorem call_reprA {k : Nat} (C : Cok X W k) : CallR X (.builtin "repr") (rReprA X.K) := fun pins s σ H xs us Q I r h => h.elim (call_repr C pins s σ H xs us Q I r) (call_reprE C pins s σ H xs us Q I r)
theorem gReprA_of {d dz : D} (h : gReprA [d] = some dz) : gRepr [d] = some dz ∨ (d = .dict [] ∧ dz = .str (PyData.dict []).shown) := by
  unfold gReprA at h
  split at h
  · rename_i e
    cases e
    cases h
    exact .inr ⟨rfl, rfl⟩
  · exact .inl h
theorem s1_reprA : S1 K (rReprA K) (lk gReprA) := by
  refine s1_one (fun B F ρ σ H v a d dz Q S q e e2 k => ?_) (fun ds dz e => ?_)
  · rcases gReprA_of e2 with e3 | ⟨rfl, rfl⟩
    · obtain ⟨hc, e4⟩ := if_some (show (if SeqAt.shaped d = true ∧ d.showable = true ∧ d.shown.length ≤ sizeLine then some (PyData.str d.shown) else none) = some dz from e3)
      subst e4
      exact .inl ⟨v, d, rfl, Dr.dp _ _ (SeqAt.canLay_of_shaped hc.1) (S.look q e), hc.1, hc.2.1, hc.2.2, k F _ H (Same.refl F) S (.str _)⟩
    · obtain ⟨p, kvs, rfl, h1, h2⟩ := S.dict q e
      cases h2
      exact .inr ⟨p, rfl, h1, k F _ H (Same.refl F) S (.str _)⟩
  · unfold gReprA at e
    split at e
    · exact ⟨_, rfl⟩
    · unfold gRepr at e
      split at e <;> first | exact ⟨_, rfl⟩ | cases e
end
end DL


/-! D layer, 25: dict comprehensions reckoned. -/
namespace DL
open PySem PySem.Spec L2
/-! dict comprehension whose tests are none and whose turns run clean -/
theorem dcD_map {vs : List Nat} {γ : DenG} {κ φ : Den Rv} {ρ : DL.Env} {k : D → Key} {f : D → D} {ds : List D} (h : ∀ d ∈ ds, ∃ ρ1 r ρ2 r' ρ4 ρ5, γ d ρ = some ρ1 ∧ κ ρ1 = .ok r ρ2 ∧ (look ρ2 r).bind gKey = some (k d) ∧ φ ρ2 = .ok r' ρ4 ∧ frz r' ρ4 = .ok (f d) ρ5 ∧ wipeE ρ5 vs = ρ) : ∀ es, dcD vs γ xYes κ φ ds es ρ = .ok (ds.foldl (fun es d => putD es (k d) (f d)) es) ρ := by
  induction ds with
  | nil => intro es; rfl
  | cons d ds ih =>
    intro es
    obtain ⟨ρ1, r, ρ2, r', ρ4, ρ5, h1, h2, h3, h4, h5, h6⟩ := h d List.mem_cons_self
    unfold dcD
    rw [h1]
    simp only [xYes, noX, Ans.bind_ok, if_true, h2, h3, ofO, h4, h5, h6]
    rw [ih fun e he => h e (List.mem_cons_of_mem _ he)]
    rfl
@[simp] theorem ev_dc (ι : Den (List D)) (vs : List Nat) (γ : DenG) (τ : Den Bool) (κ φ : Den Rv) (ρ : DL.Env) : xDc ι vs γ τ κ φ ρ = (ι ρ).bind fun ds ρ1 => if ds.length ≤ sizeLine then (noX (dcD vs γ τ κ φ ds [] (wipeE ρ1 vs))).bind fun es ρ2 => .ok (.dict es) (unwipe ρ1 ρ2 vs) else .bad := (rfl)
end DL


/-! D layer, 26: more for reckoning: steps that the kernel need not look into. -/
namespace DL
open PySem PySem.Spec L2
@[simp high] theorem oBind_some {α β : Type} (a : α) (f : α → Option β) : Option.bind (some a) f = f a := (rfl)
@[simp high] theorem oMap_some {α β : Type} (a : α) (f : α → β) : Option.map f (some a) = some (f a) := (rfl)
@[simp] theorem items_tuple (ds : List D) : itemsOf (.tuple ds) = some ds := (rfl)
@[simp] theorem items_list (ds : List D) : itemsOf (.list ds) = some ds := (rfl)
theorem gRange3_ok {i j : Int} (h : -(2 ^ 62) ≤ i ∧ i < 2 ^ 62 ∧ -(2 ^ 62) ≤ j ∧ j < 2 ^ 62) : gRange3 [.int i, .int j, .int (-1)] = some (downL i (i - j).toNat) := if_pos ⟨rfl, h⟩
theorem lcD_filter {β : Type} {vs : List Nat} {γ : DenG} {τ : Den Bool} {φ : Den Rv} {ρ : DL.Env} {g f : β → D} {P : β → Bool} {bs : List β} (h : ∀ b ∈ bs, ∃ ρ1, lcTurn γ τ φ (g b) ρ = .ok (if P b = true then some (f b) else none) ρ1 ∧ wipeE ρ1 vs = ρ) : lcD vs γ τ φ (bs.map g) ρ = .ok ((bs.filter P).map f) ρ := by
  induction bs with
  | nil => rfl
  | cons b bs ih =>
    obtain ⟨ρ1, h1, h2⟩ := h b List.mem_cons_self
    rw [List.map_cons, lcD_cons, h1, Ans.bind_ok, h2, ih fun c hc => h c (List.mem_cons_of_mem _ hc), Ans.bind_ok, List.filter_cons]
    cases P b <;> rfl
@[simp] theorem ev_while (n : Nat) (c : Den Bool) (ψ : DenS) (ρ : DL.Env) : yWhile n c ψ ρ = whileD c ψ n ρ := (rfl)
/-- what is taken, by a test that draws -/
theorem lcD_sub {vs : List Nat} {γ : DenG} {τ : Den Bool} {φ : Den Rv} {I : DL.Env → Prop} : ∀ {ds : List D} {ρ : DL.Env}, I ρ → (∀ d ∈ ds, ∀ ρ, I ρ → ∃ o ρ1, lcTurn γ τ φ d ρ = .ok o ρ1 ∧ (o = none ∨ o = some d) ∧ I (wipeE ρ1 vs)) →
    ∃ xs ρ', lcD vs γ τ φ ds ρ = .ok xs ρ' ∧ I ρ' ∧ xs.Sublist ds
  | [], ρ, i, _ => ⟨[], ρ, rfl, i, .slnil⟩
  | d :: ds, ρ, i, h => by
    obtain ⟨o, ρ1, h1, h2, h3⟩ := h d List.mem_cons_self ρ i
    obtain ⟨xs, ρ', h4, h5, h6⟩ := lcD_sub (ds := ds) h3 fun e he => h e (List.mem_cons_of_mem _ he)
    rcases h2 with rfl | rfl
    · exact ⟨xs, ρ', by rw [lcD_cons, h1, Ans.bind_ok, h4, Ans.bind_ok]; rfl, h5, .cons _ h6⟩
    · exact ⟨d :: xs, ρ', by rw [lcD_cons, h1, Ans.bind_ok, h4, Ans.bind_ok]; rfl, h5, .cons_cons _ h6⟩
theorem rangeL_cons (i : Int) (n : Nat) : rangeL i (n + 1) = .int i :: rangeL (i + 1) n := by
  unfold rangeL
  rw [List.range_succ_eq_map, List.map_cons, List.map_map]
  congr 1
  · show PyData.int _ = PyData.int _
    congr 1
    show i + ((0 : Nat) : Int) = i
    omega
  · apply List.map_congr_left
    intro k _
    show PyData.int _ = PyData.int _
    congr 1
    show i + ((k + 1 : Nat) : Int) = i + 1 + (k : Int)
    omega
theorem gRgn1_ok {j : Int} (h : -(2 ^ 62) ≤ j ∧ j ≤ 16777216) : gRgn1 (.int j) = some (rangeL 0 j.toNat) := if_pos h
end DL


/-! D layer, 28: own exceptions: an __init__ that says super().__init__(..). -/
namespace DL
open PySem PySem.Spec L2 PyProof.Rows
/-- the context of such an __init__'s body -/
def cxS (CX : CXT) (P : Program) (w : World) (K : PySem.W.Frag) (mg : Str → Option Value) (base : Heap) (N : List Str) (qual : Str) (scope : Scope) (f : Addr) (cd : Value) (cc : Addr) (A : Around) (outer : List PySem.Env) (s : Shared) (H : Hp) (E : XK) : Cx where
  prog := P
  w := w
  K := K
  mg := mg
  base := base
  A := A.deeper (PySem.W.ksEnv qual scope s.heap.objs.size f cd cc)
  N := N
  s_0 := s
  H_0 := H
  env := PySem.W.ksEnv qual scope s.heap.objs.size f cd cc
  outer := outer
  stack := PySem.W.ksEnv qual scope s.heap.objs.size f cd cc :: outer
  ex := []
  calm := true
  fn := fun _ => false
  pn := []
  xe := fun e s' => wpAny (model P w) (A.deeper (PySem.W.ksEnv qual scope s.heap.objs.size f cd cc)) (leaving (PySem.W.ksEnv qual scope s.heap.objs.size f cd cc) e) (fun _ s'' => CX outer H s E e s'') (fun e' s'' => CX outer H s E e' s'') s'
/-- its names: the parameters, __class__ free, super global -/
structure SupScope (ps : List Str) (sc : Scope) : Prop where
  kind : sc.kind = .function
  co : sc.isCoroutine = false
  gen : sc.isGenerator = false
  nd : ps.Nodup
  par : ∀ x ∈ ps, sc.names.lookup x = some .local
  cls : sc.names.lookup ("__class__" : Str) = some .free
  sup : sc.names.lookup ("super" : Str) = some .globalImplicit
  nocell : ∀ x ∈ sc.names, x.2 ≠ .cell
  free : ∀ x, sc.names.lookup x = some .free → x = "__class__"
theorem zip_fst_sub {α β : Type} : ∀ (P : List α) (vs : List β), ((P.zip vs).map (·.1)).Sublist P
  | [], _ => by simp
  | _ :: P, [] => by simp
  | p :: P, v :: vs => by
    show (p :: (P.zip vs).map (·.1)).Sublist (p :: P)
    exact (zip_fst_sub P vs).cons_cons p
theorem lookup_zip {x : Str} {v : Value} : ∀ {P : List Str} {vs : List Value} {i : Nat}, P.Nodup → P[i]? = some x → vs[i]? = some v → (P.zip vs).reverse.lookup x = some v := by
  intro P vs i nd h1 h2
  have hmem : (x, v) ∈ (P.zip vs).reverse := by
    rw [List.mem_reverse]
    have : (P.zip vs)[i]? = some (x, v) := by rw [List.getElem?_zip_eq_some]; exact ⟨h1, h2⟩
    exact List.mem_of_getElem? this
  have nodup : ((P.zip vs).reverse.map (·.1)).Nodup := by
    rw [List.map_reverse]
    refine List.Nodup.perm ?_ (List.reverse_perm _).symm
    exact nd.sublist (zip_fst_sub P vs)
  revert hmem nodup
  generalize (P.zip vs).reverse = l
  intro hmem nodup
  induction l with
  | nil => cases hmem
  | cons p l ih =>
    obtain ⟨y, u⟩ := p
    rw [List.map_cons, List.nodup_cons] at nodup
    rcases List.mem_cons.mp hmem with e | e
    · cases e
      simp [List.lookup]
    · have : x ≠ y := fun z => nodup.1 (by
        rw [← z]
        exact List.mem_map.mpr ⟨(x, v), e, rfl⟩)
      have : (x == y) = false := by simpa using this
      rw [List.lookup_cons, this]
      exact ih e nodup.2
theorem inv_startS {CX : CXT} {P : Program} {w : World} {K : PySem.W.Frag} {mg : Str → Option Value} {base : Heap} {ps : List Str} {qual : Str} {scope : Scope} {f cc : Addr} {cd : Value} {A : Around} {outer : List PySem.Env} {s : Shared} {H : Hp} {E : XK} {us : List Value} {vs : List V} {h1 : Heap} {tk : Nat} {oc : Value} {od : Option Addr} {ov : Option Value} {sl : Array (Option Value)}
    (S : SupScope ps scope) (hd : A.handled = none) (e0 : Env0 P w K mg base A outer s H) (hl : vs.length = ps.length) (r : Vals vs us) (hcc : K.lookup cc = some ⟨oc, od, .cell ov, sl⟩)
    (hns : h1.Ns s.heap.objs.size (fun x => (ps.zip us).reverse.lookup x)) (hk : ∀ b o, s.heap.get? b = some o → h1.get? b = some o) :
    L2.Inv (cxS CX P w K mg base ps qual scope f cd cc A outer s H E) [] (vs.map some) H { s with heap := h1, toks := tk } := by
  have noA : ∀ b : Addr, b ∉ (cxS CX P w K mg base ps qual scope f cd cc A outer s H E).ex := fun b z => absurd (show b ∈ ([] : List Addr) from z) (by simp)
  have cells : ∀ {y : Str} {c : Addr}, (cxS CX P w K mg base ps qual scope f cd cc A outer s H E).env.cells.lookup y = some c → y = "__class__" ∧ c = cc := fun {y c} h => by
    have h : ([(("__class__" : Str), cc)] : List (Str × Addr)).lookup y = some c := h
    rw [List.lookup_cons] at h
    split at h
    · rename_i e
      exact ⟨by simpa using e, by cases h; rfl⟩
    · cases h
  have cb := e0.mod.kin _ _ hcc
  obtain ⟨cb1, cb2⟩ := e0.bs _ _ cb
  refine ⟨⟨e0.mod, S.kind, rfl, rfl, Nat.le_refl _, fun y z c h1 h2 => ?_, fun y hy => ?_, fun y c z => (Bool.noConfusion z), fun _ => hd, Around.frames_deeper e0.frames, .inr ⟨rfl, rfl⟩, fun b z => absurd z (noA b), e0.bs, e0.bsz, fun b _ _ => noA b, fun b z => absurd z (noA b), e0.funs, e0.frf⟩,
    rfl, e0.bare, Un.kept hk, ⟨_, hns, fun i y v h1 h2 h3 => ?_⟩, fun y c h => ?_, e0.hok.fresh (Nat.le_refl _), fun y c h => ?_, fun p hp => absurd (show p ∈ ([] : List (Addr × Obj)) from hp) (by simp), e0.hok.kept hk, ?_⟩
  · rw [(cells h1).1, (cells h2).1]
  · have hy : scope.names.lookup y = some .cell ∨ scope.names.lookup y = some .free := hy
    rcases hy with hy | hy
    · exact absurd rfl (S.nocell _ (PySem.mem_of_lookup hy))
    · rw [S.free y hy]
      exact ⟨cc, by show ([((("__class__" : Str)), cc)] : List (Str × Addr)).lookup ("__class__" : Str) = some cc; rw [List.lookup_cons_self]⟩
  · have h2' : (vs.map some)[i]? = some (some v) := h2
    rw [List.getElem?_map] at h2'
    obtain ⟨a, ha, e⟩ := Option.map_eq_some_iff.mp h2'
    cases e
    obtain ⟨u, hu, rv⟩ := r.get ha
    exact ⟨u, rv, .inl ⟨S.par y (List.mem_of_getElem? h1), lookup_zip S.nd h1 hu⟩⟩
  · obtain ⟨rfl, rfl⟩ := cells h
    exact ⟨ov, ⟨_, hk _ _ cb1, rfl⟩⟩
  · obtain ⟨rfl, rfl⟩ := cells h
    exact cb2
  · show (vs.map some).length = ps.length
    rw [List.length_map, hl]

/-- what the written part says of such an __init__'s class C: super() there is over D's def of it -/
structure SupC (P : Program) (K : PySem.W.Frag) (mg : Str → Option Value) (C D cc cda : Addr) : Prop where
  oex : OexC K C
  cell : ∃ oc od sl, K.lookup cc = some ⟨oc, od, .cell (some (.ref D)), sl⟩
  clsD : ∃ cd, PySem.W.clsIn K D = some cd
  sub : PySem.W.mroIn K C (.ref D) = some true
  any : PySem.W.nsIn K cStatics "thirdparty.any" = some none
  ini : PySem.W.ks_superIn K C D "__init__" = some (some (.builtin "ValueError.__init__"))
  subB : PySem.W.subIn K (.ref C) (.type "ValueError") = some true
  code : ∃ ccl cdd vs ccs file tf, K.lookup cda = some ⟨ccl, cdd, .fields vs, ccs⟩ ∧ vs[2]? = some (.str file tf) ∧ ((P.main.file : Str) == file) = true
  top : (P.main.scope.names.lookup ("super" : Str)).isSome = false
  mgS : mg "super" = none

section
variable {P : Program} {w : World} {K : PySem.W.Frag} {mg : Str → Option Value} {base : Heap} {CX : CXT}
theorem fn_sup {name qual : Str} {params : Arguments} {body rest : List Stmt} {scope : Scope} {dV kV doc pm ct ocf : Value} {an odf : Option Addr} {osl : Array (Option Value)} {f cc cda C D : Addr} {ps : List Str} {x0 : Str} {a0 : Arg} {sp : Sp} {e : Expr} {es : List Expr} {p0 p1 p2 p3 p4 : Pos} {ta : TA} {t : TS}
    (lk : K.lookup f = some ⟨ocf, odf, .func (PySem.W.ksFn name qual params body scope dV kV doc pm an (.ref cda) ct cc), osl⟩) (hcd : PySem.W.codeIn K (.ref cda) qual = true) (S : SupScope (x0 :: ps) scope)
    (ha0 : (params.posonlyargs ++ params.args).head? = some a0) (hx0 : a0.arg = x0) (hb : body = .Expr (.Call (.Attribute (.Call (.Name "super" p0) [] [] p1) "__init__" p2) (e :: es) [] p3) p4 :: rest) (T : SupC P K mg C D cc cda)
    (hargs : ∀ (A : Around) (outer : List PySem.Env) (s : Shared) (H : Hp) (E : XK), PA (cxS CX P w K mg base (x0 :: ps) qual scope f (.ref cda) cc A outer s H E) (e :: es) ta)
    (hrest : ∀ (A : Around) (outer : List PySem.Env) (s : Shared) (H : Hp) (E : XK), PSs (cxS CX P w K mg base (x0 :: ps) qual scope f (.ref cda) cc A outer s H E) rest t)
    (len : ∀ vs H Q E, sp vs H Q E → vs.length = (x0 :: ps).length)
    (hsp : ∀ vs H Q E, sp vs H Q E → ∃ a ws, vs = V.ref a :: ws ∧ H a = some (exo a C none) ∧ ta (vs.map some) H (fun zs H1 => H1 = H ∧ zs.length ≤ 1000 ∧ t { nx := fun _ H' => Q .non H', rt := Q } (vs.map some) H))
    (he : ∀ env : PySem.Env, starEach (e :: es) env = (false, eval e env) :: starEach es env := by intro env; rfl) (hpl : ∀ env : PySem.Env, (backTo p3 (starEach es env)).any (·.1) = false := by intro env; rfl)
    (hpl0 : ∀ env : PySem.Env, env.scope.kind = .function → ∃ pl, eval (.Call (.Attribute (.Call (.Name "super" p0) [] [] p1) "__init__" p2) (e :: es) [] p3) env = (do
      let ov ← attributeBase (.Call (.Name "super" p0) [] [] p1) "__init__" env (eval (.Call (.Name "super" p0) [] [] p1) env)
      standAt p2.atName
      let (f, first) ← holding [ov] (getMethod ov "__init__" pl)
      callWith p3 f first (backTo p3 (starEach (e :: es) env)) []) := by intro env _; exact ⟨_, rfl⟩) :
    FnOk P w K mg base CX 1 f (PySem.W.ksFn name qual params body scope dV kV doc pm an (.ref cda) ct cc) (x0 :: ps) sp := by
  subst hb
  refine ⟨len, fun A outer s H args us vs Q E hr e0 hbind rv hspv => ?_⟩
  have hl := len _ _ _ _ hspv
  obtain ⟨a, ws, rfl, ea, hta⟩ := hsp _ _ _ _ hspv
  have KX : K.In s.heap := e0.mod.kin.keeps fun b o z => (e0.bs b o z).1
  have lim : s.heap.NoLimit := e0.mod.nolimit.keeps fun b o z => (e0.bs b o z).1
  obtain ⟨occ, odc, slc, lkc⟩ := T.cell
  obtain ⟨cdD, hcdD⟩ := T.clsD
  obtain ⟨ccl, cdd, fv, ccs, file, tf, lka, hfv, hfile⟩ := T.code
  obtain ⟨nm, qn, N, bs, bm, sn, sub, ab, col, dd, k0, k1, k2, k3, k5, hC, hbm⟩ := T.oex.cls
  obtain ⟨t1, hob⟩ := exo_at e0.hok ea
  refine PySem.ks_codeAny_call_defAt (fd := PySem.W.ksFn name qual params _ scope dV kV doc pm an (.ref cda) ct cc) hr.depth (KX _ _ lk) rfl lim (PySem.W.codeRec_of KX hcd) rfl hbind S.nocell (fun y hy => ?_) (fun h₁ hns hk₁ => ?_) S.co S.gen S.kind
  · obtain ⟨n, v⟩ := y
    exact S.par n (List.of_mem_zip hy).1
  have I : L2.Inv (cxS CX P w K mg base (x0 :: ps) qual scope f (.ref cda) cc A outer s H E) [] ((V.ref a :: ws).map some) H { s with heap := h₁, toks := s.toks + ((x0 :: ps).zip us).length } := inv_startS S hr.hd e0 hl rv lkc hns hk₁
  obtain ⟨pl, hev⟩ := hpl0 (PySem.W.ksEnv qual scope s.heap.objs.size f (.ref cda) cc) S.kind
  obtain ⟨u0, ur, rfl⟩ : ∃ u0 ur, us = u0 :: ur := by
    cases rv with
    | cons r t => exact ⟨_, _, rfl⟩
  have ru : u0 = Value.ref a := by
    cases rv with
    | cons r t => exact r
  subst ru
  have KX1 : K.In h₁ := KX.keeps hk₁
  have hob1 := hk₁ _ _ hob
  have hi : interactive (PySem.W.ksEnv qual scope s.heap.objs.size f (.ref cda) cc) = false := by
    unfold interactive
    simp [S.kind]
  refine PySem.ks_wpAt_execs_cons (PySem.ks_wpAt_Expr_any (PySem.ks_wpAt_MethodCall (pl := pl) ?_ hev) hi)
  have m0 : (((x0 :: ps).zip (Value.ref a :: ur)).reverse).lookup x0 = some (Value.ref a) := lookup_zip (i := 0) S.nd rfl rfl
  obtain ⟨mb, mb1, mb2⟩ := e0.mod.blt
  obtain ⟨oD, hD1, hD2⟩ : ∃ oD, h₁.get? D = some oD ∧ oD.data = .cls cdD := by
    have hcdD' := hcdD
    unfold PySem.W.clsIn at hcdD'
    split at hcdD'
    · rename_i c d cd' sl ho
      cases hcdD'
      exact ⟨_, KX1 _ _ ho, rfl⟩
    · cases hcdD'
  have bs1 : ∀ b o, base.get? b = some o → h₁.get? b = some o := fun b o z => hk₁ b o (e0.bs b o z).1
  refine PySem.ks_wpAt_super_base (env := PySem.W.ksEnv qual scope s.heap.objs.size f (.ref cda) cc) S.sup S.cls (by decide) rfl (KX1 _ _ lk) rfl ha0 rfl (KX1 _ _ lka) rfl hfv hfile T.top ?_
  refine PySem.W.ks_loadName_global (env := PySem.W.ksEnv qual scope s.heap.objs.size f (.ref cda) cc) S.kind S.sup (Calls.loadGlobal_builtin (env := PySem.W.ksEnv qual scope s.heap.objs.size f (.ref cda) cc) (e0.mod.glob.keeps bs1) T.mgS (mb1.keeps bs1) ((mb2 _ (by decide)).trans (by rfl)) ⟨rfl, ?_⟩)
  refine wpAny_loadName_free (env := PySem.W.ksEnv qual scope s.heap.objs.size f (.ref cda) cc) S.kind S.cls rfl ⟨_, KX1 _ _ lkc, rfl⟩ ?_
  rw [hx0]
  refine wpAny_loadName_local (env := PySem.W.ksEnv qual scope s.heap.objs.size f (.ref cda) cc) S.kind (S.par x0 List.mem_cons_self) hns m0 ?_
  refine PySem.ks_wpAny_isType_cls hD1 hD2 ⟨rfl, ?_⟩
  refine PySem.ks_wpAny_call_super hD1 hD2 hob1 rfl (fun c z => by cases z) (PySem.W.looks_mroIn KX1 T.sub) (fun h2 e2 k2 => ?_)
  have KX2 : K.In h2 := KX1.keeps k2
  obtain ⟨cdC, hcdC⟩ : ∃ cd, PySem.W.clsIn K C = some cd := by
    have := T.ini
    unfold PySem.W.ks_superIn at this
    cases z : PySem.W.clsIn K C with
    | none => rw [z] at this; cases this
    | some cd => exact ⟨cd, rfl⟩
  have hini : PySem.W.alongIn K "__init__" ((cdC.mro.dropWhile (· != .ref D)).drop 1) = some (some (.builtin "ValueError.__init__")) := by
    have := T.ini
    unfold PySem.W.ks_superIn at this
    rw [hcdC] at this
    exact this
  have hob2 := k2 _ _ hob1
  have hI : PySem.W.Looks (model P w) h2 (isInstance (.ref a) (.type "ValueError")) true := (show PySem.W.InstAt h2 a _ C none from ⟨hob2, rfl, rfl, trivial⟩).type.andThen (PySem.W.looks_subIn KX2 T.subB)
  have hne : a ≠ C := PySem.W.ks_ne KX2 (show PySem.W.InstAt h2 a _ C none from ⟨hob2, rfl, rfl, trivial⟩) hcdC
  refine PySem.W.kxs_getMethod PySem.W.kxs_ValueError e2 (PySem.W.looks_opaque KX2 T.any) (l₀ := cdC.mro) (fun A Q E s k q => wpAny_bind ((PySem.W.looks_clsIn KX2 hcdC) A _ E s k (wpAny_pure q))) rfl KX2 hini hI hne (by decide) ?_
  -- the wrapper stands at u
  have k3 : ∀ b o, h₁.get? b = some o → (h2.push (PySem.W.kxs_mw "ValueError.__init__" a)).get? b = some o := fun b o z => Heap.get?_push_of_some _ (k2 b o z)
  have hu : (h2.push (PySem.W.kxs_mw "ValueError.__init__" a)).get? h2.objs.size = some (PySem.W.kxs_mw "ValueError.__init__" a) := Heap.get?_push_at rfl rfl
  have I3 := I.kept (h' := h2.push (PySem.W.kxs_mw "ValueError.__init__" a)) (t' := s.toks + ((x0 :: ps).zip (Value.ref a :: ur)).length + 1) k3
  have hsz : h₁.objs.size ≤ h2.objs.size := by
    exact Nat.le_of_lt (Heap.lt_size e2)
  have I4 : L2.Inv (cxS CX P w K mg base (x0 :: ps) qual scope f (.ref cda) cc A outer s H E) [(h2.objs.size, PySem.W.kxs_mw "ValueError.__init__" a)] ((V.ref a :: ws).map some) H _ := I3.pins_of (fun p hp => by
    rw [List.mem_singleton.mp hp]
    refine ⟨hu, I.hok.fresh hsz, fun z => ?_, I.nofs hsz, fun v z => by cases z⟩
    have := I.lt
    have z : h2.objs.size = (cxS CX P w K mg base (x0 :: ps) qual scope f (.ref cda) cc A outer s H E).env.locals := z
    rw [← z] at this
    have q : h2.objs.size < h₁.objs.size := this
    exact absurd (Nat.lt_of_lt_of_le q hsz) (Nat.lt_irrefl _))
  -- the call
  have hcall : ∀ (s1 : Shared) (us1 : List Value), L2.Inv (cxS CX P w K mg base (x0 :: ps) qual scope f (.ref cda) cc A outer s H E) [(h2.objs.size, PySem.W.kxs_mw "ValueError.__init__" a)] ((V.ref a :: ws).map some) H s1 → us1.length ≤ 1000 →
      ∀ (Q' : Value → Shared → Prop) (E' : Value → Shared → Prop) (A' : Around), (∀ s2, L2.Inv (cxS CX P w K mg base (x0 :: ps) qual scope f (.ref cda) cc A outer s H E) [(h2.objs.size, PySem.W.kxs_mw "ValueError.__init__" a)] ((V.ref a :: ws).map some) H s2 → Q' .none s2) →
      wpAny (model P w) A' (call (.ref h2.objs.size) us1) Q' E' s1 := fun s1 us1 J hz Q' E' A' hq => by
    have hu1 : s1.heap.get? h2.objs.size = some (PySem.W.kxs_mw "ValueError.__init__" a) := (J.pin (h2.objs.size, PySem.W.kxs_mw "ValueError.__init__" a) (by simp [cxS])).1
    obtain ⟨t2, ho2⟩ := exo_at J.hok ea
    have hC1 := J.kIn _ _ hC
    obtain ⟨hh, g, d, tk, os⟩ := s1
    refine wpAny_call (codeAny_of_tree ?_)
    show wpAny _ A'.in1 (callAny (.ref h2.objs.size) ⟨us1, []⟩) _ _ _
    simp only [callAny]
    refine wpAny_bind (wpAny_load hu1 ?_)
    simp only [PySem.W.kxs_mw, show (Value.type "method-wrapper" == Value.type "method" || Value.type "method-wrapper" == Value.type "builtin_function_or_method" || Value.type "method-wrapper" == Value.type "method-wrapper") = true by decide, if_true]
    refine PySem.W.KFB.if_so (by decide) ?_
    refine wpAny_bind (PySem.W.check_bound_init PySem.F.excBase_ValueError.toExcCallFacts hC1 ho2 rfl ?_)
    refine wpAny_bind (wpAny_pure (wpAny_pure ?_))
    refine ⟨plainId_quiet PySem.F.excBase_ValueError.init.plain _, codeAny_builtin PySem.F.excBase_ValueError.initEntry ?_⟩
    refine PySem.W.exc_init_tree (cls := .ref C) (t0 := t2) (dv := none) (c2 := .none) (c3 := .none) (b4 := .bool false) ho2 (by rw [sizeLine_eq]; omega) fun h' k' e' t' => ?_
    have J2 := J.write (h' := h') (t' := tk) (x := a) (e := a) (o := exo a C none) (by rw [ea]; exact True.intro) (.inl rfl) k' ⟨_, e'⟩ (exo_ok e')
    have eu : upd H a (exo a C none) = H := by
      funext b
      by_cases hb : b = a
      · rw [hb, upd_same, ea]
      · rw [upd_ne hb]
    rw [eu] at J2
    exact hq _ J2
  have he' := he (PySem.W.ksEnv qual scope s.heap.objs.size f (.ref cda) cc)
  have hpl' := hpl (PySem.W.ksEnv qual scope s.heap.objs.size f (.ref cda) cc)
  have hz0 := (hargs A outer s H E).run p3 _ _ _ _ _ I4 hta
  have henv : (cxS CX P w K mg base (x0 :: ps) qual scope f (.ref cda) cc A outer s H E).env = PySem.W.ksEnv qual scope s.heap.objs.size f (.ref cda) cc := rfl
  rw [henv, he'] at hz0
  show wpAny _ _ (callWith p3 (.ref h2.objs.size) [] (backTo p3 (starEach (e :: es) (PySem.W.ksEnv qual scope s.heap.objs.size f (.ref cda) cc))) []) _ _ _
  rw [he']
  refine PySem.W.kxs_callWith (i := "ValueError.__init__") (x := a) (by show (false || (backTo p3 (starEach es _)).any (·.1)) = false; rw [hpl']; rfl) (PySem.Calls.evalArgs_plain (wpAny_mono hz0 (fun us1 s1 hs1 => ?_) fun e1 s1 z => z))
  obtain ⟨zs, H1, J, rz, rfl, hz, ht⟩ := hs1
  refine ⟨(J.pin (h2.objs.size, PySem.W.kxs_mw "ValueError.__init__" a) (by simp [cxS])).1, ?_⟩
  refine hcall s1 us1 J (by have := rz.length; omega) _ _ _ fun s2 J2 => ?_
  show _root_.PySem.wpAt _ _ _ (execs rest _) _ _ _
  refine _root_.PySem.wpAt_of_wpAny (wpAny_mono ((hrest A outer s H1 E).run _ _ _ _ _ J2 ht) (fun fl s' hs => ?_) fun e1 s1 z => z)
  cases fl with
  | ret u =>
    obtain ⟨v, σ', H', J, rv, q⟩ := hs
    exact ⟨v, H', J.os, J.bare, J.base, J.hok, rv, q⟩
  | next =>
    obtain ⟨σ', H', J, q⟩ := hs
    exact ⟨V.non, H', J.os, J.bare, J.base, J.hok, rfl, q⟩
  | brk =>
    obtain ⟨_, _, _, q⟩ := hs
    exact q.elim
  | cont =>
    obtain ⟨_, _, _, q⟩ := hs
    exact q.elim
end
end DL


/-! D layer, 29: own exceptions raised. -/
namespace DL
open PySem PySem.Spec L2 PyProof.Rows
/-- what such an __init__ promises: the fields stand in the exception's dict -/
def spErr (C : Addr) (fs : List Str) : Sp := fun vs H Q _ => ∃ a ws, vs = V.ref a :: ws ∧ ws.length = fs.length ∧ H a = some (exo a C none) ∧
  ∀ d H', H d = none → d ≠ a → H' a = some (exo a C (some d)) → H' d = some (exd d (fs.zip ws).reverse) → (∀ b, b ≠ a → b ≠ d → H' b = H b) → Q .non H'
section
variable {P : Program} {w : World} {K : PySem.W.Frag} {mg : Str → Option Value} {base : Heap} {CX : CXT}
theorem fn_sup1 {name qual x0 f1 : Str} {params : Arguments} {body : List Stmt} {scope : Scope} {dV kV doc pm ct ocf : Value} {an odf : Option Addr} {osl : Array (Option Value)} {f cc cda C : Addr} {a0 : Arg} {p0 p1 p2 p3 p4 p5 p6 p7 p8 q1 : Pos}
    (lk : K.lookup f = some ⟨ocf, odf, .func (PySem.W.ksFn name qual params body scope dV kV doc pm an (.ref cda) ct cc), osl⟩) (hcd : PySem.W.codeIn K (.ref cda) qual = true) (S : SupScope [x0, f1] scope)
    (ha0 : (params.posonlyargs ++ params.args).head? = some a0) (hx0 : a0.arg = x0) (T : SupC P K mg C C cc cda) (n1 : PySem.W.findIn K (.ref C) f1 = some none)
    (hb : body = [.Expr (.Call (.Attribute (.Call (.Name "super" p0) [] [] p1) "__init__" p2) [.Name f1 q1] [] p3) p4, .Assign [.Attribute (.Name x0 p5) f1 p6] (.Name f1 p7) p8])
    (d0 : (x0 == ("__debug__" : Str)) = false) (c0 : (x0 == ("__classdict__" : Str)) = false) (d1 : (f1 == ("__debug__" : Str)) = false) (c1 : (f1 == ("__classdict__" : Str)) = false)
    (hs1 : ∀ env : PySem.Env, swapsWith (.Name f1 p7) (some (.Attribute (.Name x0 p5) f1 p6)) p8.line env = pure false)
    (hpl0 : ∀ env : PySem.Env, env.scope.kind = .function → ∃ pl, eval (.Call (.Attribute (.Call (.Name "super" p0) [] [] p1) "__init__" p2) [.Name f1 q1] [] p3) env = (do
      let ov ← attributeBase (.Call (.Name "super" p0) [] [] p1) "__init__" env (eval (.Call (.Name "super" p0) [] [] p1) env)
      standAt p2.atName
      let (f, first) ← holding [ov] (getMethod ov "__init__" pl)
      callWith p3 f first (backTo p3 (starEach [.Name f1 q1] env)) [])) :
    FnOk P w K mg base CX 1 f (PySem.W.ksFn name qual params body scope dV kV doc pm an (.ref cda) ct cc) [x0, f1] (spErr C [f1]) := by
  have v0 : Vis scope x0 := .inl (S.par x0 (by simp))
  have v1 : Vis scope f1 := .inl (S.par f1 (by simp))
  refine fn_sup lk hcd S ha0 hx0 hb T (fun A outer s H E => pa_cons (pe_var (i := 1) rfl v1 d1 c1) pa_nil) (fun A outer s H E => pss_one (show PS _ _ (tOst K f1 (tVar 0) (tVar 1)) from ps_ost (pe_var (i := 0) rfl v0 d0 c0) (pe_var (i := 1) rfl v1 d1 c1) (hs1 _))) (fun vs H Q E h => ?_) (fun vs H Q E h => ?_) (hpl0 := hpl0)
  · obtain ⟨a, ws, rfl, hl, _⟩ := h
    simpa using hl
  · obtain ⟨a, ws, rfl, hl, ea, hq⟩ := h
    obtain ⟨y, rfl⟩ : ∃ y, ws = [y] := by
      match ws, hl with
      | [y], _ => exact ⟨y, rfl⟩
    refine ⟨a, [y], rfl, ea, y, rfl, rfl, by simp, y, rfl, .ref a, rfl, a, C, rfl, T.oex, n1, .inl ⟨ea, fun dx hd hne => ?_⟩⟩
    refine hq dx _ hd hne upd_same ?_ (fun b h1 h2 => by rw [upd_ne h1, upd_ne h2])
    rw [upd_ne hne, upd_same]
    rfl
theorem fn_sup2 {name qual x0 f1 f2 : Str} {params : Arguments} {body : List Stmt} {scope : Scope} {dV kV doc pm ct ocf : Value} {an odf : Option Addr} {osl : Array (Option Value)} {f cc cda C : Addr} {a0 : Arg} {p0 p1 p2 p3 p4 p5 p6 p7 p8 p9 p10 p11 p12 q1 q2 : Pos}
    (lk : K.lookup f = some ⟨ocf, odf, .func (PySem.W.ksFn name qual params body scope dV kV doc pm an (.ref cda) ct cc), osl⟩) (hcd : PySem.W.codeIn K (.ref cda) qual = true) (S : SupScope [x0, f1, f2] scope)
    (ha0 : (params.posonlyargs ++ params.args).head? = some a0) (hx0 : a0.arg = x0) (T : SupC P K mg C C cc cda) (n1 : PySem.W.findIn K (.ref C) f1 = some none) (n2 : PySem.W.findIn K (.ref C) f2 = some none)
    (hb : body = [.Expr (.Call (.Attribute (.Call (.Name "super" p0) [] [] p1) "__init__" p2) [.Name f1 q1, .Name f2 q2] [] p3) p4, .Assign [.Attribute (.Name x0 p5) f1 p6] (.Name f1 p7) p8, .Assign [.Attribute (.Name x0 p9) f2 p10] (.Name f2 p11) p12])
    (d0 : (x0 == ("__debug__" : Str)) = false) (c0 : (x0 == ("__classdict__" : Str)) = false) (d1 : (f1 == ("__debug__" : Str)) = false) (c1 : (f1 == ("__classdict__" : Str)) = false) (d2 : (f2 == ("__debug__" : Str)) = false) (c2 : (f2 == ("__classdict__" : Str)) = false)
    (hs1 : ∀ env : PySem.Env, swapsWith (.Name f1 p7) (some (.Attribute (.Name x0 p5) f1 p6)) p8.line env = pure false)
    (hs2 : ∀ env : PySem.Env, swapsWith (.Name f2 p11) (some (.Attribute (.Name x0 p9) f2 p10)) p12.line env = pure false)
    (hpl0 : ∀ env : PySem.Env, env.scope.kind = .function → ∃ pl, eval (.Call (.Attribute (.Call (.Name "super" p0) [] [] p1) "__init__" p2) [.Name f1 q1, .Name f2 q2] [] p3) env = (do
      let ov ← attributeBase (.Call (.Name "super" p0) [] [] p1) "__init__" env (eval (.Call (.Name "super" p0) [] [] p1) env)
      standAt p2.atName
      let (f, first) ← holding [ov] (getMethod ov "__init__" pl)
      callWith p3 f first (backTo p3 (starEach [.Name f1 q1, .Name f2 q2] env)) [])) :
    FnOk P w K mg base CX 1 f (PySem.W.ksFn name qual params body scope dV kV doc pm an (.ref cda) ct cc) [x0, f1, f2] (spErr C [f1, f2]) := by
  have v0 : Vis scope x0 := .inl (S.par x0 (by simp))
  have v1 : Vis scope f1 := .inl (S.par f1 (by simp))
  have v2 : Vis scope f2 := .inl (S.par f2 (by simp))
  refine fn_sup lk hcd S ha0 hx0 hb T (fun A outer s H E => pa_cons (pe_var (i := 1) rfl v1 d1 c1) (pa_cons (pe_var (i := 2) rfl v2 d2 c2) pa_nil)) (fun A outer s H E => pss_cons (show PS _ _ (tOst K f1 (tVar 0) (tVar 1)) from ps_ost (pe_var (i := 0) rfl v0 d0 c0) (pe_var (i := 1) rfl v1 d1 c1) (hs1 _)) (pss_one (show PS _ _ (tOst K f2 (tVar 0) (tVar 2)) from ps_ost (pe_var (i := 0) rfl v0 d0 c0) (pe_var (i := 2) rfl v2 d2 c2) (hs2 _)))) (fun vs H Q E h => ?_) (fun vs H Q E h => ?_) (hpl0 := hpl0)
  · obtain ⟨a, ws, rfl, hl, _⟩ := h
    simpa using hl
  · obtain ⟨a, ws, rfl, hl, ea, hq⟩ := h
    obtain ⟨y, z, rfl⟩ : ∃ y z, ws = [y, z] := by
      match ws, hl with
      | [y, z], _ => exact ⟨y, z, rfl⟩
    refine ⟨a, [y, z], rfl, ea, y, rfl, z, rfl, rfl, by simp, y, rfl, .ref a, rfl, a, C, rfl, T.oex, n1, .inl ⟨ea, fun dx hd hne => ?_⟩⟩
    refine ⟨z, rfl, .ref a, rfl, a, C, rfl, T.oex, n2, .inr ⟨dx, [(f1, y)], upd_same, by rw [upd_ne hne, upd_same], by simp, ?_⟩⟩
    refine hq dx _ hd hne (by rw [upd_ne (Ne.symm hne), upd_same]) ?_ (fun b h1 h2 => by rw [upd_ne h2, upd_ne h1, upd_ne h2])
    rw [upd_same]
    rfl
end
/-- the class x, its fields fs: what a caller knows -/
def ErrG (P : Program) (w : World) (K : PySem.W.Frag) (mg : Str → Option Value) (base : Heap) (x : Str) (fs : List Str) : Prop :=
  ∃ (C fI : Addr) (fd : FuncData) (x0 : Str), mg x = some (.ref C) ∧ PySem.W.nsIn K mainGlobals x = some (some (.ref C)) ∧ OexC K C ∧ PySem.W.findIn K (.ref C) "__init__" = some (some (.ref fI)) ∧ PySem.W.typeIn K (.ref fI) = some (.type "function") ∧
    FnOk P w K mg base (L2.CX P w) 1 fI fd (x0 :: fs) (spErr C fs) ∧ Binds K fd (x0 :: fs) []
def yRaise (x : Str) (fs : List Str) (α : Den (List Rv)) : DenS := fun ρ => oBind (α ρ) fun rs ρ1 => oBind (ofO (dats rs) ρ1) fun ds ρ2 => if ds.length = fs.length then .exc ⟨x, (fs.zip ds).reverse⟩ ρ2 else .bad
theorem paired_zip {K : PySem.W.Frag} {F : Hp} : ∀ {fs : List Str} {vs : List V} {ds : List D}, DrAll K F vs ds → DrFs K F (fs.zip vs) (fs.zip ds)
  | [], _, _, _ => .nil
  | _ :: _, _, _, .nil => .nil
  | f :: fs, _, _, .cons a t => .cons ⟨rfl, a⟩ (paired_zip t)

theorem DrFs.snoc {K : PySem.W.Frag} {F : Hp} {a : List (Str × V)} {b : List (Str × D)} {x : Str × V} {y : Str × D} (h : DrFs K F a b) (k : x.1 = y.1 ∧ Dr K F x.2 y.2) : DrFs K F (a ++ [x]) (b ++ [y]) := Paired.snoc (F := fun (a : Str × V) (b : Str × D) => a.1 = b.1 ∧ Dr K F a.2 b.2) h k
theorem DrFs.rev {K : PySem.W.Frag} {F : Hp} : ∀ {a : List (Str × V)} {b : List (Str × D)}, DrFs K F a b → DrFs K F a.reverse b.reverse
  | _, _, .nil => .nil
  | _, _, .cons h t => by
    rw [List.reverse_cons, List.reverse_cons]
    exact (DrFs.rev t).snoc h
section
variable {X : Cx} {W : WX} {k : Nat}
theorem ds_raise {x : Str} {fs : List Str} {e : Expr} {es : List Expr} {p pos pos2 : Pos} {α : Den (List Rv)} (G : ErrG X.prog X.w X.K X.mg X.base x fs) (C : Cok X W k) (hk : 2 ≤ k) (hg : Gl X x) (ha : DA X W (e :: es) α) (hz1000 : fs.length ≤ 1000 := by decide)
    (hdb : (x == ("__debug__" : Str)) = false := by decide) (he : starEach (e :: es) X.env = (false, eval e X.env) :: starEach es X.env := by rfl) (hpl : (backTo pos (starEach es X.env)).any (·.1) = false := by rfl) :
    DS X W (.Raise (some (.Call (.Name x p) (e :: es) [] pos)) none pos2) (yRaise x fs α) := by
  obtain ⟨Cl, fI, fd, x0, hm, hns, T, iC, tI, F1, hb⟩ := G
  have hx : Passes (L2.CX X.prog X.w) X (fun _ _ _ => False) := fun pins σ H s e s' I h => by
    obtain ⟨_, _, _, _, _, _, _, _, _, _, _, _, z⟩ := h
    exact z.elim
  refine ps_imp (ps_raise C.calm C.tk (pmk_oex T iC tI F1 (C.rm.mono hk) hb .nil hx hg hm ha hdb he hpl)) fun Dd σ H hq => ?_
  obtain ⟨B, F, ρ, S, w⟩ := hq
  refine ⟨B, F, ρ, S, wp_mono (spost_bind (σ := σ) w) (fun rs ρ1 w1 F1 vs H1 s1 S1 q1 => ?_) fun _ _ z => z⟩
  cases ed : dats rs with
  | none => rw [ed] at w1; exact w1.elim
  | some ds =>
    rw [ed] at w1
    change SPost X.K W B F Dd (if ds.length = fs.length then .exc ⟨x, (fs.zip ds).reverse⟩ ρ1 else .bad) at w1
    by_cases hl : ds.length = fs.length
    · rw [if_pos hl] at w1
      have dr := dats_ok ed q1
      have hlv : vs.length = fs.length := by rw [dr.length]; exact hl
      have hz : vs.length ≤ 1000 := by omega
      refine ⟨hz, fun a ha => ⟨a, vs, by rw [List.append_nil], hlv, upd_same, fun d H' hd hne e1 e2 e3 => ⟨rfl, d, (fs.zip vs).reverse, e1, e2, ?_, ?_⟩⟩⟩
      · rw [upd_ne hne] at hd; exact hd
      · have hd' : H1 d = none := by rw [upd_ne hne] at hd; exact hd
        have eH : upd (del H' a) d (.xd (fs.zip vs).reverse) = upd H1 d (.xd (fs.zip vs).reverse) := by
          funext b
          by_cases hb1 : b = d
          · subst hb1; rw [upd_same, upd_same]
          · rw [upd_ne hb1, upd_ne hb1]
            by_cases hb2 : b = a
            · subst hb2; rw [del_same, ha]
            · rw [del_ne hb2, e3 b hb2 hb1, upd_ne hb2]
        rw [eH]
        obtain ⟨S2, s2⟩ := S1.made (o := .xd (fs.zip vs).reverse) hd'
        exact w1 _ σ _ _ _ (s1.trans s2) S2 ⟨Cl, d, _, rfl, hns, rfl, upd_same, (paired_zip (dr.up s2)).rev⟩
    · rw [if_neg hl] at w1
      exact w1.elim
end
end DL


/-! D layer, 30: try: body, except X as e: suite. -/
namespace DL
open PySem PySem.Spec L2 PyProof.Rows
/-- what the written part says of the error classes: name, fields -/
structure ErrC (K : PySem.W.Frag) (x : Str) (fs : List Str) : Prop where
  ex : ∃ C, PySem.W.nsIn K mainGlobals x = some (some (.ref C)) ∧ XfC K C ∧ ExcC K C ∧ ∀ f ∈ fs, PySem.W.findIn K (.ref C) f = some none
def ErrT (K : PySem.W.Frag) (tab : List (Str × List Str)) : Prop := ∀ p ∈ tab, ErrC K p.1 p.2
theorem ErrT.nil {K : PySem.W.Frag} : ErrT K [] := fun p h => absurd h List.not_mem_nil
theorem ErrT.cons {K : PySem.W.Frag} {x : Str} {fs : List Str} {tab : List (Str × List Str)} (h : ErrC K x fs) (t : ErrT K tab) : ErrT K ((x, fs) :: tab) := fun p hp => by
  rcases List.mem_cons.mp hp with e | e
  · rw [e]; exact h
  · exact t p e
/-- the class that a clause or an isinstance names: which of the classes are caught by it -/
def CatG (K : PySem.W.Frag) (mg : Str → Option Value) (y : Str) (tab : List (Str × Bool)) : Prop := ∃ c, mg y = some (.ref c) ∧ PySem.W.nsIn K mainGlobals y = some (some (.ref c)) ∧
  ∀ p ∈ tab, ∃ C, PySem.W.nsIn K mainGlobals p.1 = some (some (.ref C)) ∧ PySem.W.exmOne K (.ref C) (.ref c) = some p.2 ∧ PySem.W.kitOne K (.ref C) (.ref c) = some p.2
/-- the slot of the clause's name holds the exception -/
def Held (i : Option Nat) (σ : L2.St) (a : Addr) : Prop := ∀ j, i = some j → σ[j]? = some (some (V.ref a))
section
variable (K : PySem.W.Frag) (a : Addr) (cls : Value) (d : Option Addr) (i : Option Nat)
def tSX (g : Exc → Option D) : TE := fun σ H Q => ∃ B F ρ x dv, Sim K B F ρ σ H ∧ Held i σ a ∧ ExcOk K F H x cls d ∧ g x = some dv ∧ ∀ F' v H', Same F F' → Sim K B F' ρ σ H' → Dr K F' v dv → Q v H'
def tSXs (g : Exc → Option (List D)) : TA := fun σ H Q => ∃ B F ρ x dv, Sim K B F ρ σ H ∧ Held i σ a ∧ ExcOk K F H x cls d ∧ g x = some dv ∧ ∀ F' v H', Same F F' → Sim K B F' ρ σ H' → DrAll K F' v dv → Q v H'
inductive SR where
  | ret (d : D)
  | next
  | bad
def tSS (g : Exc → SR) : TS := fun Dd σ H => ∃ B F ρ x, Sim K B F ρ σ H ∧ Held i σ a ∧ ExcOk K F H x cls d ∧ match g x with
  | .ret dv => ∀ F' v H', Same F F' → Sim K B F' ρ σ H' → Dr K F' v dv → Dd.rt v H'
  | .next => ∀ F' H', Same F F' → Sim K B F' ρ σ H' → Dd.nx σ H'
  | .bad => False
end
/-- e in a suite is worth g of the exception -/
def SX (Y : Cx) (a : Addr) (cls : Value) (d : Option Addr) (i : Option Nat) (e : Expr) (g : Exc → Option D) : Prop := PE Y e (tSX Y.K a cls d i g)
def SXs (Y : Cx) (a : Addr) (cls : Value) (d : Option Addr) (i : Option Nat) (es : List Expr) (g : Exc → Option (List D)) : Prop := PA Y es (tSXs Y.K a cls d i g)
def SSt (Y : Cx) (a : Addr) (cls : Value) (d : Option Addr) (i : Option Nat) (st : Stmt) (g : Exc → SR) : Prop := PS Y st (tSS Y.K a cls d i g)
def SSs (Y : Cx) (a : Addr) (cls : Value) (d : Option Addr) (i : Option Nat) (st : List Stmt) (g : Exc → SR) : Prop := PSs Y st (tSS Y.K a cls d i g)
theorem drFs_up {K : PySem.W.Frag} {F F' : Hp} (s : Same F F') : ∀ {xs : List (Str × V)} {ys : List (Str × D)}, DrFs K F xs ys → DrFs K F' xs ys
  | _, _, .nil => .nil
  | _, _, .cons h t => .cons ⟨h.1, h.2.up s⟩ (drFs_up s t)
theorem ExcOk.up {K : PySem.W.Frag} {F F' H H' : Hp} {x : Exc} {cls : Value} {d : Option Addr} (h : ExcOk K F H x cls d) (s : Same F F') : ExcOk K F' H' x cls d := by
  obtain ⟨C, a, fs, h1, h2, h3, h4, h5⟩ := h
  exact ⟨C, a, fs, h1, h2, h3, s _ _ h4, drFs_up s h5⟩
theorem drFs_look {K : PySem.W.Frag} {F : Hp} {f : Str} {dv : D} : ∀ {xs : List (Str × V)} {ys : List (Str × D)}, DrFs K F xs ys → ys.lookup f = some dv → ∃ v, xs.lookup f = some v ∧ Dr K F v dv
  | _, _, .nil, h => by cases h
  | (n, v) :: xs, (m, e) :: ys, .cons h t, hl => by
    obtain ⟨h1, h2⟩ := h
    dsimp only at h1 h2
    subst h1
    rw [List.lookup_cons] at hl ⊢
    split at hl
    · cases hl
      exact ⟨v, rfl, h2⟩
    · exact drFs_look t hl
section
variable {Y : Cx} {a : Addr} {cls : Value} {d : Option Addr} {i : Option Nat} {e : Expr} {es : List Expr} {pos : Pos}
theorem sx_const {e : Expr} {v : V} {dv : D} (h : PE Y e (tC v)) (hd : ∀ F, Dr Y.K F v dv) : SX Y a cls d i e (fun _ => some dv) := by
  refine pe_imp h fun σ H Q hq => ?_
  obtain ⟨B, F, ρ, x, dv', S, he, ex, eg, q⟩ := hq
  cases eg
  exact q F v H (Same.refl F) S (hd F)
theorem sx_str {x : Str} {j : Nat} : SX Y a cls d i (.Constant (.str x) j pos) (fun _ => some (.str x)) := sx_const pe_str fun _ => .str x
theorem sx_bool {b : Bool} {j : Nat} : SX Y a cls d i (.Constant (.bool b) j pos) (fun _ => some (.bool b)) := sx_const pe_bl fun _ => .bl b
theorem sx_none {j : Nat} : SX Y a cls d i (.Constant .none j pos) (fun _ => some .none) := sx_const pe_non fun _ => .non
theorem sx_int {n : Nat} {j : Nat} : SX Y a cls d i (.Constant (.int n) j pos) (fun _ => some (.int n)) := sx_const pe_int fun _ => .int n
theorem sxs_nil : SXs Y a cls d i [] (fun _ => some []) := by
  refine pa_imp pa_nil fun σ H Q hq => ?_
  obtain ⟨B, F, ρ, x, dv', S, he, ex, eg, q⟩ := hq
  cases eg
  exact q F [] H (Same.refl F) S .nil
theorem sxs_cons {g : Exc → Option D} {gs : Exc → Option (List D)} (h : SX Y a cls d i e g) (t : SXs Y a cls d i es gs) (hs : starEach (e :: es) Y.env = (false, eval e Y.env) :: starEach es Y.env := by rfl) :
    SXs Y a cls d i (e :: es) (fun x => (g x).bind fun u => (gs x).map (u :: ·)) := by
  refine pa_imp (pa_cons h t hs) fun σ H Q hq => ?_
  obtain ⟨B, F, ρ, x, dv', S, he, ex, eg, q⟩ := hq
  obtain ⟨u, e1, e2⟩ := Option.bind_eq_some_iff.mp eg
  obtain ⟨us, e3, e4⟩ := Option.map_eq_some_iff.mp e2
  subst e4
  refine ⟨B, F, ρ, x, u, S, he, ex, e1, fun F1 v H1 s1 S1 r1 => ⟨B, F1, ρ, x, us, S1, he, ex.up s1, e3, fun F2 vs H2 s2 S2 r2 => ?_⟩⟩
  exact q F2 _ H2 (s1.trans s2) S2 (.cons (r1.up s2) r2)
theorem sx_tup {k : Nat} {gs : Exc → Option (List D)} (h : SXs Y a cls d i es gs) : SX Y a cls d i (.Tuple es k pos) (fun x => (gs x).bind mkTup) := by
  refine pe_imp (pe_tup h) fun σ H Q hq => ?_
  obtain ⟨B, F, ρ, x, dv', S, he, ex, eg, q⟩ := hq
  obtain ⟨us, e1, e2⟩ := Option.bind_eq_some_iff.mp eg
  obtain ⟨hz, e4⟩ := if_some e2
  refine ⟨B, F, ρ, x, us, S, he, ex, e1, fun F1 vs H1 s1 S1 r1 => ⟨by rw [r1.length]; exact hz, fun p n => ?_⟩⟩
  exact S1.newTup n r1 e4.symm fun F2 v H2 s2 S2 q2 => q F2 v H2 (s1.trans s2) S2 q2
theorem ss_ret {g : Exc → Option D} (h : SX Y a cls d i e g) : SSt Y a cls d i (.Return (some e) pos) (fun x => match g x with | some dv => .ret dv | none => .bad) := by
  refine ps_imp (ps_ret h) fun Dd σ H hq => ?_
  obtain ⟨B, F, ρ, x, S, he, ex, q⟩ := hq
  dsimp only at q
  cases eg : g x with
  | none => rw [eg] at q; exact q.elim
  | some dv => rw [eg] at q; exact ⟨B, F, ρ, x, dv, S, he, ex, eg, q⟩
theorem sss_one {st : Stmt} {g : Exc → SR} (h : SSt Y a cls d i st g) : SSs Y a cls d i [st] g := pss_one h
end
/-- a field -/
def gFld (tab : List (Str × List Str)) (f : Str) (x : Exc) : Option D := if tab.any (fun p => p.1 == x.cls && p.2.contains f) = true then x.fs.lookup f else none
theorem gFld_some {tab : List (Str × List Str)} {f : Str} {x : Exc} {dv : D} (h : gFld tab f x = some dv) : (∃ p ∈ tab, p.1 = x.cls ∧ f ∈ p.2) ∧ x.fs.lookup f = some dv := by
  unfold gFld at h
  split at h
  · rename_i hc
    obtain ⟨p, hp, hp2⟩ := List.any_eq_true.mp hc
    rw [Bool.and_eq_true, beq_iff_eq] at hp2
    exact ⟨⟨p, hp, hp2.1, by simpa using hp2.2⟩, h⟩
  · cases h
section
variable {X : Cx} {a : Addr} {cls : Value} {d : Option Addr} {i : Option Nat} {oe : Obj} {pn : List (Addr × Obj)} {pos pos2 : Pos}
theorem sx_fld {j : Nat} {n f : Str} {p : Pos} {tab : List (Str × List Str)} (T : ErrT X.K tab) (hz : Zc cls d oe) (hf : ∃ vs, oe.data = .fields vs) (hN : X.N[j]? = some n := by rfl) (hv : Vis X.env.scope n := by first | exact Or.inl rfl | exact Or.inr (Or.inl rfl) | exact Or.inr (Or.inr rfl))
    (hd : (n == ("__debug__" : Str)) = false := by decide) (hcd : (n == ("__classdict__" : Str)) = false := by decide) (hb : attributeBase (.Name n p) f X.env (eval (.Name n p) X.env) = eval (.Name n p) X.env := by rfl) :
    SX (X.suite a ((a, oe) :: pn)) a cls d (some j) (.Attribute (.Name n p) f pos) (gFld tab f) := by
  by_cases h : ∃ C, cls = .ref C ∧ XfC X.K C ∧ PySem.W.findIn X.K (.ref C) f = some none
  · obtain ⟨C, rfl, hx, hn⟩ := h
    refine pe_imp (pe_xf hx hn hz hf (pe_var (X := X.suite a ((a, oe) :: pn)) (i := j) hN hv hd hcd) hb) fun σ H Q hq => ?_
    obtain ⟨B, F, ρ, x, dv, S, he, ex, eg, q⟩ := hq
    obtain ⟨C', dd, fs, e1, e2, e3, e4, e5⟩ := ex
    obtain ⟨hc, el⟩ := gFld_some eg
    obtain ⟨v, l1, l2⟩ := drFs_look e5 el
    exact ⟨.ref a, he j rfl, rfl, rfl, dd, fs, v, e3, S.f _ _ e4, l1, q F v H (Same.refl F) S l2⟩
  · refine ⟨fun pins s σ H Q I hq => ?_⟩
    obtain ⟨B, F, ρ, x, dv, S, he, ex, eg, q⟩ := hq
    obtain ⟨C', dd, fs, e1, e2, e3, e4, e5⟩ := ex
    obtain ⟨⟨p, hp, hp2⟩, el⟩ := gFld_some eg
    obtain ⟨C2, g1, g2, g3, g4⟩ := (T p hp).ex
    rw [hp2.1, e2] at g1
    cases g1
    exact absurd ⟨C', e1, g2, g4 f hp2.2⟩ h

/-- isinstance(e, y) -/
def gIsi (tab : List (Str × Bool)) (x : Exc) : Option D := (tab.lookup x.cls).map .bool
theorem lookup_mem {x : Str} {b : Bool} : ∀ {tab : List (Str × Bool)}, tab.lookup x = some b → (x, b) ∈ tab
  | (y, c) :: tab, h => by
    rw [List.lookup_cons] at h
    split at h
    · rename_i q
      cases h
      rw [beq_iff_eq.mp q]
      exact List.mem_cons_self
    · exact List.mem_cons_of_mem _ (lookup_mem h)
theorem sx_isi {j : Nat} {n y : Str} {p0 p1 p2 : Pos} {etab : List (Str × List Str)} {tab : List (Str × Bool)} (T : ErrT X.K etab) (G : CatG X.K X.mg y tab) (hsub : ∀ q ∈ tab, q.1 ∈ etab.map (·.1)) (hz : Zc cls d oe) (hf : ∃ vs, oe.data = .fields vs)
    (hgi : Gl X "isinstance") (hmi : X.mg "isinstance" = none) (hgy : Gl X y) (hdy : (y == ("__debug__" : Str)) = false := by decide)
    (hN : X.N[j]? = some n := by rfl) (hv : Vis X.env.scope n := by first | exact Or.inl rfl | exact Or.inr (Or.inl rfl) | exact Or.inr (Or.inr rfl))
    (hd : (n == ("__debug__" : Str)) = false := by decide) (hcd : (n == ("__classdict__" : Str)) = false := by decide)
    (h1 : starEach [Expr.Name n p1, Expr.Name y p2] X.env = (false, eval (.Name n p1) X.env) :: starEach [Expr.Name y p2] X.env := by rfl) (h2 : starEach [Expr.Name y p2] X.env = (false, eval (.Name y p2) X.env) :: starEach [] X.env := by rfl)
    (hpl : (backTo pos (starEach [Expr.Name y p2] X.env)).any (·.1) = false := by rfl) :
    SX (X.suite a ((a, oe) :: pn)) a cls d (some j) (.Call (.Name "isinstance" p0) [.Name n p1, .Name y p2] [] pos) (gIsi tab) := by
  obtain ⟨cy, gy1, gy2, gy3⟩ := G
  by_cases h : ∃ C dd, cls = .ref C ∧ d = some dd ∧ ExcC X.K C
  · obtain ⟨C, dd, rfl, rfl, hE⟩ := h
    have hc : CallR (X.suite a ((a, oe) :: pn)) (.builtin "isinstance") (fun xs H Q => ∃ (c : V) (cv : Value) (b : Bool) (fs : List (Str × V)), xs = [.ref a, c] ∧ (∀ u, RelV c u → u = cv) ∧ PySem.W.kitOne X.K (.ref C) cv = some b ∧ H dd = some (.xd fs) ∧ Q (.bl b) H) := by
      intro pins s σ H xs us Q I r hh
      obtain ⟨c, cv, b, fs, rfl, hcv, e, ea, q⟩ := hh
      cases r with
      | cons rx rr =>
        cases rr with
        | cons rt rr =>
          cases rr
          cases rx
          have ec := hcv _ rt
          subst ec
          obtain ⟨hget, _⟩ := I.pin (a, oe) (List.mem_append.mpr (.inl List.mem_cons_self))
          obtain ⟨vs, hvd⟩ := hf
          have hx : ObjOk X.prog X.w H s.heap dd (.xd fs) := I.hok dd _ ea
          obtain ⟨mA, hns, hr⟩ := hx
          obtain ⟨od, ho, hl⟩ := lookIn_ns hns
          have J : PySem.W.InstAt s.heap a oe C (some od) := ⟨hget, hz.1, by unfold PySem.W.notCls; rw [hvd] <;> rfl, by rw [hz.2]; exact ho⟩
          exact PySem.W.kia_one (PySem.W.kitx_exc (by obtain ⟨cd, hc, _⟩ := PySem.W.any_some hE.hd; rw [hc]; rfl) hE.hg hE.hk hE.hs hE.ha hE.hn hE.ht hE.hm) I.kIn J e (fun z => nomatch z) fun tk => ⟨.bl b, H, I.kept (t' := tk) fun _ _ z => z, rfl, q⟩
    refine pe_imp (pe_callB (X := X.suite a ((a, oe) :: pn)) hc hgi hmi (by rfl) (pa_cons (pe_var (X := X.suite a ((a, oe) :: pn)) (i := j) hN hv hd hcd) (pa_cons (pe_glob (X := X.suite a ((a, oe) :: pn)) (v := .ref cy) hgy gy1 rfl hdy) pa_nil h2) h1) (by decide) (by decide) h1 hpl) fun σ H Q hq => ?_
    obtain ⟨B, F, ρ, x, dv, S, he, ex, eg, q⟩ := hq
    obtain ⟨C', dd', fs, e1, e2, e3, e4, e5⟩ := ex
    cases e1
    cases e3
    obtain ⟨b, el, e6⟩ := Option.map_eq_some_iff.mp eg
    subst e6
    obtain ⟨C2, g1, g2, g3⟩ := gy3 _ (lookup_mem el)
    have g1 : PySem.W.nsIn X.K mainGlobals x.cls = some (some (.ref C2)) := g1
    rw [e2] at g1
    cases g1
    exact ⟨.ref a, he j rfl, V.ref cy, .ref cy, b, fs, rfl, fun u r => r, g3, S.f _ _ e4, q F _ H (Same.refl F) S (.bl b)⟩
  · refine ⟨fun pins s σ H Q I hq => ?_⟩
    obtain ⟨B, F, ρ, x, dv, S, he, ex, eg, q⟩ := hq
    obtain ⟨C', dd, fs, e1, e2, e3, e4, e5⟩ := ex
    obtain ⟨b, el, e6⟩ := Option.map_eq_some_iff.mp eg
    obtain ⟨p, hp, hp2⟩ := List.mem_map.mp (hsub _ (lookup_mem el))
    obtain ⟨C2, g1, g2, g3, g4⟩ := (T p hp).ex
    rw [hp2, e2] at g1
    cases g1
    exact absurd ⟨C', dd, e1, e3, g3⟩ h
end
section
variable {Y : Cx} {a : Addr} {cls : Value} {d : Option Addr} {i : Option Nat} {e e1 e2 : Expr} {pos : Pos} {st : Stmt} {ss rest : List Stmt}
theorem sx_if {g g1 g2 : Exc → Option D} (h : SX Y a cls d i e g) (h1 : SX Y a cls d i e1 g1) (h2 : SX Y a cls d i e2 g2) (he : ∀ whole, isTrue e Y.env whole = (do let v ← whole; standAt e.pos; holding [v] (truthy v)) := by intro _; rfl) :
    SX Y a cls d i (.IfExp e e1 e2 pos) (fun x => match g x with | some (.bool true) => g1 x | some (.bool false) => g2 x | _ => none) := by
  refine pe_imp (pe_ifExp (pt_val h he) h1 h2) fun σ H Q hq => ?_
  obtain ⟨B, F, ρ, x, dv, S, hh, ex, eg, q⟩ := hq
  dsimp only at eg
  cases hg : g x with
  | none => rw [hg] at eg; cases eg
  | some b =>
    rw [hg] at eg
    cases b <;> first | cases eg | skip
    rename_i b
    refine ⟨B, F, ρ, x, .bool b, S, hh, ex, hg, fun F1 v H1 s1 S1 r1 => ?_⟩
    cases r1
    refine ⟨b, rfl, ?_⟩
    cases b with
    | true => exact ⟨B, F1, ρ, x, dv, S1, hh, ex.up s1, eg, fun F2 v H2 s2 S2 r2 => q F2 v H2 (s1.trans s2) S2 r2⟩
    | false => exact ⟨B, F1, ρ, x, dv, S1, hh, ex.up s1, eg, fun F2 v H2 s2 S2 r2 => q F2 v H2 (s1.trans s2) S2 r2⟩
theorem sss_nil : SSs Y a cls d i [] (fun _ => .next) := by
  refine pss_imp pss_nil fun Dd σ H hq => ?_
  obtain ⟨B, F, ρ, x, S, hh, ex, q⟩ := hq
  exact q F H (Same.refl F) S
theorem ss_if {g : Exc → Option D} {g1 g2 : Exc → SR} (h : SX Y a cls d i e g) (h1 : SSs Y a cls d i ss g1) (h2 : SSs Y a cls d i rest g2) (he : ∀ whole, isTrue e Y.env whole = (do let v ← whole; standAt e.pos; holding [v] (truthy v)) := by intro _; rfl) :
    SSt Y a cls d i (.If e ss rest pos) (fun x => match g x with | some (.bool true) => g1 x | some (.bool false) => g2 x | _ => .bad) := by
  refine ps_imp (ps_if (pt_val h he) h1 h2) fun Dd σ H hq => ?_
  obtain ⟨B, F, ρ, x, S, hh, ex, q⟩ := hq
  dsimp only at q
  cases hg : g x with
  | none => rw [hg] at q; exact q.elim
  | some b =>
    rw [hg] at q
    cases b <;> first | exact q.elim | skip
    rename_i b
    refine ⟨B, F, ρ, x, .bool b, S, hh, ex, hg, fun F1 v H1 s1 S1 r1 => ?_⟩
    cases r1
    refine ⟨b, rfl, ?_⟩
    have up : ∀ {r : SR}, (match r with
      | .ret dv => ∀ F' v H', Same F F' → Sim Y.K B F' ρ σ H' → Dr Y.K F' v dv → Dd.rt v H'
      | .next => ∀ F' H', Same F F' → Sim Y.K B F' ρ σ H' → Dd.nx σ H'
      | .bad => False) → (match r with
      | .ret dv => ∀ F' v H', Same F1 F' → Sim Y.K B F' ρ σ H' → Dr Y.K F' v dv → Dd.rt v H'
      | .next => ∀ F' H', Same F1 F' → Sim Y.K B F' ρ σ H' → Dd.nx σ H'
      | .bad => False) := fun {r} z => by
      cases r with
      | ret dv => exact fun F' v H' s' S' r' => z F' v H' (s1.trans s') S' r'
      | next => exact fun F' H' s' S' => z F' H' (s1.trans s') S'
      | bad => exact z
    cases b with
    | true => exact ⟨B, F1, ρ, x, S1, hh, ex.up s1, up q⟩
    | false => exact ⟨B, F1, ρ, x, S1, hh, ex.up s1, up q⟩
theorem sss_cons {g1 g2 : Exc → SR} (h1 : SSt Y a cls d i st g1) (h2 : SSs Y a cls d i rest g2) : SSs Y a cls d i (st :: rest) (fun x => match g1 x with | .next => g2 x | r => r) := by
  refine pss_imp (pss_cons h1 h2) fun Dd σ H hq => ?_
  obtain ⟨B, F, ρ, x, S, hh, ex, q⟩ := hq
  dsimp only at q
  refine ⟨B, F, ρ, x, S, hh, ex, ?_⟩
  cases hg : g1 x with
  | ret dv => rw [hg] at q; exact q
  | bad => rw [hg] at q; exact q.elim
  | next =>
    rw [hg] at q
    refine fun F1 H1 s1 S1 => ⟨B, F1, ρ, x, S1, hh, ex.up s1, ?_⟩
    dsimp only at q
    revert q
    cases g2 x with
    | ret dv => exact fun q F' v H' s' S' r' => q F' v H' (s1.trans s') S' r'
    | next => exact fun q F' H' s' S' => q F' H' (s1.trans s') S'
    | bad => exact fun q => q
end
end DL
namespace DL
open PySem PySem.Spec L2 PyProof.Rows
def srOut (ρ : Env) : SR → Out
  | .ret d => .ret (.dat d) ρ
  | .next => .next ρ
  | .bad => .bad
/-- what is done of an exception: the clause's name, the classes that are caught -/
def tryX (i : Nat) (tab : List (Str × Bool)) (g : Exc → SR) (x : Exc) (ρ : Env) : Option Bool → Out
  | some true => if i < ρ.length then srOut (ρ.set i none) (g x) else .bad
  | some false => .exc x ρ
  | none => .bad
def tryO (i : Nat) (tab : List (Str × Bool)) (g : Exc → SR) : Out → Out
  | .exc x ρ => tryX i tab g x ρ (tab.lookup x.cls)
  | o => o
def yTry (ψ : DenS) (i : Nat) (tab : List (Str × Bool)) (g : Exc → SR) : DenS := fun ρ => tryO i tab g (ψ ρ)
def tryX0 (tab : List (Str × Bool)) (g : Exc → SR) (x : Exc) (ρ : Env) : Option Bool → Out
  | some true => srOut ρ (g x)
  | some false => .exc x ρ
  | none => .bad
def tryO0 (tab : List (Str × Bool)) (g : Exc → SR) : Out → Out
  | .exc x ρ => tryX0 tab g x ρ (tab.lookup x.cls)
  | o => o
def yTry0 (ψ : DenS) (tab : List (Str × Bool)) (g : Exc → SR) : DenS := fun ρ => tryO0 tab g (ψ ρ)
section
variable {X : Cx} {W : WX} {k : Nat} {i : Nat} {n y : Str} {tab : List (Str × Bool)} {g : Exc → SR} {ψ : DenS} {body suite : List Stmt} {b0 : Stmt} {np pos pos' : Pos}
theorem Cok.tr (C : Cok X W k) {W' : WX} {pn : List (Addr × Obj)} {xe : Value → Shared → Prop} (tk : Takes (X.tr pn xe) W') (po : PassesOwn (model X.prog X.w) X.A X.env xe) : Cok (X.tr pn xe) W' k := ⟨C.calm, C.nd, po, C.rm, C.gd, tk⟩
theorem ds_try (C : Cok X W k) (G : CatG X.K X.mg y tab) (hg : Gl X y) (hb : ∀ (W' : WX) (pn : List (Addr × Obj)) (xe : Value → Shared → Prop), Cok (X.tr pn xe) W' k → DSs (X.tr pn xe) W' body ψ)
    (hsu : ∀ (a : Addr) (oe : Obj) (cls : Value) (d : Option Addr) (pn : List (Addr × Obj)), Zc cls d oe → (∃ vs, oe.data = .fields vs) → SSs (X.suite a ((a, oe) :: pn)) a cls d (some i) (b0 :: suite) g)
    (hs : X.stack = X.env :: X.outer := by rfl) (hf : X.env.frame = some X.env.locals := by rfl) (hi : X.N[i]? = some n := by rfl) (hln : X.env.kindOf n = some .local := by rfl) (hdb : (y == ("__debug__" : Str)) = false := by decide) :
    DS X W (.Try body [.ExceptHandler (some (.Name y np)) (some n) (b0 :: suite) pos'] [] [] pos) (yTry ψ i tab g) := by
  obtain ⟨cy, gy1, gy2, gy3⟩ := G
  refine ps_imp (ps_try_as (tb := fun W' => tDS X.K W' ψ) (ts := fun a cls d => tSS X.K a cls d (some i) g) hs hf C.nd hi hln (c := .ref cy) ⟨hg, hdb, .inl gy1⟩ C.tk (fun W' pn xe tk po => hb W' pn xe (C.tr tk po)) hsu) fun Dd σ H hq => ?_
  obtain ⟨B, F, ρ, S, w⟩ := hq
  refine ⟨B, F, ρ, S, ?_⟩
  unfold yTry at w
  cases eo : ψ ρ with
  | next ρ' => rw [eo] at w; exact w
  | ret r ρ' => rw [eo] at w; exact w
  | brk ρ' => rw [eo] at w; exact w
  | cont ρ' => rw [eo] at w; exact w
  | bad => rw [eo] at w; exact w
  | exc x ρ' =>
    rw [eo] at w
    change SPost X.K W B F Dd (tryX i tab g x ρ' (tab.lookup x.cls)) at w
    intro F' σ' H' cls d s' S' ex
    cases el : tab.lookup x.cls with
    | none => rw [el] at w; exact w.elim
    | some b =>
      rw [el] at w
      obtain ⟨C', dd, fs, e1, e2, e3, e4, e5⟩ := id ex
      obtain ⟨C2, g1, g2, g3⟩ := gy3 _ (lookup_mem el)
      have g1 : PySem.W.nsIn X.K mainGlobals x.cls = some (some (.ref C2)) := g1
      rw [e2] at g1
      cases g1
      refine ⟨b, by rw [e1]; exact g2, fun hbt a ha => ?_, fun hbf => ?_⟩
      · subst hbt
        change SPost X.K W B F Dd (if i < ρ'.length then srOut (ρ'.set i none) (g x) else .bad) at w
        by_cases hl : i < ρ'.length
        · rw [if_pos hl] at w
          have hlσ : i < σ'.length := by rw [S'.len]; exact hl
          refine ⟨B, F', ρ'.set i none, x, S'.setNone hl, fun j hj => ?_, ex, ?_⟩
          · cases hj
            rw [List.getElem?_set_self hlσ]
          · revert w
            cases g x with
            | ret dv => exact fun w F2 v H2 s2 S2 r2 => w F2 _ v H2 (s'.trans s2) S2 r2
            | next =>
              exact fun w F2 H2 s2 S2 => w F2 _ H2 (s'.trans s2) (by
                have := S2.setNone (i := i) (v := none) (by rw [List.length_set]; exact hl)
                rwa [List.set_set] at this)
            | bad => exact fun w => w
        · rw [if_neg hl] at w
          exact w.elim
      · subst hbf
        exact w F' σ' H' cls d s' S' ex
theorem ds_try0 (C : Cok X W k) (G : CatG X.K X.mg y tab) (hg : Gl X y) (hb : ∀ (W' : WX) (pn : List (Addr × Obj)) (xe : Value → Shared → Prop), Cok (X.tr pn xe) W' k → DSs (X.tr pn xe) W' body ψ)
    (hsu : ∀ (a : Addr) (oe : Obj) (cls : Value) (d : Option Addr) (pn : List (Addr × Obj)), Zc cls d oe → (∃ vs, oe.data = .fields vs) → SSs (X.suite a ((a, oe) :: pn)) a cls d none (b0 :: suite) g)
    (hs : X.stack = X.env :: X.outer := by rfl) (hf : X.env.frame = some X.env.locals := by rfl) (hdb : (y == ("__debug__" : Str)) = false := by decide) :
    DS X W (.Try body [.ExceptHandler (some (.Name y np)) none (b0 :: suite) pos'] [] [] pos) (yTry0 ψ tab g) := by
  obtain ⟨cy, gy1, gy2, gy3⟩ := G
  refine ps_imp (ps_try_only (tb := fun W' => tDS X.K W' ψ) (ts := fun a cls d => tSS X.K a cls d none g) hs hf (c := .ref cy) ⟨hg, hdb, .inl gy1⟩ C.tk (fun W' pn xe tk po => hb W' pn xe (C.tr tk po)) hsu) fun Dd σ H hq => ?_
  obtain ⟨B, F, ρ, S, w⟩ := hq
  refine ⟨B, F, ρ, S, ?_⟩
  unfold yTry0 at w
  cases eo : ψ ρ with
  | next ρ' => rw [eo] at w; exact w
  | ret r ρ' => rw [eo] at w; exact w
  | brk ρ' => rw [eo] at w; exact w
  | cont ρ' => rw [eo] at w; exact w
  | bad => rw [eo] at w; exact w
  | exc x ρ' =>
    rw [eo] at w
    change SPost X.K W B F Dd (tryX0 tab g x ρ' (tab.lookup x.cls)) at w
    intro F' σ' H' cls d s' S' ex
    cases el : tab.lookup x.cls with
    | none => rw [el] at w; exact w.elim
    | some b =>
      rw [el] at w
      obtain ⟨C', dd, fs, e1, e2, e3, e4, e5⟩ := id ex
      obtain ⟨C2, g1, g2, g3⟩ := gy3 _ (lookup_mem el)
      have g1 : PySem.W.nsIn X.K mainGlobals x.cls = some (some (.ref C2)) := g1
      rw [e2] at g1
      cases g1
      refine ⟨b, by rw [e1]; exact g2, fun hbt a ha => ?_, fun hbf => ?_⟩
      · subst hbt
        change SPost X.K W B F Dd (srOut ρ' (g x)) at w
        refine ⟨B, F', ρ', x, S', fun j hj => (nomatch hj), ex, ?_⟩
        revert w
        cases g x with
        | ret dv => exact fun w F2 v H2 s2 S2 r2 => w F2 _ v H2 (s'.trans s2) S2 r2
        | next => exact fun w F2 H2 s2 S2 => w F2 _ H2 (s'.trans s2) S2
        | bad => exact fun w => w
      · subst hbf
        exact w F' σ' H' cls d s' S' ex
end
/-- a statement that is not to be come to -/
def yBad : DenS := fun _ => .bad
theorem ds_bad {X : Cx} {W : WX} {st : Stmt} : DS X W st yBad := ⟨fun pins s σ H D I hq => by
  obtain ⟨B, F, ρ, S, w⟩ := hq
  exact w.elim⟩
/-! reckoning -/
@[simp] theorem ev_raise (x : Str) (fs : List Str) (α : Den (List Rv)) (ρ : Env) : yRaise x fs α ρ = oBind (α ρ) fun rs ρ1 => oBind (ofO (dats rs) ρ1) fun ds ρ2 => if ds.length = fs.length then .exc ⟨x, (fs.zip ds).reverse⟩ ρ2 else .bad := (rfl)
@[simp] theorem ev_try (ψ : DenS) (i : Nat) (tab : List (Str × Bool)) (g : Exc → SR) (ρ : Env) : yTry ψ i tab g ρ = tryO i tab g (ψ ρ) := (rfl)
@[simp] theorem tryO_exc (i : Nat) (tab : List (Str × Bool)) (g : Exc → SR) (x : Exc) (ρ : Env) : tryO i tab g (.exc x ρ) = tryX i tab g x ρ (tab.lookup x.cls) := (rfl)
@[simp] theorem tryO_ret (i : Nat) (tab : List (Str × Bool)) (g : Exc → SR) (r : Rt) (ρ : Env) : tryO i tab g (.ret r ρ) = .ret r ρ := (rfl)
@[simp] theorem tryO_next (i : Nat) (tab : List (Str × Bool)) (g : Exc → SR) (ρ : Env) : tryO i tab g (.next ρ) = .next ρ := (rfl)
@[simp] theorem ev_try0 (ψ : DenS) (tab : List (Str × Bool)) (g : Exc → SR) (ρ : Env) : yTry0 ψ tab g ρ = tryO0 tab g (ψ ρ) := (rfl)
@[simp] theorem tryO0_exc (tab : List (Str × Bool)) (g : Exc → SR) (x : Exc) (ρ : Env) : tryO0 tab g (.exc x ρ) = tryX0 tab g x ρ (tab.lookup x.cls) := (rfl)
@[simp] theorem tryO0_ret (tab : List (Str × Bool)) (g : Exc → SR) (r : Rt) (ρ : Env) : tryO0 tab g (.ret r ρ) = .ret r ρ := (rfl)
@[simp] theorem tryO0_next (tab : List (Str × Bool)) (g : Exc → SR) (ρ : Env) : tryO0 tab g (.next ρ) = .next ρ := (rfl)
@[simp] theorem takeC_exc (rs : List Rv) (ρ : Env) (x : Exc) (ρb : Env) : takeC rs ρ (.exc x ρb) = (match backIn rs ρb ρ with
    | some ρ' => .exc x ρ'
    | none => .bad) := (rfl)
end DL


/-! D layer, 31: sorted(list) of things that can be compared. -/
namespace DL
open PySem PySem.Spec L2 PyProof.Rows
/-- Python's order of things that are alike -/
def leD (a b : D) : Bool := PySem.W.sortLe (listOrd itemOrd) false PySem.W.keyToks a b
def sortD (ds : List D) : List D := ds.mergeSort leD
def alikeB (ds : List D) : Bool := ds.all fun a => ds.all fun b => PySem.W.alike a b
def sortB (ds : List D) : Bool := (ds.all fun d => match d with | .tuple (_ :: _) => true | _ => false) || ds.all fun d => match d with | .none => false | .tuple _ => false | _ => true
def canSort (ds : List D) : Bool := ds.all SeqAt.shaped && (alikeB ds && sortB ds)
theorem canSort_shaped {ds : List D} (h : canSort ds = true) : ∀ d ∈ ds, SeqAt.shaped d = true := by
  unfold canSort at h
  rw [Bool.and_eq_true] at h
  exact List.all_eq_true.mp h.1
theorem canSort_alike {ds : List D} (h : canSort ds = true) : PySem.W.AllAlike ds := fun a ha b hb => by
  unfold canSort at h
  rw [Bool.and_eq_true, Bool.and_eq_true] at h
  exact List.all_eq_true.mp (List.all_eq_true.mp h.2.1 a ha) b hb
theorem canSort_ok {ds : List D} (h : canSort ds = true) : PySem.W.Sortable ds := by
  unfold canSort at h
  rw [Bool.and_eq_true, Bool.and_eq_true] at h
  have h2 := h.2.2
  unfold sortB at h2
  rw [Bool.or_eq_true] at h2
  rcases h2 with h2 | h2
  · refine .inl fun d hd => ?_
    have := List.all_eq_true.mp h2 d hd
    split at this
    · exact ⟨_, _, rfl⟩
    · cases this
  · refine .inr fun d hd => ?_
    have := List.all_eq_true.mp h2 d hd
    split at this
    · cases this
    · cases this
    · rename_i n1 n2
      exact ⟨fun z => n1 z, fun xs z => n2 xs z⟩
theorem each_vals {F : Value → D → Prop} : ∀ {vs : List V} {us : List Value} {ds : List D}, Vals vs us → vs.length = ds.length → (∀ v u d, (v, d) ∈ vs.zip ds → RelV v u → F u d) → PySem.W.EachIs F us ds
  | [], _, [], .nil, _, _ => .nil
  | v :: vs, _, d :: ds, .cons r t, hl, h => .cons (h v _ d (by simp) r) (each_vals t (by simpa using hl) fun v' u' d' hm => h v' u' d' (by simp [hm]))
theorem drAll_zip {K : PySem.W.Frag} {F : Hp} : ∀ {vs : List V} {ds : List D}, DrAll K F vs ds → ∀ p ∈ vs.zip ds, Dr K F p.1 p.2
  | _, _, .nil, p, h => by simp at h
  | _, _, .cons a t, p, h => by
    rw [List.zip_cons_cons] at h
    rcases List.mem_cons.mp h with e | e
    · rw [e]; exact a
    · exact drAll_zip t p e
theorem drAll_of {K : PySem.W.Frag} {F : Hp} : ∀ {ps : List (V × D)}, (∀ p ∈ ps, Dr K F p.1 p.2) → DrAll K F (ps.map Prod.fst) (ps.map Prod.snd)
  | [], _ => .nil
  | p :: ps, h => .cons (h p List.mem_cons_self) (drAll_of fun q hq => h q (List.mem_cons_of_mem _ hq))
def sortP (vs : List V) (ds : List D) : List (V × D) := (vs.zip ds).mergeSort (PySem.W.sortLe (listOrd itemOrd) false fun p : V × D => PySem.W.keyToks p.2)
theorem sortP_snd {vs : List V} {ds : List D} (h : vs.length = ds.length) : (sortP vs ds).map Prod.snd = sortD ds := by
  unfold sortP sortD
  have e := PySem.W.sort_maps (r := PySem.W.sortLe (listOrd itemOrd) false fun p : V × D => PySem.W.keyToks p.2) (s := leD) Prod.snd (l := vs.zip ds) (fun a _ b _ => rfl)
  rw [e, List.map_snd_zip (by omega)]
theorem sortP_dr {K : PySem.W.Frag} {F : Hp} {vs : List V} {ds : List D} (r : DrAll K F vs ds) : DrAll K F ((sortP vs ds).map Prod.fst) (sortD ds) := by
  rw [← sortP_snd r.length]
  refine drAll_of fun p hp => drAll_zip r p ?_
  exact (List.mergeSort_perm _ _).mem_iff.mp hp
section
variable {X : Cx} {W : WX}
def rSortedD (K : PySem.W.Frag) : List V → Hp → VK → Prop := fun xs H Q => ∃ (l : Addr) (vs : List V) (ds : List D), xs = [V.ref l] ∧ SqL K H l vs ∧ DrAll K H vs ds ∧ canSort ds = true ∧ ∀ p, H p = none → Q (.ref p) (upd H p (.lst ((sortP vs ds).map Prod.fst)))
theorem each_reads {pins : List (Addr × Obj)} {σ : L2.St} {H : Hp} {s : Shared} (I : L2.Inv X pins σ H s) {vs : List V} {us : List Value} {ds : List D} (rv : Vals vs us) (hr : DrAll X.K H vs ds) (hs : ∀ d ∈ ds, SeqAt.shaped d = true) :
    PySem.W.EachIs (fun v d => ∃ as, Reads s.heap v d as) us ds := each_vals rv hr.length fun v u d hm r => by
  have hd := drAll_zip hr (v, d) hm
  exact Dp.reads I d v u (Dr.dp _ _ (SeqAt.canLay_of_shaped (hs d (List.of_mem_zip hm).2)) hd) r
theorem vals_of_each {F : Value → V × D → Prop} (hF : ∀ u p, F u p → RelV p.1 u) : ∀ {us : List Value} {ps : List (V × D)}, PySem.W.EachIs F us ps → Vals (ps.map Prod.fst) us
  | _, _, .nil => .nil
  | _, _, .cons a t => .cons (hF _ _ a) (vals_of_each hF t)
theorem each_zip {F : Value → V × D → Prop} : ∀ {vs : List V} {us : List Value} {ds : List D}, Vals vs us → vs.length = ds.length → (∀ v u d, (v, d) ∈ vs.zip ds → RelV v u → F u (v, d)) → PySem.W.EachIs F us (vs.zip ds)
  | [], _, [], .nil, _, _ => .nil
  | v :: vs, _, d :: ds, .cons r t, hl, h => .cons (h v _ d (by simp) r) (each_zip t (by simpa using hl) fun v' u' d' hm => h v' u' d' (by simp [hm]))
theorem cr_sortedD {k : Nat} (C : Cok X W k) : CallR X (.builtin "sorted") (rSortedD X.K) := by
  intro pins s σ H xs us Q I r h
  obtain ⟨l, vs, ds, rfl, hl, hr, hc, q⟩ := h
  obtain ⟨its, rv, pl, hz⟩ := I.list hl
  rw [Vals.ref1 r]
  have hsh := canSort_shaped hc
  have hu := C.rm.un
  have hlen : its.length ≤ sizeLine := by rw [← rv.length]; exact hz
  have I2 : L2.Inv X pins σ H { s with heap := PySem.W.sortingHeap (PySem.W.copyHeap s.heap its) (s.heap.objs.size + 1) its } := I.kept (t' := s.toks) fun b o e => PySem.W.sorting_copy_old e
  have E2 := each_reads I2 rv hr hsh
  have S : PySem.W.SortsAt X.prog X.w X.A.in1.in1 { s with heap := PySem.W.sortingHeap (PySem.W.copyHeap s.heap its) (s.heap.objs.size + 1) its } (PySem.W.dataKind (PySem.W.sortingHeap (PySem.W.copyHeap s.heap its) (s.heap.objs.size + 1) its) ds) its :=
    PySem.W.SortsAt.data E2 (canSort_alike hc) (canSort_ok hc) fun d hd => by
      have := SeqAt.depth_of_shaped (hsh d hd)
      show X.A.units + 1 + 1 + d.depth < cLine
      omega
  refine PySem.W.sorted_vals pl.isList S hlen ?_
  have hk : PySem.W.EachIs (fun v (b : V × D) => (PySem.W.dataKind (PySem.W.sortingHeap (PySem.W.copyHeap s.heap its) (s.heap.objs.size + 1) its) ds).keyOf v = some (PySem.W.keyToks b.2)) its (vs.zip ds) := by
    refine each_zip rv hr.length fun v u d hm r => ?_
    have hd := drAll_zip hr (v, d) hm
    obtain ⟨as, hre⟩ := Dp.reads I2 d v u (Dr.dp _ _ (SeqAt.canLay_of_shaped (hsh d (List.of_mem_zip hm).2)) hd) r
    exact PySem.W.dataKind_some (canSort_alike hc) (List.of_mem_zip hm).2 hre
  have hE := PySem.W.sortVals_each (κ := PySem.W.dataKind (PySem.W.sortingHeap (PySem.W.copyHeap s.heap its) (s.heap.objs.size + 1) its) ds) (rev := false) (R := fun u (p : V × D) => RelV p.1 u) (fun p : V × D => PySem.W.keyToks p.2) (each_zip rv hr.length fun v u d hm r => r) hk
  obtain ⟨ep, he'⟩ := PyProof.Rows.sortedAll_at s.heap its (PySem.W.sortVals (PySem.W.dataKind (PySem.W.sortingHeap (PySem.W.copyHeap s.heap its) (s.heap.objs.size + 1) its) ds) false its its).toArray
  have rv' : Vals ((sortP vs ds).map Prod.fst) _ := vals_of_each (fun u p h => h) hE
  have hl2 : ((sortP vs ds).map Prod.fst).length ≤ sizeLine := by
    rw [List.length_map, show (sortP vs ds).length = _ from (List.mergeSort_perm _ _).length_eq, List.length_zip]
    omega
  exact ⟨.ref _, upd H (s.heap.objs.size + 1) (.lst ((sortP vs ds).map Prod.fst)), I.laid (t' := s.toks) (fun _ _ => PyProof.Rows.sortedAll_old) (Nat.le_succ _) ⟨hl2, _, ep, rv', by simpa using he'⟩, rfl, q _ (I.hok.fresh (Nat.le_succ _))⟩
def gSorted : D → Option D
  | .list ds => if canSort ds = true then some (.list (sortD ds)) else none
  | _ => none
def xSorted (φ : Den Rv) : Den D := fun ρ => (φ ρ).bind fun r ρ1 => ofO ((look ρ1 r).bind gSorted) ρ1
@[simp] theorem ev_sorted (φ : Den Rv) (ρ : Env) : xSorted φ ρ = (φ ρ).bind fun r ρ1 => ofO ((look ρ1 r).bind gSorted) ρ1 := (rfl)
theorem dn_sorted {k : Nat} {e : Expr} {φ : Den Rv} {p pos : Pos} (C : Cok X W k) (hg : Gl X "sorted") (hm : X.mg "sorted" = none) (hv : bootBuiltins "sorted" = some (.builtin "sorted")) (he : DE X W e φ)
    (na : starEach [e] X.env = (false, eval e X.env) :: starEach [] X.env := by rfl) (np : (backTo pos (starEach [] X.env)).any (·.1) = false := by rfl) :
    DN X W (.Call (.Name "sorted" p) [e] [] pos) (xSorted φ) := by
  refine pe_imp (pe_callB (p := p) (pos := pos) (cr_sortedD C) hg hm hv (pa_cons he pa_nil na) (by decide) (by decide) na np) fun σ H Q hq => ?_
  obtain ⟨B, F, ρ, S, w⟩ := hq
  refine ⟨B, F, ρ, S, wp_mono (wp_bind w) (fun r ρ1 w1 F1 v H1 s1 S1 q1 => ?_) fun _ _ z => z⟩
  obtain ⟨dz, e1, w2⟩ := wp_ofO w1
  obtain ⟨d, e2, e3⟩ := Option.bind_eq_some_iff.mp e1
  cases d <;> simp only [gSorted, reduceCtorEq] at e3
  rename_i ds
  obtain ⟨hc, e4⟩ := if_some e3
  subst e4
  obtain ⟨l, vs, rfl, h1, h2⟩ := S1.items q1 e2
  refine ⟨l, vs, ds, rfl, h1, h2.up S1.f, hc, fun p hp => ?_⟩
  obtain ⟨S3, N⟩ := S1.newL hp (sortP_dr h2)
  exact w2 F1 p _ s1 S3 N
end
end DL


/-! D layer, 33: the order of alike data has one answer; sorted(a set). -/
namespace DL
open PySem PySem.Spec L2 PyProof.Rows
/-! ### alike data with the same order key are the same -/
mutual
theorem toks_inj : ∀ {x y : D}, PySem.W.alike x y = true → ∀ {r s : List (Int ⊕ List Nat)}, PySem.W.keyToks x ++ r = PySem.W.keyToks y ++ s → x = y ∧ r = s
  | .none, y, h, r, s, e => by
    cases y <;> simp only [PySem.W.alike, reduceCtorEq] at h
    exact ⟨rfl, by simpa [PySem.W.keyToks] using e⟩
  | .bool b, y, h, r, s, e => by
    cases y <;> simp only [PySem.W.alike, reduceCtorEq, Bool.false_eq_true] at h
    rename_i c
    simp only [PySem.W.keyToks, List.cons_append, List.nil_append, List.cons.injEq, Sum.inl.injEq] at e
    refine ⟨?_, e.2⟩
    have := e.1
    cases b <;> cases c <;> simp_all
  | .int n, y, h, r, s, e => by
    cases y <;> simp only [PySem.W.alike, reduceCtorEq, Bool.false_eq_true] at h
    simp only [PySem.W.keyToks, List.cons_append, List.nil_append, List.cons.injEq, Sum.inl.injEq] at e
    exact ⟨by rw [e.1], e.2⟩
  | .str x, y, h, r, s, e => by
    cases y <;> simp only [PySem.W.alike, reduceCtorEq, Bool.false_eq_true] at h
    rename_i y
    simp only [PySem.W.keyToks, List.cons_append, List.nil_append, List.cons.injEq, Sum.inr.injEq] at e
    obtain ⟨x⟩ := x
    obtain ⟨y⟩ := y
    refine ⟨?_, e.2⟩
    have := e.1
    simp only at this
    rw [show x = y from Array.toList_inj.mp this]
  | .list xs, y, h, r, s, e => by
    cases y <;> simp only [PySem.W.alike, reduceCtorEq, Bool.false_eq_true] at h
    obtain ⟨a, b⟩ := toksAll_inj h (by simpa only [PySem.W.keyToks] using e)
    exact ⟨by rw [a], b⟩
  | .tuple xs, y, h, r, s, e => by
    cases y <;> simp only [PySem.W.alike, reduceCtorEq, Bool.false_eq_true] at h
    obtain ⟨a, b⟩ := toksAll_inj h (by simpa only [PySem.W.keyToks] using e)
    exact ⟨by rw [a], b⟩
  | .dict _, y, h, r, s, e => by cases y <;> simp only [PySem.W.alike, reduceCtorEq, Bool.false_eq_true] at h
theorem toksAll_inj : ∀ {xs ys : List D}, PySem.W.alikeAll xs ys = true → ∀ {r s : List (Int ⊕ List Nat)}, PySem.W.keyToksAll xs ++ r = PySem.W.keyToksAll ys ++ s → xs = ys ∧ r = s
  | [], [], h, r, s, e => by
    simp only [PySem.W.keyToksAll, List.cons_append, List.nil_append, List.cons.injEq] at e
    exact ⟨rfl, e.2⟩
  | [], y :: ys, h, r, s, e => by
    simp only [PySem.W.keyToksAll, List.cons_append, List.nil_append, List.cons.injEq, Sum.inl.injEq] at e
    exact absurd e.1 (by decide)
  | x :: xs, [], h, r, s, e => by
    simp only [PySem.W.keyToksAll, List.cons_append, List.nil_append, List.cons.injEq, Sum.inl.injEq] at e
    exact absurd e.1 (by decide)
  | x :: xs, y :: ys, h, r, s, e => by
    simp only [PySem.W.keyToksAll, List.cons_append, List.append_assoc, List.cons.injEq, true_and] at e
    have h' := PySem.W.alike_all_cons h
    obtain ⟨a, b⟩ := toks_inj h'.1 e
    obtain ⟨c, d⟩ := toksAll_inj h'.2 b
    exact ⟨by rw [a, c], d⟩
end
theorem leD_anti {a b : D} (h : PySem.W.alike a b = true) (h1 : leD a b = true) (h2 : leD b a = true) : a = b := by
  have e := (listOrd itemOrd).total (PySem.W.keyToks a) (PySem.W.keyToks b) (by simpa [leD, PySem.W.sortLe] using h2) (by simpa [leD, PySem.W.sortLe] using h1)
  exact (toks_inj h (r := []) (s := []) (by rw [e])).1
theorem leD_trans (a b c : D) (h1 : leD a b = true) (h2 : leD b c = true) : leD a c = true := (PySem.W.sortLe_total (listOrd itemOrd) false PySem.W.keyToks).trans a b c h1 h2
theorem leD_total (a b : D) : (leD a b || leD b a) = true := by
  rw [Bool.or_eq_true]
  exact (PySem.W.sortLe_total (listOrd itemOrd) false PySem.W.keyToks).total a b
theorem sortD_ord (ds : List D) : (sortD ds).Pairwise (fun a b => leD a b = true) := List.pairwise_mergeSort leD_trans leD_total ds
theorem sortD_perm (ds : List D) : (sortD ds).Perm ds := List.mergeSort_perm _ _
theorem canSort_perm {ds es : List D} (p : es.Perm ds) (h : canSort ds = true) : canSort es = true := by
  have q : ∀ d, d ∈ es → d ∈ ds := fun d => p.mem_iff.mp
  unfold canSort alikeB sortB at h ⊢
  simp only [Bool.and_eq_true, Bool.or_eq_true, List.all_eq_true] at h ⊢
  obtain ⟨h1, h2, h3⟩ := h
  refine ⟨fun d hd => h1 d (q d hd), fun d hd d' hd' => h2 d (q d hd) d' (q d' hd'), ?_⟩
  exact h3.imp (fun z d hd => z d (q d hd)) (fun z d hd => z d (q d hd))
theorem sortD_uniq {ds es : List D} (h : canSort ds = true) (p : es.Perm ds) : sortD es = sortD ds :=
  List.Perm.eq_of_pairwise (le := fun a b => leD a b = true) (fun a b ha hb h1 h2 => leD_anti (canSort_alike h a (p.mem_iff.mp ((sortD_perm es).mem_iff.mp ha)) b ((sortD_perm ds).mem_iff.mp hb)) h1 h2) (sortD_ord es) (sortD_ord ds) (((sortD_perm es).trans p).trans (sortD_perm ds).symm)
/-- a list in order is its own sorting -/
theorem sortD_self {ds es : List D} (h : canSort ds = true) (p : es.Perm ds) (o : es.Pairwise (fun a b => leD a b = true)) : sortD ds = es := by
  rw [← sortD_uniq h p]
  exact List.mergeSort_of_pairwise o
/-! ### a set, by its members -/
def SetV (w : World) (h : Heap) (a : Addr) (us : List Value) : Prop :=
  ∃ o es ep t, h.get? a = some o ∧ o.ExactSet ∧ o.data = .set es ep t ∧ es.toList.map (·.2) = us ∧ es.size < scanBound ∧ t.fits es.size = true ∧ Ris t.place.toList ∧ (w.params.followText "set-order" = true ∨ t.led = true)
def SetVO (w : World) (a : Addr) (vs : List V) : HO := .ext fun h => ∃ us, Vals vs us ∧ SetV w h a us
theorem setVO_new {w : World} {P : Program} {H : Hp} {h : Heap} {a : Addr} {vs : List V} {us : List Value} (r : Vals vs us) (R : SetV w h a us) : ObjOk P w H h a (SetVO w a vs) := by
  have ⟨o, _, _, _, ho, _⟩ := R
  refine ⟨⟨us, r, R⟩, ⟨o, ho⟩, fun h1 h2 ⟨vs', r', o', es', ep', t', ho', z⟩ p => ⟨vs', r', o', es', ep', t', p o' ho', z⟩⟩
theorem zip_parts {α β : Type} : ∀ l : List (α × β), (l.map Prod.fst).zip (l.map Prod.snd) = l
  | [] => rfl
  | x :: l => by rw [List.map_cons, List.map_cons, List.zip_cons_cons, zip_parts l]
/-- two lists laid side by side, put in another order -/
theorem vals_perm {vs : List V} {us out : List Value} (r : Vals vs us) (p : out.Perm us) {ds : List D} (hl : vs.length = ds.length) : ∃ (qs : List (V × D)), qs.Perm (vs.zip ds) ∧ Vals (qs.map Prod.fst) out := by
  induction p generalizing vs ds with
  | nil => cases r; exact ⟨[], by simp, .nil⟩
  | cons x p ih =>
    cases r with
    | cons r t =>
      cases ds with
      | nil => simp at hl
      | cons d ds =>
        obtain ⟨qs, q1, q2⟩ := ih t (by simpa using hl)
        exact ⟨_ :: qs, by rw [List.zip_cons_cons]; exact q1.cons (_, d), .cons r q2⟩
  | swap x y l =>
    cases r with
    | cons r t =>
      cases t with
      | cons r2 t =>
        cases ds with
        | nil => simp at hl
        | cons d ds =>
          cases ds with
          | nil => simp at hl
          | cons d2 ds =>
            refine ⟨(_, d2) :: (_, d) :: List.zip _ ds, by rw [List.zip_cons_cons, List.zip_cons_cons]; exact List.Perm.swap _ _ _, ?_⟩
            rw [List.map_cons, List.map_cons, List.map_fst_zip (by simp at hl; omega)]
            exact .cons r2 (.cons r t)
  | trans p1 p2 ih1 ih2 =>
    obtain ⟨q2, a1, a2⟩ := ih2 r hl
    obtain ⟨q1, b1, b2⟩ := ih1 (vs := q2.map Prod.fst) (ds := q2.map Prod.snd) a2 (by simp)
    refine ⟨q1, ?_, b2⟩
    rw [zip_parts] at b1
    exact b1.trans a1
section
variable {X : Cx} {W : WX}
def rSortedV (K : PySem.W.Frag) (w : World) : List V → Hp → VK → Prop := fun xs H Q => ∃ (a : Addr) (vs : List V) (ds : List D), xs = [V.ref a] ∧ H a = some (SetVO w a vs) ∧ DrAll K H vs ds ∧ canSort ds = true ∧
  ∀ (p : Addr) (ys : List V), H p = none → (∀ F : Hp, DrAll K F vs ds → DrAll K F ys (sortD ds)) → Q (.ref p) (upd H p (.lst ys))
theorem cr_sortedV {k : Nat} (C : Cok X W k) : CallR X (.builtin "sorted") (rSortedV X.K X.w) := by
  intro pins s σ H xs us Q I r h
  obtain ⟨a, vs, ds, rfl, ha, hr, hc, q⟩ := h
  rw [Vals.ref1 r]
  obtain ⟨⟨us, rv, o, es, ep, t, ho, hex, hd, hu, hb, hf, hris, hled⟩, _, _⟩ := I.hok a _ ha
  have hun := C.rm.un
  refine Calls.call_function_entry kind_sorted plain_sorted entry_sorted (args_sorted1 _) ?_
  unfold Builtin.«sorted»
  refine wpAny_bind (m := checkCount "sorted" 1 1 _) (wpAny_pure ?_)
  refine wpAny_bind (collect_set (A := X.A.in1) (I.ok.hd C.calm) ⟨o, ho, hex.1, hd⟩ hf hb hris hled fun s1 out k1 hz g1 o1 pm => ?_)
  rw [hu] at pm
  obtain ⟨qs, p1, rq⟩ := vals_perm rv pm hr.length
  have hlen : out.length ≤ sizeLine := by
    rw [pm.length_eq, ← hu, List.length_map, Array.length_toList]
    exact fits_of_scanBound hb
  have I1 : L2.Inv X pins σ H s1 := I.call' (ch := []) o1 (Un.kept k1) (I.hok.kept k1) (by rw [g1]; exact I.bare) (fun _ z => nomatch z)
  refine wpAny_bind (wpAny_newList ?_ hlen)
  have hoL : (s1.heap.push (seqObj "list" out.toArray 0)).get? s1.heap.objs.size = some (seqObj "list" out.toArray 0) := Heap.get?_push_size _ rfl
  have hds : (qs.map Prod.snd).Perm ds := by
    have z := p1.map Prod.snd
    rw [List.map_snd_zip (by rw [hr.length]; exact Nat.le_refl _)] at z
    exact z
  have hc2 := canSort_perm hds hc
  have hr2 : DrAll X.K H (qs.map Prod.fst) (qs.map Prod.snd) := drAll_of fun p hp => drAll_zip hr p (p1.mem_iff.mp hp)
  have old : ∀ b u, s1.heap.get? b = some u → (PySem.W.sortingHeap (s1.heap.push (seqObj "list" out.toArray 0)) s1.heap.objs.size out).get? b = some u := fun b u e =>
    PySem.W.sortingHeap_old (Nat.ne_of_lt (Heap.lt_size e)) (Heap.get?_push_of_some _ e)
  have I2 : L2.Inv X pins σ H { s1 with heap := PySem.W.sortingHeap (s1.heap.push (seqObj "list" out.toArray 0)) s1.heap.objs.size out } := I1.kept (t' := s1.toks) old
  have hsh := canSort_shaped hc2
  have E2 := each_reads I2 rq hr2 hsh
  have S : PySem.W.SortsAt X.prog X.w X.A.in1.in1 { s1 with heap := PySem.W.sortingHeap (s1.heap.push (seqObj "list" out.toArray 0)) s1.heap.objs.size out } (PySem.W.dataKind (PySem.W.sortingHeap (s1.heap.push (seqObj "list" out.toArray 0)) s1.heap.objs.size out) (qs.map Prod.snd)) out :=
    PySem.W.SortsAt.data E2 (canSort_alike hc2) (canSort_ok hc2) fun d hd => by
      have := SeqAt.depth_of_shaped (hsh d hd)
      show X.A.units + 1 + 1 + d.depth < cLine
      omega
  have hk := each_zip (F := fun v (b : V × D) => (PySem.W.dataKind (PySem.W.sortingHeap (s1.heap.push (seqObj "list" out.toArray 0)) s1.heap.objs.size out) (qs.map Prod.snd)).keyOf v = some (PySem.W.keyToks b.2)) rq hr2.length fun v u d hm r => by
    have hd := drAll_zip hr2 (v, d) hm
    obtain ⟨as, hre⟩ := Dp.reads I2 d v u (Dr.dp _ _ (SeqAt.canLay_of_shaped (hsh d (List.of_mem_zip hm).2)) hd) r
    exact PySem.W.dataKind_some (canSort_alike hc2) (List.of_mem_zip hm).2 hre
  have hE := PySem.W.sortVals_each (κ := PySem.W.dataKind (PySem.W.sortingHeap (s1.heap.push (seqObj "list" out.toArray 0)) s1.heap.objs.size out) (qs.map Prod.snd)) (rev := false) (R := fun u (p : V × D) => RelV p.1 u) (fun p : V × D => PySem.W.keyToks p.2) (each_zip rq hr2.length fun v u d hm r => r) hk
  have rv' : Vals ((sortP (qs.map Prod.fst) (qs.map Prod.snd)).map Prod.fst) _ := vals_of_each (fun u p h => h) hE
  refine wpAny_bind (wpAny_holding (wpAny_call_entry slot_list_sort ⟨_, hoL, rfl⟩ entry_list_sort (PySem.W.list_sort_vals (s := { s1 with heap := s1.heap.push (seqObj "list" out.toArray 0) }) hoL S hlen ⟨_, rfl, ?_⟩) (args_list_sort _)))
  obtain ⟨c, hcc⟩ := sortedHeap_at (vs := out) (out := (PySem.W.sortVals (PySem.W.dataKind (PySem.W.sortingHeap (s1.heap.push (seqObj "list" out.toArray 0)) s1.heap.objs.size out) (qs.map Prod.snd)) false out out).toArray) hoL
  refine wpAny_pure ⟨_, rfl, ?_⟩
  have hp := Nat.le_refl s1.heap.objs.size
  have hl2 : ((sortP (qs.map Prod.fst) (qs.map Prod.snd)).map Prod.fst).length ≤ sizeLine := by
    rw [List.length_map, show (sortP (qs.map Prod.fst) (qs.map Prod.snd)).length = _ from (List.mergeSort_perm _ _).length_eq, List.length_zip]
    have := rq.length
    omega
  have old2 : ∀ b u, s1.heap.get? b = some u → (sortedHeap (s1.heap.push (seqObj "list" out.toArray 0)) s1.heap.objs.size out (PySem.W.sortVals (PySem.W.dataKind (PySem.W.sortingHeap (s1.heap.push (seqObj "list" out.toArray 0)) s1.heap.objs.size out) (qs.map Prod.snd)) false out out).toArray).get? b = some u := fun b u e => by
    have hlt := Heap.lt_size e
    rw [sortedHeap_old (Nat.ne_of_lt hlt) (by rw [size_push']; exact Nat.lt_succ_of_lt hlt)]
    exact Heap.get?_push_of_some _ e
  refine ⟨.ref s1.heap.objs.size, upd H s1.heap.objs.size (.lst ((sortP (qs.map Prod.fst) (qs.map Prod.snd)).map Prod.fst)), I1.laid (t' := s1.toks) old2 hp ⟨hl2, _, _, rv', by simpa using hcc⟩, rfl, q _ _ (I1.hok.fresh hp) fun F hF => ?_⟩
  rw [← sortD_uniq hc hds]
  exact sortP_dr (drAll_of fun p hp => drAll_zip hF p (p1.mem_iff.mp hp))
end
end DL


/-! D layer, 34: set(ints and texts), sorted(set(..)). -/
namespace DL
open PySem PySem.Spec L2 PyProof.Rows
theorem perm_map_inv {α β : Type} {f : α → β} {m k : List β} (p : m.Perm k) : ∀ {l : List α}, k = l.map f → ∃ l' : List α, l'.Perm l ∧ m = l'.map f := by
  induction p with
  | nil => intro l e; exact ⟨l, List.Perm.refl _, e⟩
  | cons x p ih =>
    intro l e
    cases l with
    | nil => cases e
    | cons y l =>
      rw [List.map_cons] at e
      injection e with e1 e2
      obtain ⟨l', h1, h2⟩ := ih e2
      exact ⟨y :: l', h1.cons y, by rw [e1, h2, List.map_cons]⟩
  | swap x y t =>
    intro l e
    cases l with
    | nil => cases e
    | cons a l =>
      cases l with
      | nil => cases e
      | cons b l =>
        simp only [List.map_cons, List.cons.injEq] at e
        exact ⟨b :: a :: l, List.Perm.swap _ _ _, by rw [List.map_cons, List.map_cons, e.1, e.2.1, e.2.2]⟩
  | trans p1 p2 ih1 ih2 =>
    intro l e
    obtain ⟨l2, a1, a2⟩ := ih2 e
    obtain ⟨l1, b1, b2⟩ := ih1 a2
    exact ⟨l1, b1.trans a1, b2⟩
/-! ### a set of keys -/
def rowK (w : World) (p : Key × Value) : Int × Value := (keyH w p.1, p.2)
def KSet (w : World) (h : Heap) (a : Addr) (rs : List (Key × Value)) : Prop :=
  ∃ o es ep t, h.get? a = some o ∧ o.ExactSet ∧ o.data = .set es ep t ∧ es.toList = rs.map (rowK w) ∧ (∀ p ∈ rs, keyIs p.1 p.2 = true) ∧ (rs.map Prod.fst).Nodup ∧ es.size < scanBound ∧ t.fits es.size = true ∧ Ris t.place.toList ∧ (w.params.followText "set-order" = true ∨ t.led = true)
theorem keyIs_scan {k : Key} {v : Value} (h : keyIs k v = true) : v.scannable = true := by
  rcases keyIs_shape h with ⟨i, t, rfl, rfl⟩ | ⟨x, t, rfl, rfl⟩ <;> rfl
section
variable {P : Program} {w : World} {A : Around} {E : Value → Shared → Prop} {s : Shared} {a : Addr} {rs : List (Key × Value)}
theorem KSet.at {h h' : Heap} (R : KSet w h a rs) (k : ∀ o, h.get? a = some o → h'.get? a = some o) : KSet w h' a rs := by
  obtain ⟨o, es, ep, t, ho, r⟩ := R
  exact ⟨o, es, ep, t, k o ho, r⟩
theorem KSet.setV {h : Heap} (R : KSet w h a rs) : SetV w h a (rs.map Prod.snd) := by
  obtain ⟨o, es, ep, t, ho, hex, hd, he, hk, hn, r⟩ := R
  refine ⟨o, es, ep, t, ho, hex, hd, ?_, r⟩
  rw [he, List.map_map]
  rfl
theorem rows_elems (he : ∀ p ∈ rs, keyIs p.1 p.2 = true) : ElemsOf (mixKind P w) (rs.map (rowK w)) := fun e h => by
  obtain ⟨p, hp, rfl⟩ := List.mem_map.mp h
  exact ⟨⟨p.1, he p hp, rfl⟩, keyIs_scan (he p hp)⟩
theorem rows_mem (he : ∀ p ∈ rs, keyIs p.1 p.2 = true) (k : Key) : (∃ e ∈ rs.map (rowK w), (mixKind P w).is k e.2 = true) ↔ k ∈ rs.map Prod.fst := by
  constructor
  · rintro ⟨e, h1, h2⟩
    obtain ⟨p, hp, rfl⟩ := List.mem_map.mp h1
    exact List.mem_map.mpr ⟨p, hp, (mixKind P w).inj p.2 p.1 k (he p hp) h2⟩
  · intro h
    obtain ⟨p, hp, rfl⟩ := List.mem_map.mp h
    exact ⟨rowK w p, List.mem_map_of_mem hp, he p hp⟩
theorem put_at {h : Heap} {o : Obj} {es fs : Array (Int × Value)} {ep : Nat} {t t' : SetTable} (ho : h.get? a = some o) (hd : o.data = .set es ep t) : (h.update a (Obj.putSet fs t')).get? a = some { o with data := .set fs (ep + 1) t' } := by
  have q := Heap.get?_update_self (Obj.putSet fs t') ho (by rw [putSet_of fs t' hd]; rfl)
  rw [putSet_of fs t' hd] at q
  exact q
/-- the rows are stored, and laid anew where the table is too full -/
theorem kset_tail {rule2 : Bool → Sem Unit} (hrule : ∀ (b : Bool) (s2 : Shared) (Q2 : Unit → Shared → Prop), Q2 () s2 → wpAny (model P w) A (rule2 b) Q2 E s2)
    {o : Obj} {es : Array (Int × Value)} {ep : Nat} {t : SetTable} (ho : s.heap.get? a = some o) (hex : o.ExactSet) (hd : o.data = .set es ep t)
    {fs : Array (Int × Value)} {u : SetTable} (hrow : fs.toList = rs.map (rowK w)) (hk : ∀ p ∈ rs, keyIs p.1 p.2 = true) (hnd : (rs.map Prod.fst).Nodup) (hb : fs.size < scanBound) (hf : u.fits fs.size = true) (hr : Ris u.place.toList)
    (hl : w.params.followText "set-order" = true ∨ u.led = true) {was : Bool} {R : Option Bool → Shared → Prop}
    (hR : ∀ h' rs', Heap.SameBut a s.heap h' → KSet w h' a rs' → rs'.Perm rs → R (some true) { s with heap := h' }) :
    wpAny (model P w) A (do
        storeSet a fs u
        if (!was && u.tooFull) = true then do
            rule2 (relayAll u fs (SetTable.grown fs.size)).2.2
            storeSet a (relayAll u fs (SetTable.grown fs.size)).1 (relayAll u fs (SetTable.grown fs.size)).2.1
            pure (some true)
          else pure (some true)) R E s := by
  have so := Heap.SameBut.update s.heap a (Obj.putSet fs u)
  have h1 := put_at (fs := fs) (t' := u) ho hd
  refine wpAny_bind (wpAny_storeSet_of ho hd ?_ (fits_of_scanBound hb))
  by_cases hc : (!was && u.tooFull) = true
  · rw [if_pos hc]
    have pm := relayAll_perm u fs (SetTable.grown fs.size)
    have f2 := relayAll_fits u fs (SetTable.grown fs.size)
    have r2 := relayAll_ris u fs (SetTable.grown fs.size)
    have l2 := relayAll_led u fs (SetTable.grown fs.size)
    revert pm f2 r2 l2
    generalize relayAll u fs (SetTable.grown fs.size) = Z
    obtain ⟨gs, v, gave⟩ := Z
    intro pm f2 r2 l2
    have z : gs.size = fs.size := by rw [← Array.length_toList, pm.length_eq, Array.length_toList]
    obtain ⟨rs', p', e'⟩ := perm_map_inv (pm.trans (by rw [hrow])) rfl
    have hb2 : gs.size < scanBound := by rw [z]; exact hb
    refine wpAny_bind (hrule _ _ _ (wpAny_bind (wpAny_storeSet_of h1 rfl (wpAny_pure (hR _ rs' (so.trans (Heap.SameBut.update _ a _)) ?_ p')) (fits_of_scanBound hb2))))
    exact ⟨_, gs, _, v, put_at h1 rfl, hex, rfl, e', fun p hp => hk p (p'.mem_iff.mp hp), (p'.map Prod.fst).nodup_iff.mpr hnd, hb2, f2, r2, hl.imp id fun q => l2.trans q⟩
  · rw [if_neg hc]
    exact wpAny_pure (hR _ rs so ⟨_, fs, _, u, h1, hex, rfl, hrow, hk, hnd, hb, hf, hr, hl⟩ (List.Perm.refl _))
theorem kset_add {k : Key} {x : Value} {Q : Bool → Shared → Prop} (R : KSet w s.heap a rs) (hx : keyIs k x = true) (room : rs.length + 1 < scanBound)
    (hQ : ∀ b h' rs', Heap.SameBut a s.heap h' → KSet w h' a rs' → (∀ j, j ∈ rs'.map Prod.fst ↔ j = k ∨ j ∈ rs.map Prod.fst) → rs'.length ≤ rs.length + 1 → Q b { s with heap := h' }) :
    wpAny (model P w) A (setAddHashed a x ((mixKind P w).hash k)) Q E s := by
  obtain ⟨o, es, ep, t, ho, hex, hd, he, hk, hnd, hb, hf, hr, hl⟩ := id R
  have el : ElemsOf (mixKind P w) es.toList := by rw [he]; exact rows_elems hk
  have key : (mixKind P w).is k x = true := hx
  have sc := keyIs_scan hx
  have len : es.size = rs.length := by rw [← Array.length_toList, he, List.length_map]
  unfold setAddHashed setAddHashedIn
  refine wpAny_holding (wpAny_bind (wpAny_setState_of ho hd hf ?_))
  dsimp only
  rw [byScan_of sc hb el, if_pos rfl]
  unfold setAddByScan
  refine wpAny_bind (wpAny_bind (wpAny_rule (wpAny_bind (wpAny_setScan_of key ho hd hf el ?_))))
  cases hfi : List.findIdx? (fun e => (mixKind P w).is k e.2) es.toList with
  | some j =>
    dsimp only
    obtain ⟨hj, pj, _⟩ := List.findIdx?_eq_some_iff_getElem.mp hfi
    have hin : k ∈ rs.map Prod.fst := (rows_mem (P := P) (w := w) hk k).mp ⟨es.toList[j], by rw [← he]; exact List.getElem_mem hj, pj⟩
    exact wpAny_pure (wpAny_pure (hQ _ s.heap rs (Heap.SameBut.refl a s.heap) R (fun j => ⟨.inr, fun z => z.elim (fun e => e ▸ hin) id⟩) (Nat.le_succ _)))
  | none =>
    dsimp only
    have hout : k ∉ rs.map Prod.fst := fun z => by
      obtain ⟨e, h1, h2⟩ := (rows_mem (P := P) (w := w) hk k).mpr z
      have c := List.findIdx?_eq_none_iff.mp hfi e (by rw [he]; exact h1)
      rw [h2] at c
      cases c
    have hrule : ∀ (b : Bool) (s2 : Shared) (Q2 : Unit → Shared → Prop), Q2 () s2 → wpAny (model P w) A (match b with | true => rule "set.scan.the-table-gave-way" | false => pure ()) Q2 E s2 := fun b s2 Q2 q => by
      cases b
      · exact wpAny_pure q
      · exact wpAny_rule q
    have pm := layNew_perm t es ((mixKind P w).hash k) x
    have f1 := layNew_fits t es ((mixKind P w).hash k) x
    have r1 := layNew_ris t es ((mixKind P w).hash k) x hr
    have l1 := layNew_led t es ((mixKind P w).hash k) x
    revert pm f1 r1 l1
    generalize layNew t es ((mixKind P w).hash k) x = Z
    obtain ⟨fs, u, was, gave⟩ := Z
    intro pm f1 r1 l1
    dsimp only at pm f1 r1 l1 ⊢
    rw [Array.toList_push, he] at pm
    obtain ⟨rs', p', e'⟩ := perm_map_inv (f := rowK w) (l := (k, x) :: rs) (pm.trans (List.perm_append_singleton _ _)) rfl
    have pk : (rs'.map Prod.fst).Perm (k :: rs.map Prod.fst) := p'.map Prod.fst
    have hk' : ∀ p ∈ rs', keyIs p.1 p.2 = true := fun p hp => by
      rcases List.mem_cons.mp (p'.mem_iff.mp hp) with z | z
      · rw [z]; exact hx
      · exact hk p z
    have nd' : (rs'.map Prod.fst).Nodup := pk.nodup_iff.mpr (List.nodup_cons.mpr ⟨hout, hnd⟩)
    have sz : fs.size = rs.length + 1 := by rw [← Array.length_toList, e', List.length_map, p'.length_eq, List.length_cons]
    have hb' : fs.size < scanBound := by rw [sz]; exact room
    have hl' : w.params.followText "set-order" = true ∨ u.led = true := hl.imp id fun q => l1.trans q
    have fin : ∀ b h' rs2, Heap.SameBut a s.heap h' → KSet w h' a rs2 → rs2.Perm rs' → Q b { s with heap := h' } := fun b h' rs2 sb K p2 => by
      refine hQ b h' rs2 sb K (fun j => ?_) ?_
      · rw [(p2.map Prod.fst).mem_iff, pk.mem_iff, List.mem_cons]
      · rw [p2.length_eq, p'.length_eq, List.length_cons]; exact Nat.le_refl _
    refine wpAny_bind (hrule _ _ _ ?_)
    split
    · refine wpAny_bind ?_
      rw [hashByValue_scannable 8 sc]
      refine wpAny_pure ?_
      refine kset_tail (rs := rs') hrule ho hex hd e' hk' nd' hb' ?_ ?_ ?_ fun h' rs2 sb K p2 => by dsimp only; exact wpAny_pure (fin _ h' rs2 sb K p2)
      · split
        · exact f1
        · exact SetTable.fits_plain_off f1
      · split <;> exact r1
      · split <;> exact hl'
    · refine wpAny_bind (wpAny_pure ?_)
      rw [if_pos rfl]
      exact kset_tail (rs := rs') hrule ho hex hd e' hk' nd' hb' f1 r1 hl' fun h' rs2 sb K p2 => by dsimp only; exact wpAny_pure (fin _ h' rs2 sb K p2)

theorem kset_fresh {h : Heap} (ho : h.get? a = some (set0 w)) : KSet w h a [] :=
  ⟨_, #[], 0, _, ho, ⟨rfl, rfl, rfl⟩, rfl, rfl, (fun p hp => by cases hp), List.nodup_nil, (by decide), (by rfl), List.Pairwise.nil, by
    show _ ∨ (!w.params.followText "set-order") = true
    cases w.params.followText "set-order"
    · exact .inr rfl
    · exact .inl rfl⟩
/-- the loop of set.update over keys -/
theorem kset_update {I : Addr} {fp wr : List Addr} {G : Array GenState → Array GenState → Prop} {n : Nat} {Pv : Nat → Value → Prop} {St : Nat → Shared → Prop} {R : Result → Shared → Prop}
    (W : WalksS P w A.in1 I fp wr G n Pv St) (S : Addr) (far : S ∉ fp) (ks : List Key) (many : n = ks.length) (room : ks.length + 1 < scanBound) (val : ∀ i v, Pv i v → ∃ k, ks[i]? = some k ∧ keyIs k v = true) :
    ∀ (left i : Nat) (s : Shared), n - i = left → i ≤ n → St i s → (∃ rs, KSet w s.heap S rs ∧ (∀ j, j ∈ rs.map Prod.fst ↔ j ∈ ks.take i) ∧ rs.length ≤ i) →
      (∀ s' rs, Moved (S :: wr) G s s' → KSet w s'.heap S rs → (∀ j, j ∈ rs.map Prod.fst ↔ j ∈ ks) → R (.ok (.ret .none)) s') → codeAny (model P w) A (.builtin "set.update.loop" ⟨[.ref S, .ref I], []⟩) R s := by
  have nw : S ∉ wr := fun z => far (W.sub _ z)
  have more : ∀ b ∈ wr, b ∈ S :: wr := fun _ z => .tail _ z
  intro left
  induction left with
  | zero =>
    intro i s hl hi hst ⟨rs, K, hm, _⟩ hR
    obtain rfl : i = n := by omega
    refine codeAny_builtin F.entry_set_update_loop ?_
    rw [Around.under_plainId F.plain_set_update_loop _]
    show wpAny _ A.in1 (pyNext (.ref I) >>= _) _ _ s
    refine wpAny_bind (W.done s _ _ hst fun s' mv => wpAny_pure (hR s' rs (mv.mono more) (K.at fun o e => mv.heap S o nw e) fun j => ?_))
    rw [hm, List.take_of_length_le (by omega)]
  | succ left ih =>
    intro i s hl hi hst ⟨rs, K, hm, hn⟩ hR
    have lt : i < n := by omega
    refine codeAny_builtin F.entry_set_update_loop ?_
    rw [Around.under_plainId F.plain_set_update_loop _]
    show wpAny _ A.in1 (pyNext (.ref I) >>= _) _ _ s
    refine wpAny_bind (W.item i s _ _ lt hst fun v s' hP hst' mv => ?_)
    obtain ⟨k, hk, hv⟩ := val i v hP
    have K' : KSet w s'.heap S rs := K.at fun o e => mv.heap S o nw e
    show wpAny _ A.in1 (holding [v] (setAdd S v) >>= _) _ _ s'
    refine wpAny_bind (wpAny_holding ?_)
    unfold setAdd
    refine wpAny_holding (wpAny_bind ((mixKind P w).pyHash (k := k) hv ?_))
    refine kset_add (s := { s' with toks := s'.toks + 1 }) K' hv (by omega) fun b h' rs' sb K2 hm2 hn2 => ?_
    refine wpAny_pure ⟨plainId_quiet F.plain_set_update_loop _, ih (i + 1) _ (by omega) lt (W.frame _ s' _ _ hst' (Nat.le_succ _) fun b hb o e => ?_) ⟨rs', K2, fun j => ?_, by omega⟩ fun s2 rs2 mv2 K3 hm3 => ?_⟩
    · rw [sb.2 b (fun z => far (z ▸ hb))]; exact e
    · rw [hm2, hm, List.take_add_one, hk, List.mem_append]
      simp only [Option.toList_some, List.mem_singleton]
      exact Or.comm
    · refine hR s2 rs2 (Moved.trans W.gtrans ((mv.mono more).then_heap (Nat.le_succ _) fun b o hb e => ?_) mv2) K3 hm3
      rw [sb.2 b (fun z => hb (z ▸ .head _))]; exact e
/-- set(xs), xs a list or a tuple of keys -/
theorem call_set_keys {l : Addr} {T : String} {items : Array Value} (ks : List Key) {Q : Value → Shared → Prop} (hh : A.handled = none) (hT : (T = "list" ∧ s.heap.IsList l items) ∨ (T = "tuple" ∧ s.heap.IsTuple l items))
    (hi : ∀ (i : Nat) (v : Value), items[i]? = some v → ∃ k, ks[i]? = some k ∧ keyIs k v = true) (many : items.size = ks.length) (room : ks.length + 1 < scanBound)
    (h : ∀ (h' : Heap) (tk : Nat) (rs : List (Key × Value)), KSet w h' s.heap.objs.size rs → (∀ j, j ∈ rs.map Prod.fst ↔ j ∈ ks) → (∀ b o, s.heap.get? b = some o → h'.get? b = some o) → Q (.ref s.heap.objs.size) { s with heap := h', toks := tk }) :
    wpAny (model P w) A (call (.type "set") [.ref l]) Q E s := by
  refine callType_code (Q1 := fun obj s1 => obj = .ref s.heap.objs.size ∧ s1 = { s with heap := s.heap.push (set0 w) }) F.called_set (F.typeCall_set_1 _) (code_set_led1 (.ref l) ⟨rfl, rfl⟩) fun obj s1 z => ?_
  obtain ⟨rfl, rfl⟩ := z
  have at0 : (s.heap.push (set0 w)).get? s.heap.objs.size = some (set0 w) := Heap.get?_push_size _ rfl
  have hTy : Shared.TypeIs { s with heap := s.heap.push (set0 w) } (.ref s.heap.objs.size) "set" := ⟨_, at0, rfl⟩
  have sz : (s.heap.push (set0 w)).objs.size = s.heap.objs.size + 1 := Heap.size_push ..
  refine ⟨hTy, codeAny_call_builtin F.called_set.init.plain F.entry_set_init (check_set_init_1 hTy ?_)⟩
  have fin : ∀ (I : Addr) (s' : Shared) (rs : List (Key × Value)), I = (s.heap.push (set0 w)).objs.size → ∀ it : Obj, Moved (s.heap.objs.size :: [I]) (fun g g' => g' = g) { s with heap := (s.heap.push (set0 w)).push it } s' → KSet w s'.heap s.heap.objs.size rs → (∀ j, j ∈ rs.map Prod.fst ↔ j ∈ ks) → Q (.ref s.heap.objs.size) s' := fun I s' rs eI it hm K hk => by
    obtain ⟨h', g2, d', tk', os'⟩ := s'
    obtain rfl : g2 = s.gens := hm.gens
    obtain rfl : d' = s.drawn := hm.drawn
    obtain rfl : os' = s.os := hm.os
    refine h h' tk' rs K hk fun b o e => hm.heap b o (fun z => ?_) (Heap.get?_push_of_some _ (Heap.get?_push_of_some _ e))
    have := Heap.lt_size e
    rcases List.mem_cons.mp z with e | e
    · exact Nat.ne_of_lt this e
    · exact Nat.ne_of_lt (Nat.lt_succ_of_lt this) ((List.mem_singleton.mp e).trans (eI.trans sz))
  rcases hT with ⟨rfl, hl⟩ | ⟨rfl, hl⟩
  · have lo : l < s.heap.objs.size := let ⟨_, h, _⟩ := hl; Heap.lt_size h
    have lst : (s.heap.push (set0 w)).IsList l items := hl.push _
    have ⟨⟨ocls, odict, odata, oslots⟩, hol, hcl, nl, hdl⟩ := lst
    simp only at hcl hdl
    subst hcl hdl
    have hsls := F.sub_list_set
    have hslf := F.sub_list_frozenset
    have hne : (Value.type "list" == Value.type "dict") = false := by decide
    unfold Builtin.«set.__init__» noKeywords Builtin.Frozenset.updateFrom
    generalize hPI : pyIter = PI
    wp_walk
    subst hPI
    refine wpAny_pyIter_list lst (wpAny_bind (wpAny_runValue ?_))
    have far : l ≠ (s.heap.push (set0 w)).objs.size := Nat.ne_of_lt (by rw [sz]; exact Nat.lt_succ_of_lt lo)
    refine kset_update ((Walks.list (by simp [hh]) _ l far items).toS) s.heap.objs.size (fun z => by
        rcases List.mem_cons.mp z with e | e
        · exact Nat.ne_of_lt (Nat.lt_succ_self _) (e.trans sz)
        · exact Nat.ne_of_gt lo (List.mem_singleton.mp e)) ks many room hi (items.size - 0) 0 _ (by omega) (Nat.zero_le _)
      ⟨⟨_, Heap.get?_push_size _ rfl, rfl, rfl⟩, lst.push _⟩ ⟨[], kset_fresh (Heap.get?_push_of_some _ at0), by simp, Nat.zero_le _⟩ fun s' rs hm K hk => ?_
    exact wpAny_pure (wpAny_pure ⟨rfl, fin _ s' rs rfl _ hm K hk⟩)
  · have lo : l < s.heap.objs.size := let ⟨_, h, _⟩ := hl; Heap.lt_size h
    have lst : (s.heap.push (set0 w)).IsTuple l items := hl.push _
    have ⟨⟨ocls, odict, odata, oslots⟩, hol, hcl, nl, hdl⟩ := lst
    simp only at hcl hdl
    subst hcl hdl
    have hsls := F.sub_tuple_set
    have hslf := F.sub_tuple_frozenset
    have hne : (Value.type "tuple" == Value.type "dict") = false := by decide
    unfold Builtin.«set.__init__» noKeywords Builtin.Frozenset.updateFrom
    generalize hPI : pyIter = PI
    wp_walk
    subst hPI
    refine wpAny_pyIter_tuple lst (wpAny_bind (wpAny_runValue ?_))
    have far : l ≠ (s.heap.push (set0 w)).objs.size := Nat.ne_of_lt (by rw [sz]; exact Nat.lt_succ_of_lt lo)
    refine kset_update ((Walks.tuple (by simp [hh]) _ l far items).toS) s.heap.objs.size (fun z => by
        rcases List.mem_cons.mp z with e | e
        · exact Nat.ne_of_lt (Nat.lt_succ_self _) (e.trans sz)
        · exact Nat.ne_of_gt lo (List.mem_singleton.mp e)) ks many room hi (items.size - 0) 0 _ (by omega) (Nat.zero_le _)
      ⟨⟨_, Heap.get?_push_size _ rfl, rfl, rfl⟩, lst.push _⟩ ⟨[], kset_fresh (Heap.get?_push_of_some _ at0), by simp, Nat.zero_le _⟩ fun s' rs hm K hk => ?_
    exact wpAny_pure (wpAny_pure ⟨rfl, fin _ s' rs rfl _ hm K hk⟩)
end
end DL


/-! D layer, 35: sorted(set(ints or texts)). -/
namespace DL
open PySem PySem.Spec L2 PyProof.Rows
/-! ### each thing once -/
def sameD (a b : D) : Bool := decide (PySem.W.keyToks a = PySem.W.keyToks b)
def nubD (ds : List D) : List D := ds.foldr (fun d r => if r.any (sameD d) = true then r else d :: r) []
theorem nubD_cons (d : D) (ds : List D) : nubD (d :: ds) = if (nubD ds).any (sameD d) = true then nubD ds else d :: nubD ds := (rfl)
theorem nubD_sub : ∀ {ds : List D} {d : D}, d ∈ nubD ds → d ∈ ds
  | [], d, h => h
  | e :: ds, d, h => by
    rw [nubD_cons] at h
    by_cases c : (nubD ds).any (sameD e) = true
    · rw [if_pos c] at h
      exact List.mem_cons_of_mem _ (nubD_sub h)
    · rw [if_neg c] at h
      rcases List.mem_cons.mp h with z | z
      · rw [z]; exact List.mem_cons_self
      · exact List.mem_cons_of_mem _ (nubD_sub z)
theorem sameD_eq {a b : D} (h : PySem.W.alike a b = true) (e : sameD a b = true) : a = b := (toks_inj h (r := []) (s := []) (by rw [of_decide_eq_true e])).1
theorem alikeB_mem {ds : List D} (h : alikeB ds = true) {a b : D} (ha : a ∈ ds) (hb : b ∈ ds) : PySem.W.alike a b = true := List.all_eq_true.mp (List.all_eq_true.mp h a ha) b hb
theorem alikeB_tail {d : D} {ds : List D} (h : alikeB (d :: ds) = true) : alikeB ds = true :=
  List.all_eq_true.mpr fun a ha => List.all_eq_true.mpr fun b hb => alikeB_mem h (List.mem_cons_of_mem _ ha) (List.mem_cons_of_mem _ hb)
theorem mem_nubD : ∀ {ds : List D}, alikeB ds = true → ∀ {d : D}, d ∈ nubD ds ↔ d ∈ ds
  | [], _, d => Iff.rfl
  | e :: ds, h, d => by
    refine ⟨nubD_sub, fun hd => ?_⟩
    rw [nubD_cons]
    have ih := mem_nubD (alikeB_tail h) (d := d)
    by_cases c : (nubD ds).any (sameD e) = true
    · rw [if_pos c]
      rcases List.mem_cons.mp hd with z | z
      · obtain ⟨x, h1, h2⟩ := List.any_eq_true.mp c
        have := sameD_eq (alikeB_mem h List.mem_cons_self (List.mem_cons_of_mem _ (nubD_sub h1))) h2
        rw [z, this]; exact h1
      · exact ih.mpr z
    · rw [if_neg c]
      rcases List.mem_cons.mp hd with z | z
      · rw [z]; exact List.mem_cons_self
      · exact List.mem_cons_of_mem _ (ih.mpr z)
theorem nubD_nodup : ∀ ds : List D, (nubD ds).Nodup
  | [] => List.nodup_nil
  | e :: ds => by
    rw [nubD_cons]
    by_cases c : (nubD ds).any (sameD e) = true
    · rw [if_pos c]; exact nubD_nodup ds
    · rw [if_neg c]
      refine List.nodup_cons.mpr ⟨fun h => c (List.any_eq_true.mpr ⟨e, h, decide_eq_true rfl⟩), nubD_nodup ds⟩
theorem canSort_sub {ds es : List D} (q : ∀ d, d ∈ es → d ∈ ds) (h : canSort ds = true) : canSort es = true := by
  unfold canSort alikeB sortB at h ⊢
  simp only [Bool.and_eq_true, Bool.or_eq_true, List.all_eq_true] at h ⊢
  obtain ⟨h1, h2, h3⟩ := h
  refine ⟨fun d hd => h1 d (q d hd), fun d hd d' hd' => h2 d (q d hd) d' (q d' hd'), ?_⟩
  exact h3.imp (fun z d hd => z d (q d hd)) (fun z d hd => z d (q d hd))
theorem canSort_B {ds : List D} (h : canSort ds = true) : alikeB ds = true := by
  unfold canSort at h
  rw [Bool.and_eq_true, Bool.and_eq_true] at h
  exact h.2.1
theorem nubD_perm {ds es : List D} (h : canSort ds = true) (hn : es.Nodup) (hm : ∀ d, d ∈ es ↔ d ∈ ds) : es.Perm (nubD ds) :=
  (List.perm_ext_iff_of_nodup hn (nubD_nodup ds)).mpr fun d => by rw [hm, mem_nubD (canSort_B h)]
/-! ### keys as data -/
def isKeyD : D → Bool
  | .int _ => true
  | .str _ => true
  | _ => false
theorem keysD_of : ∀ {ds : List D}, ds.all isKeyD = true → ∃ ks : List Key, ds = ks.map keyD
  | [], _ => ⟨[], rfl⟩
  | d :: ds, h => by
    rw [List.all_cons, Bool.and_eq_true] at h
    obtain ⟨ks, e⟩ := keysD_of h.2
    cases d <;> simp only [isKeyD, Bool.false_eq_true, false_and] at h
    · rename_i i
      exact ⟨.inl i :: ks, by rw [e]; rfl⟩
    · rename_i x
      exact ⟨.inr x :: ks, by rw [e]; rfl⟩
theorem keyD_inj {a b : Key} (h : keyD a = keyD b) : a = b := by
  cases a <;> cases b <;> simp only [keyD, PyData.int.injEq, PyData.str.injEq, reduceCtorEq] at h
  · rw [h]
  · rw [h]
theorem DrAll.of_keys {K : PySem.W.Frag} {F : Hp} : ∀ {vs : List V} {ks : List Key}, DrAll K F vs (ks.map keyD) → vs = ks.map kV
  | _, [], .nil => rfl
  | _, k :: ks, .cons a t => by
    rw [DrAll.of_keys t]
    cases k <;> cases a <;> rfl
theorem DrAll.keys {K : PySem.W.Frag} {F : Hp} : ∀ (ks : List Key), DrAll K F (ks.map kV) (ks.map keyD)
  | [] => .nil
  | .inl i :: ks => .cons (.int i) (DrAll.keys ks)
  | .inr x :: ks => .cons (.str x) (DrAll.keys ks)
theorem relV_keyIs {k : Key} {v : Value} (h : RelV (kV k) v) : keyIs k v = true := by
  cases k with
  | inl i => obtain ⟨t, rfl⟩ := h; exact keyIs_int i t
  | inr x => obtain ⟨t, rfl⟩ := h; exact keyIs_str x t
theorem rows_vals : ∀ {rs : List (Key × Value)}, (∀ p ∈ rs, keyIs p.1 p.2 = true) → Vals ((rs.map Prod.fst).map kV) (rs.map Prod.snd)
  | [], _ => .nil
  | p :: rs, h => .cons (keyIs_rel (h p List.mem_cons_self)) (rows_vals fun q hq => h q (List.mem_cons_of_mem _ hq))
section
variable {X : Cx} {W : WX}
/-! ### set(xs) of keys -/
def rSetK (K : PySem.W.Frag) (w : World) : List V → Hp → VK → Prop := fun xs H Q => ∃ (l : Addr) (ks : List Key), xs = [V.ref l] ∧ (SqL K H l (ks.map kV) ∨ SqT K H l (ks.map kV)) ∧ ks.length + 1 < scanBound ∧
  ∀ (a : Addr) (ms : List Key), H a = none → ms.Nodup → (∀ k, k ∈ ms ↔ k ∈ ks) → Q (.ref a) (upd H a (SetVO w a (ms.map kV)))
theorem cr_setK (hc : X.calm = true) : CallR X (.type "set") (rSetK X.K X.w) := by
  intro pins s σ H xs us Q I r h
  obtain ⟨l, ks, rfl, hl, hn, q⟩ := h
  rw [Vals.ref1 r]
  have fin : ∀ (T : String) (items : Array Value), ((T = "list" ∧ s.heap.IsList l items) ∨ (T = "tuple" ∧ s.heap.IsTuple l items)) → Vals (ks.map kV) items.toList → wpAny (model X.prog X.w) X.A (call (.type "set") [.ref l]) (fun v s1 => ∃ x H1, L2.Inv X pins σ H1 s1 ∧ RelV x v ∧ Q x H1) (fun _ _ => False) s := fun T items hT rv => by
    have len : items.size = ks.length := by
      have := rv.length
      rw [List.length_map, Array.length_toList] at this
      exact this.symm
    refine wpAny_mono (call_set_keys (P := X.prog) (w := X.w) (E := fun _ _ => False) ks (Q := fun v s1 => ∃ x H1, L2.Inv X pins σ H1 s1 ∧ RelV x v ∧ Q x H1) (I.ok.hd hc) hT (fun i v hv => ?_) len hn fun h' tk rs K hk k => ?_) (fun _ _ z => z) fun _ _ z => z
    · have hlt : i < ks.length := by rw [← len]; exact (Array.getElem?_eq_some_iff.mp hv).1
      obtain ⟨u, h1, h2⟩ := rv.get (i := i) (x := kV ks[i]) (by rw [List.getElem?_map, List.getElem?_eq_getElem hlt]; rfl)
      rw [Array.getElem?_toList, hv] at h1
      cases h1
      exact ⟨ks[i], List.getElem?_eq_getElem hlt, relV_keyIs h2⟩
    · obtain ⟨o, es, ep, t, ho, hex, hd, he, hki, hnd, hrest⟩ := id K
      exact ⟨.ref s.heap.objs.size, _, I.laid (t' := tk) k (Nat.le_refl _) (setVO_new (rows_vals hki) K.setV), rfl, q _ (rs.map Prod.fst) (I.hok.fresh (Nat.le_refl _)) hnd hk⟩
  rcases hl with hl | hl
  · obtain ⟨its, rv, pl, hz⟩ := I.list hl
    exact wpAny_mono (fin "list" its.toArray (.inl ⟨rfl, pl.isList⟩) (by simpa using rv)) (fun _ _ z => z) fun _ _ z => z.elim
  · obtain ⟨its, rv, pt, hz⟩ := I.tuple hl
    exact wpAny_mono (fin "tuple" its.toArray (.inr ⟨rfl, pt⟩) (by simpa using rv)) (fun _ _ z => z) fun _ _ z => z.elim
/-! ### sorted(set(xs)) -/
def seqItems : D → Option (List D)
  | .list ds => some ds
  | .tuple ds => some ds
  | _ => none
def okSet (ds : List D) : Bool := ds.all isKeyD && (canSort ds && decide (ds.length < 4000))
def gSSetD (d : D) : Option D := (seqItems d).bind fun ds => if okSet ds = true then some (.list (sortD (nubD ds))) else none
def xSSetD (φ : Den Rv) : Den D := fun ρ => (φ ρ).bind fun r ρ1 => ofO ((look ρ1 r).bind gSSetD) ρ1
@[simp] theorem ev_ssetD (φ : Den Rv) (ρ : Env) : xSSetD φ ρ = (φ ρ).bind fun r ρ1 => ofO ((look ρ1 r).bind gSSetD) ρ1 := (rfl)
theorem dn_ssetD {k : Nat} {e : Expr} {φ : Den Rv} {p p2 pos pos2 : Pos} (C : Cok X W k) (hg : Gl X "sorted") (hm : X.mg "sorted" = none) (hg2 : Gl X "set") (hm2 : X.mg "set" = none) (hv : bootBuiltins "sorted" = some (.builtin "sorted")) (hv2 : bootBuiltins "set" = some (.type "set")) (he : DE X W e φ)
    (na : starEach [e] X.env = (false, eval e X.env) :: starEach [] X.env := by rfl) (np : (backTo pos2 (starEach [] X.env)).any (·.1) = false := by rfl)
    (na2 : starEach [Expr.Call (.Name "set" p2) [e] [] pos2] X.env = (false, eval (.Call (.Name "set" p2) [e] [] pos2) X.env) :: starEach [] X.env := by rfl) (np2 : (backTo pos (starEach [] X.env)).any (·.1) = false := by rfl) :
    DN X W (.Call (.Name "sorted" p) [.Call (.Name "set" p2) [e] [] pos2] [] pos) (xSSetD φ) := by
  have inner := pe_callTy (p := p2) (pos := pos2) (cr_setK C.calm) hg2 hm2 hv2 (pa_cons he pa_nil na) (by decide) (by decide) na np
  refine pe_imp (pe_callB (p := p) (pos := pos) (cr_sortedV C) hg hm hv (pa_cons inner pa_nil na2) (by decide) (by decide) na2 np2) fun σ H Q hq => ?_
  obtain ⟨B, F, ρ, S, w⟩ := hq
  refine ⟨B, F, ρ, S, wp_mono (wp_bind w) (fun r ρ1 w1 F1 v H1 s1 S1 q1 => ?_) fun _ _ z => z⟩
  obtain ⟨dz, e1, w2⟩ := wp_ofO w1
  obtain ⟨d, e2, e3⟩ := Option.bind_eq_some_iff.mp e1
  have fin : ∀ (l : Addr) (ds : List D) (vs : List V), okSet ds = true → dz = .list (sortD (nubD ds)) → v = .ref l → (SqL X.K H1 l vs ∨ SqT X.K H1 l vs) → DrAll X.K F1 vs ds → rSetK X.K X.w [v] H1 (fun x H2 => rSortedV X.K X.w [x] H2 Q) := fun l ds vs hok ez ev hl hr => by
    subst ev
    unfold okSet at hok
    rw [Bool.and_eq_true, Bool.and_eq_true, decide_eq_true_eq] at hok
    obtain ⟨h1, h2, h3⟩ := hok
    obtain ⟨ks, rfl⟩ := keysD_of h1
    have ev := hr.of_keys
    subst ev
    refine ⟨l, ks, rfl, hl, by rw [List.length_map] at h3; have : scanBound = 4096 := rfl; omega, fun a ms hn hnd hm => ?_⟩
    have hp : (ms.map keyD).Perm (nubD (ks.map keyD)) := nubD_perm h2 (hnd.map keyD fun a b hne e => hne (keyD_inj e)) fun d => by
      rw [List.mem_map, List.mem_map]
      exact ⟨fun ⟨k, h1, h2⟩ => ⟨k, (hm k).mp h1, h2⟩, fun ⟨k, h1, h2⟩ => ⟨k, (hm k).mpr h1, h2⟩⟩
    have hcn : canSort (nubD (ks.map keyD)) = true := canSort_sub (fun d => nubD_sub) h2
    refine ⟨a, ms.map kV, ms.map keyD, rfl, upd_same, DrAll.keys ms, canSort_perm hp hcn, fun q ys hq hy => ?_⟩
    have S2 := S1.fresh (o := SetVO X.w a (ms.map kV)) hn
    obtain ⟨S3, N⟩ := S2.newL hq (by have := hy F1 (DrAll.keys ms); rw [sortD_uniq hcn hp] at this; exact this)
    rw [ez] at w2
    exact w2 F1 q _ s1 S3 N
  cases d <;> simp only [gSSetD, seqItems, Option.bind_none, Option.bind_some, reduceCtorEq] at e3
  · obtain ⟨hz, e6⟩ := if_some e3
    obtain ⟨l, vs, e, h1, h2⟩ := S1.items q1 e2
    exact fin l _ vs hz e6.symm e (.inl h1) h2
  · obtain ⟨hz, e6⟩ := if_some e3
    obtain ⟨l, vs, e, h1, h2⟩ := S1.tuple q1 e2
    exact fin l _ vs hz e6.symm e (.inr (sqT_mono S1.f h1)) h2
end
end DL


/-! D layer, 36: starred parts of displays, tuple * number, xs.extend(ys). -/
namespace DL
open PySem PySem.Spec L2 PyProof.Rows
theorem drAll_rvs {K : PySem.W.Frag} {F : Hp} {σ : St} : ∀ {vs : List V} {ds : List D}, DrAll K F vs ds → ∀ {as : List Rv} {ys : List V}, RvsOk K F σ as ys → RvsOk K F σ (ds.map Rv.dat ++ as) (vs ++ ys)
  | _, _, .nil, _, _, r => r
  | _, _, .cons a t, _, _, r => .cons (r := .dat _) a (drAll_rvs t r)
@[simp] theorem dats_app (ds : List D) (as : List Rv) : dats (ds.map Rv.dat ++ as) = (dats as).map (ds ++ ·) := by
  induction ds with
  | nil => cases h : dats as <;> simp [h]
  | cons d ds ih =>
    rw [List.map_cons, List.cons_append, dats_cons, ih]
    cases dats as <;> rfl
section
variable {X : Cx} {W : WX}
/-! ### *xs in a display -/
def xStar (φ : Den Rv) (ψ : Den (List Rv)) : Den (List Rv) := fun ρ => (φ ρ).bind fun r ρ1 => (ofO ((look ρ1 r).bind seqItems) ρ1).bind fun ds ρ2 => (ψ ρ2).bind fun as ρ3 => .ok (ds.map Rv.dat ++ as) ρ3
@[simp] theorem ev_star (φ : Den Rv) (ψ : Den (List Rv)) (ρ : Env) : xStar φ ψ ρ = (φ ρ).bind fun r ρ1 => (ofO ((look ρ1 r).bind seqItems) ρ1).bind fun ds ρ2 => (ψ ρ2).bind fun as ρ3 => .ok (ds.map Rv.dat ++ as) ρ3 := (rfl)
theorem da_star {e : Expr} {es : List Expr} {φ : Den Rv} {ψ : Den (List Rv)} {p : Pos} (ha : DE X W e φ) (hr : DA X W es ψ) (hs : starEach (.Starred e p :: es) X.env = (true, eval e X.env) :: starEach es X.env := by rfl) : DA X W (.Starred e p :: es) (xStar φ ψ) := by
  refine pa_imp (StX.pa_star ha hr hs) fun σ H Q hq => ?_
  obtain ⟨B, F, ρ, S, w⟩ := hq
  refine ⟨B, F, ρ, S, wp_mono (wp_bind w) (fun r ρ1 w1 F1 x H1 s1 S1 q1 => ?_) fun _ _ z => z⟩
  obtain ⟨ds, e1, w2⟩ := wp_ofO (wp_bind w1)
  obtain ⟨d, e2, e3⟩ := Option.bind_eq_some_iff.mp e1
  have fin : ∀ (a : Addr) (vs : List V), x = .ref a → (SqT X.K H1 a vs ∨ SqL X.K H1 a vs) → DrAll X.K F1 vs ds → StX.tStar X.K (fun σ H Q => Q x H1) (tDA X.K W ψ) σ H1 Q := fun a vs ev hs hr => by
    refine ⟨a, vs, ev, hs, B, F1, ρ1, S1, wp_mono (wp_bind w2) (fun b ρ2 w3 F2 y H2 s2 S2 q2 => ?_) fun _ _ z => z.up s1⟩
    exact w3 F2 _ H2 (s1.trans s2) S2 (drAll_rvs (hr.up s2) q2)
  cases d <;> simp only [seqItems, reduceCtorEq] at e3
  · cases e3
    obtain ⟨l, vs, e, h1, h2⟩ := S1.items q1 e2
    exact fin l vs e (.inr h1) h2
  · cases e3
    obtain ⟨l, vs, e, h1, h2⟩ := S1.tuple q1 e2
    exact fin l vs e (.inl (sqT_mono S1.f h1)) h2
/-! ### tuple * number -/
theorem tuple_mul1 (l : Addr) (items : Array Value) (n : Nat) (dd : Option Addr) (sl : Array (Option Value)) (u : Tok) :
    Meets (Builtin.«tuple.__mul__» ⟨[.ref l, .int 1 u], []⟩) (fun _ R s => s.heap.get? l = some { cls := .type "tuple", dict := dd, data := .seq items n, slots := sl } ∧ R (.ok (.ret (.ref l))) s) :=
  .of_wp fun prog w A R s h => by
    obtain ⟨hp, g, d, tk, os⟩ := s
    obtain ⟨hl, h⟩ := h
    have f1 := AutoSeq1.idx_int
    wp_walk using wpAny_loadPart' hl
    exact ⟨_, rfl, h⟩
theorem tuple_mul0 (l : Addr) (items : Array Value) (n : Nat) (dd : Option Addr) (sl : Array (Option Value)) (x : Int) (u : Tok) (hx : x ≤ 0) (hx2 : -(2 ^ 63) ≤ x) (c1 : items.isEmpty = false) :
    Meets (Builtin.«tuple.__mul__» ⟨[.ref l, .int x u], []⟩) (fun _ R s => s.heap.get? l = some { cls := .type "tuple", dict := dd, data := .seq items n, slots := sl } ∧
      R (.ok (.ret (Value.ref s.heap.objs.size))) { s with heap := s.heap.push { cls := Value.type "tuple", data := Data.seq #[] }, toks := s.toks }) :=
  .of_wp fun prog w A R s h => by
    obtain ⟨hp, g, d, tk, os⟩ := s
    obtain ⟨hl, h⟩ := h
    have f1 := AutoSeq1.idx_int
    have c0 : (decide (x < -(2 ^ 63)) || decide (x ≥ 2 ^ 63)) = false := by
      rw [decide_eq_false (by omega), decide_eq_false (by omega)]; rfl
    have c2 : (items.isEmpty || x == 1) = false := by
      rw [c1, Bool.false_or]; exact beq_eq_false_iff_ne.mpr (by omega)
    have c3 : (decide (x ≤ 0) || items.isEmpty) = true := by rw [decide_eq_true hx]; rfl
    wp_walk using wpAny_loadPart' hl
    repeat (first
      | (refine wpAny_ite_false (decide_eq_false (by rw [c0]; exact Bool.false_ne_true)) ?_; wp_walk using wpAny_loadPart' hl)
      | (refine wpAny_ite_false (decide_eq_false (by rw [c2]; exact Bool.false_ne_true)) ?_; wp_walk using wpAny_loadPart' hl)
      | (refine wpAny_ite_true (decide_eq_true c3) ?_; wp_walk using wpAny_loadPart' hl))
    exact ⟨_, rfl, h⟩

def rRepTA (K : PySem.W.Frag) : R2 := fun x y H Q => ∃ (l : Addr) (k : Int) (xs : List V), x = .ref l ∧ y = .int k ∧ SqT K H l xs ∧ xs ≠ [] ∧ k ≤ 1000 ∧ -(2 ^ 63) ≤ k ∧ xs.length ≤ 1000 ∧ (k = 1 → Q (.ref l) H) ∧ (k ≠ 1 → ∀ p, H p = none → Q (.ref p) (upd H p (.tup (List.replicate k.toNat xs).flatten)))
theorem op_repTA : OpR X (binaryOp .Mult) (rRepTA X.K) := by
  intro pins s σ H x y v u Q I rx ry h
  obtain ⟨l, k, xs, rfl, rfl, hT, hne, h1, h2, hz, q1, q2⟩ := h
  by_cases hk2 : 2 ≤ k
  · exact op_repT pins s σ H _ _ v u Q I rx ry ⟨l, k, xs, rfl, rfl, hT, hne, hk2, h1, hz, q2 (by omega)⟩
  cases rx
  obtain ⟨t, rfl⟩ := ry
  obtain ⟨its, r, ⟨⟨cls, dd, data, sl⟩, ho, hc, n, hd⟩, hs⟩ := I.tuple hT
  simp only at hc hd
  subst hc hd
  have hi : its.toArray.isEmpty = false := by
    cases its with
    | nil => cases r; exact absurd rfl hne
    | cons a b => rfl
  by_cases e1 : k = 1
  · subst e1
    exact wpAny_binaryOp_repeat_ref (T := "tuple") (U := "int") (by decide) ⟨_, ho, rfl⟩ (fun s' => typeIs_int s' 1 t) noFill_tuple_mul F.fills_int_mul F.slot_int_rmul repeat_tuple F.slot_int_index.lookup
      (call_meets F.slot_int_rmul (typeIs_int s 1 t) F.entry_int_rmul (F.args_int_rmul_2 _ _) (int_rmul_tuple 1 t l its.toArray n dd sl)
        ⟨ho, rfl, ⟨_, ho, rfl⟩, call_meets F.slot_tuple_mul ⟨_, ho, rfl⟩ F.entry_tuple_mul (F.args_tuple_mul_2 _ _) (tuple_mul1 l its.toArray n dd sl t) ⟨ho, ⟨.ref l, H, I, rfl, q1 rfl⟩⟩⟩)
  · have hk0 : k ≤ 0 := by omega
    refine wpAny_binaryOp_repeat_ref (T := "tuple") (U := "int") (by decide) ⟨_, ho, rfl⟩ (fun s' => typeIs_int s' k t) noFill_tuple_mul F.fills_int_mul F.slot_int_rmul repeat_tuple F.slot_int_index.lookup
      (call_meets F.slot_int_rmul (typeIs_int s k t) F.entry_int_rmul (F.args_int_rmul_2 _ _) (int_rmul_tuple k t l its.toArray n dd sl)
        ⟨ho, rfl, ⟨_, ho, rfl⟩, call_meets F.slot_tuple_mul ⟨_, ho, rfl⟩ F.entry_tuple_mul (F.args_tuple_mul_2 _ _) (tuple_mul0 l its.toArray n dd sl k t hk0 h2 hi) ⟨ho, ?_⟩⟩)
    have ez : k.toNat = 0 := by omega
    have q3 := q2 e1
    rw [ez] at q3
    refine ⟨.ref s.heap.objs.size, _, I.laid (t' := s.toks) (o := .tup (List.replicate 0 xs).flatten) (fun b ob q => Heap.get?_push_of_some _ q) (Nat.le_refl _) ?_, rfl, q3 _ (I.hok.fresh (Nat.le_refl _))⟩
    exact ⟨Nat.zero_le _, [], .nil, IsTup.new _ _⟩
variable {K : PySem.W.Frag}
def gRepT : D → D → Option D
  | .tuple ds, .int k => if (ds ≠ [] ∧ k ≤ 1000 ∧ -(2 ^ 63) ≤ k) ∧ ds.length ≤ 1000 then some (.tuple (List.replicate k.toNat ds).flatten) else none
  | _, _ => none
theorem s2_repT : S2 K (rRepTA K) gRepT := by
  intro B F ρ σ H x y a b da db dz Q S ra rb ea eb e q
  cases da <;> cases db <;> simp only [gRepT, reduceCtorEq] at e
  obtain ⟨hc, e⟩ := if_some e
  subst e
  obtain ⟨p, vs, rfl, h1, h2⟩ := S.tuple ra ea
  refine ⟨p, _, vs, rfl, S.int rb eb, sqT_mono S.f h1, fun z => ?_, hc.1.2.1, hc.1.2.2, by rw [h2.length]; exact hc.2, fun e1 => ?_, fun _ l n => S.newTup n (h2.rep _) rfl q⟩
  · subst z; cases h2; exact hc.1.1 rfl
  · subst e1
    refine q F _ H (Same.refl F) S ?_
    show Dr K F _ (.tuple (List.replicate 1 _).flatten)
    rw [List.replicate_one, List.flatten_singleton]
    exact .tup h1 h2
def gMulB (a b : D) : Option D := (gMulA a b).or (gRepT a b)
theorem op_mulB : OpR X (binaryOp .Mult) (fun x y H Q => rMulA X.K x y H Q ∨ rRepTA X.K x y H Q) := OpR.or op_mulA op_repTA
theorem s2_mulB : S2 K (fun x y H Q => rMulA K x y H Q ∨ rRepTA K x y H Q) gMulB := S2.or s2_mulA s2_repT
/-! ### xs.extend(ys) -/
theorem extend_seq (l : Addr) (items : Array Value) (n : Nat) (b : Addr) (T : String) (hT : T = "list" ∨ T = "tuple") (dd : Option Addr) (items2 : Array Value) (n2 : Nat) (sl : Array (Option Value)) (hn : l ≠ b) (hc0 : ¬(!items.isEmpty && Builtin.List.listTooLong (items.size + items2.size)) = true) (hc1 : items.size ≤ sizeLine) (hs2 : items.size + items2.size ≤ sizeLine + 1) :
    Meets (Builtin.«list.extend» ⟨[.ref l, .ref b], []⟩) (fun _ R s => s.heap.get? l = some { cls := .type "list", dict := none, data := .seq items n, slots := #[] } ∧ s.heap.get? b = some { cls := .type T, dict := dd, data := .seq items2 n2, slots := sl } ∧ R (.ok (.ret Value.none)) { s with heap := s.heap.update l (Obj.mapSeq fun x => x ++ items2), toks := s.toks }) :=
  .of_wp fun prog w A R s h => by
    obtain ⟨hp, g, d, tk, os⟩ := s
    obtain ⟨hl, hb, h⟩ := h
    have f1 := AutoSeq1.idx_int
    have f2 := AutoSeq1.sub_tuple_tuple
    have f3 := AutoSeq1.sub_list_list
    have f4 := AutoSeq1.sub_tuple_list
    have f5 := AutoSeq1.sub_list_tuple
    have hz' : (items ++ items2).size ≤ sizeLine + 1 := by rw [Array.size_append]; exact hs2
    rcases hT with rfl | rfl
    · wp_walk using (wpAny_updateSeq hl rfl (hz := hc1) (_hz' := hz')), wpAny_loadPart' hl, wpAny_loadPart' hb
      exact ⟨_, rfl, h⟩
    · wp_walk using (wpAny_updateSeq hl rfl (hz := hc1) (_hz' := hz')), wpAny_loadPart' hl, wpAny_loadPart' hb
      exact ⟨_, rfl, h⟩

def rExtA (K : PySem.W.Frag) : V → List V → Hp → VK → Prop := fun x vs H Q => ∃ (l b : Addr) (xs zs : List V), x = .ref l ∧ vs = [.ref b] ∧ H l = some (.lst xs) ∧ (SqL K H b zs ∨ SqT K H b zs) ∧ (b ≠ l ∨ ∃ o, K.lookup b = some o) ∧ xs.length + zs.length ≤ sizeLine ∧ Q .non (upd H l (.lst (xs ++ zs)))
theorem mt_extA : MtR X "list.extend" (rExtA X.K) := by
  intro pins s σ H x vs v us Q I rx rv h
  obtain ⟨l, b, xs, zs, rfl, rfl, hH, hB, hne, hz, q⟩ := h
  cases rx
  obtain ⟨u, rfl, ru⟩ := rv.one
  cases ru
  obtain ⟨z, its, n, r, hl, e⟩ := I.lstM hH
  have hlb : l ≠ b := by
    rcases hne with z | ⟨o, z⟩
    · exact fun e => z e.symm
    · intro e
      have := (I.bs b o (I.ok.mod.kin b o z)).2
      rw [← e, hH] at this
      cases this
  have go : ∀ (T : String) (its2 : List Value), (T = "list" ∨ T = "tuple") → Vals zs its2 → (∃ o n2, s.heap.get? b = some o ∧ o.cls = .type T ∧ o.data = .seq its2.toArray n2) → wpAny (model X.prog X.w) X.A (call (.builtin "list.extend") [.ref l, .ref b]) (EP X pins σ Q) X.xe s := fun T its2 hT r2 ⟨o, n2, ho, hc, hd⟩ => by
    obtain ⟨cls, dd, data, sl⟩ := o
    simp only at hc hd
    subst hc hd
    have hl2 := r2.length
    have hsz : its.toArray.size + its2.toArray.size ≤ sizeLine := by rw [List.size_toArray, List.size_toArray]; omega
    have hlong : ¬ (!its.toArray.isEmpty && Builtin.List.listTooLong (its.toArray.size + its2.toArray.size)) = true := by
      rw [notLongL hsz, Bool.and_false]
      exact Bool.false_ne_true
    refine call_meets F.slot_list_extend ⟨_, e, rfl⟩ F.entry_list_extend (F.args_list_extend_2 _ _)
      (extend_seq l its.toArray n b T hT dd its2.toArray n2 sl hlb hlong (by rw [List.size_toArray]; omega) (by omega)) ⟨e, ho, ?_⟩
    refine ⟨.non, _, I.lset (its' := its ++ its2) hH e (by simp) (r.append r2) ?_, rfl, q⟩
    rw [List.length_append]
    exact hz
  rcases hB with hB | hB
  · obtain ⟨its2, r2, ⟨o, n2, ho, hc, _, hd⟩, _⟩ := I.list hB
    exact go "list" its2 (.inl rfl) r2 ⟨o, n2, ho, hc, hd⟩
  · obtain ⟨its2, r2, ⟨o, ho, hc, n2, hd⟩, _⟩ := I.tuple hB
    exact go "tuple" its2 (.inr rfl) r2 ⟨o, n2, ho, hc, hd⟩
/-- as SM, of a heap in which the frozen part lies -/
def SMf (K : PySem.W.Frag) (r : V → List V → Hp → VK → Prop) (op : List D → List D → Option (List D × D)) : Prop :=
  ∀ (F H : Hp) (p : Addr) (vs as : List V) (ds da ds' : List D) (z : D) (Q : VK), Same F H → F p = none → H p = some (.lst vs) → DrAll K F vs ds → DrAll K F as da → op ds da = some (ds', z) →
    (∀ vs' v, DrAll K F vs' ds' → Dr K F v z → Q v (upd H p (.lst vs'))) → r (.ref p) as H Q
theorem xMut_soundF {i : Nat} {op : List D → List D → Option (List D × D)} {r : V → List V → Hp → VK → Prop} {φ : Den (List Rv)} (hs : SMf X.K r op) {σ : St} {H : Hp} {Q : VK} (h : tDE X.K W (xMut i op φ) σ H Q) :
    tBM X.K "list" r (tVar i) (tDA X.K W φ) σ H Q := by
  obtain ⟨B, F, ρ, S, w⟩ := h
  unfold xMut at w
  split at w
  · rename_i o ds0 e0
    obtain ⟨p, c, h1, h2, h3, _⟩ := S.mu i o _ e0
    obtain ⟨vs0, rfl, r0⟩ := h3.list
    refine ⟨.ref p, h1, .inl ⟨rfl, _, SqL.of h2⟩, B, F, ρ, S, wp_mono (wp_bind w) (fun rs ρ1 w1 F1 as H1 s1 S1 q1 => ?_) fun _ _ z => z⟩
    split at w1
    · rename_i o' ds das e1 e2
      cases e3 : op ds das with
      | none => simp only [e3] at w1; exact w1.elim
      | some pr =>
        obtain ⟨ds', z⟩ := pr
        simp only [e3] at w1
        obtain ⟨p', c', g1, g2, g3, _, g5, _⟩ := S1.mu i o' _ e1
        rw [h1] at g1; cases g1
        obtain ⟨vs, rfl, r1⟩ := g3.list
        exact hs F1 H1 p vs as ds das ds' z Q S1.f g5 g2 r1 (dats_ok e2 q1) e3 fun vs' v r2 r3 => w1 F1 v _ s1 (S1.change e1 h1 (show Cont X.K F1 (.lst vs') (.list ds') from r2)) r3
    · exact w1.elim
  · exact w.elim
theorem de_mutF {e : Expr} {es : List Expr} {cpos apos p : Pos} {φ : Den (List Rv)} {i : Nat} {x name : Str} {id : String} {op : List D → List D → Option (List D × D)} {r : V → List V → Hp → VK → Prop} (slot : Slot "list" name id) (hty : typeOf (.builtin id) = pure (.type "method_descriptor")) (hm : MtR X id r) (hs : SMf X.K r op)
    (ha : DA X W (e :: es) φ) (hN : X.N[i]? = some x := by rfl) (hv : Vis X.env.scope x := by first | exact Or.inl rfl | exact Or.inr (Or.inl rfl) | exact Or.inr (Or.inr rfl)) (hd : (x == ("__debug__" : Str)) = false := by decide)
    (hcd : (x == ("__classdict__" : Str)) = false := by decide) (hbase : attributeBase (.Name x p) name X.env (eval (.Name x p) X.env) = eval (.Name x p) X.env := by rfl)
    (hfew : ((backTo cpos (starEach (e :: es) X.env)).all (fun x => !x.1) && (backToKw cpos (keywordEach [] X.env)).all (fun x => x.1.isSome) && decide ((e :: es).length + ([] : List Keyword).length + (if ([] : List Keyword).isEmpty then 0 else 1) < 30)) = true := by rfl)
    (hline : (apos.endLine == cpos.line) = true := by rfl) (hst : starEach (e :: es) X.env = (false, eval e X.env) :: starEach es X.env := by rfl) (hplain : (backTo cpos (starEach es X.env)).any (·.1) = false := by rfl) :
    DE X W (.Call (.Attribute (.Name x p) name apos) (e :: es) [] cpos) (xMut i op φ) :=
  pe_imp (pe_bm PySem.F.plainAttrs_list slot hty hm (pe_var hN hv hd hcd) ha hbase hfew hline hst hplain) fun _ _ _ h => xMut_soundF hs h
def oExtend (ds as : List D) : Option (List D × D) := match as with
  | [d] => (seqItems d).bind fun es => if ds.length + es.length ≤ sizeLine then some (ds ++ es, .none) else none
  | _ => none
theorem sq_apart {F H : Hp} {b p : Addr} {u : HO} (hp : F p = none) (h : Rd F b u) : b ≠ p := fun e => by
  rw [e] at h
  rcases h with h | ⟨_, h⟩ <;> rw [hp] at h <;> cases h
theorem sm_extend : SMf K (rExtA K) oExtend := by
  intro F H p vs as ds da ds' z Q hFH hp h r ra e q
  unfold oExtend at e
  split at e
  · rename_i d
    obtain ⟨es, e1, e2⟩ := Option.bind_eq_some_iff.mp e
    obtain ⟨hz, e3⟩ := if_some e2
    cases e3
    cases ra with
    | cons a t =>
      cases t
      cases d <;> simp only [seqItems, reduceCtorEq, Option.some.injEq] at e1
      · subst e1
        cases a with
        | @lst b zs _ h1 h2 =>
          refine ⟨p, b, vs, zs, rfl, rfl, h, .inl (hFH.seq h1), ?_, by rw [r.length, h2.length]; exact hz, q _ _ (r.append h2) .non⟩
          rcases h1 with h1 | ⟨o, _, _, h1, _⟩
          · exact .inl (sq_apart (H := H) hp h1)
          · exact .inr ⟨o, h1⟩
      · subst e1
        cases a with
        | @tup b zs _ h1 h2 =>
          refine ⟨p, b, vs, zs, rfl, rfl, h, .inr (sqT_mono hFH h1), ?_, by rw [r.length, h2.length]; exact hz, q _ _ (r.append h2) .non⟩
          rcases h1 with h1 | ⟨o, _, _, h1, _⟩
          · exact .inl (sq_apart (H := H) hp h1)
          · exact .inr ⟨o, h1⟩
  · cases e
end
end DL


/-! D layer, 37: names for what the suites are worth; what the written part says of error classes, by holes. -/
namespace DL
open PySem PySem.Spec L2 PyProof.Rows
def gxC (d : D) : Exc → Option D := fun _ => some d
def gxNil : Exc → Option (List D) := fun _ => some []
def gxCons (g : Exc → Option D) (gs : Exc → Option (List D)) : Exc → Option (List D) := fun x => (g x).bind fun u => (gs x).map (u :: ·)
def gxTup (gs : Exc → Option (List D)) : Exc → Option D := fun x => (gs x).bind mkTup
def gxIf (g g1 g2 : Exc → Option D) : Exc → Option D := fun x => match g x with | some (.bool true) => g1 x | some (.bool false) => g2 x | _ => none
def gsRet (g : Exc → Option D) : Exc → SR := fun x => match g x with | some dv => .ret dv | none => .bad
def gsNext : Exc → SR := fun _ => .next
def gsIf (g : Exc → Option D) (g1 g2 : Exc → SR) : Exc → SR := fun x => match g x with | some (.bool true) => g1 x | some (.bool false) => g2 x | _ => .bad
def gsSeq (g1 g2 : Exc → SR) : Exc → SR := fun x => match g1 x with | .next => g2 x | r => r
@[simp] theorem ev_gxC (d : D) (x : Exc) : gxC d x = some d := (rfl)
@[simp] theorem ev_gxNil (x : Exc) : gxNil x = some [] := (rfl)
@[simp] theorem ev_gxCons (g : Exc → Option D) (gs : Exc → Option (List D)) (x : Exc) : gxCons g gs x = (g x).bind fun u => (gs x).map (u :: ·) := (rfl)
@[simp] theorem ev_gxTup (gs : Exc → Option (List D)) (x : Exc) : gxTup gs x = (gs x).bind mkTup := (rfl)
@[simp] theorem ev_gxIf (g g1 g2 : Exc → Option D) (x : Exc) : gxIf g g1 g2 x = (match g x with | some (.bool true) => g1 x | some (.bool false) => g2 x | _ => none) := (rfl)
@[simp] theorem ev_gsRet (g : Exc → Option D) (x : Exc) : gsRet g x = (match g x with | some dv => .ret dv | none => .bad) := (rfl)
@[simp] theorem ev_gsNext (x : Exc) : gsNext x = .next := (rfl)
@[simp] theorem ev_gsIf (g : Exc → Option D) (g1 g2 : Exc → SR) (x : Exc) : gsIf g g1 g2 x = (match g x with | some (.bool true) => g1 x | some (.bool false) => g2 x | _ => .bad) := (rfl)
@[simp] theorem ev_gsSeq (g1 g2 : Exc → SR) (x : Exc) : gsSeq g1 g2 x = (match g1 x with | .next => g2 x | r => r) := (rfl)
@[simp] theorem srOut_ret (ρ : Env) (d : D) : srOut ρ (.ret d) = .ret (.dat d) ρ := (rfl)
@[simp] theorem srOut_next (ρ : Env) : srOut ρ .next = .next ρ := (rfl)
@[simp] theorem tryX_t (i : Nat) (tab : List (Str × Bool)) (g : Exc → SR) (x : Exc) (ρ : Env) : tryX i tab g x ρ (some true) = if i < ρ.length then srOut (ρ.set i none) (g x) else .bad := (rfl)
@[simp] theorem tryX_f (i : Nat) (tab : List (Str × Bool)) (g : Exc → SR) (x : Exc) (ρ : Env) : tryX i tab g x ρ (some false) = .exc x ρ := (rfl)
@[simp] theorem tryX0_t (tab : List (Str × Bool)) (g : Exc → SR) (x : Exc) (ρ : Env) : tryX0 tab g x ρ (some true) = srOut ρ (g x) := (rfl)
@[simp] theorem tryX0_f (tab : List (Str × Bool)) (g : Exc → SR) (x : Exc) (ρ : Env) : tryX0 tab g x ρ (some false) = .exc x ρ := (rfl)
/-! ### the text of such an __init__ -/
theorem SupScope.of {ps : List Str} {sc : Scope} (h1 : sc.kind = .function) (h2 : sc.isCoroutine = false) (h3 : sc.isGenerator = false) (nd : ps.Nodup) (par : ∀ x ∈ ps, sc.names.lookup x = some .local) (c : sc.names.lookup ("__class__" : Str) = some .free) (s : sc.names.lookup ("super" : Str) = some .globalImplicit)
    (nc : ∀ x ∈ sc.names, x.2 ≠ .cell) (fr : ∀ x ∈ sc.names, x.2 = .free → x.1 = ("__class__" : Str)) : SupScope ps sc :=
  ⟨h1, h2, h3, nd, par, c, s, nc, fun x hx => fr _ (PySem.mem_of_lookup hx) rfl⟩
/-! ### what the written part says, by holes -/
section
variable {P : Program} {w : World} {K : PySem.W.Frag} {mg : Str → Option Value} {base : Heap} {C fI cc cda : Addr}
theorem oex_of {nm q : Str} {N : Addr} {bs bm : List Value} {sn : List Str} {sub : List Value} {ab : Bool} {col : Option Bool} {dd : Option Addr} {k0 k1 k2 k3 k5 : Option Value}
    (h1 : K.lookup C = some (excClassObj nm q C N bs bm true sn sub ab col dd k0 k1 k2 k3 k5 "ValueError.__new__")) (h2 : PySem.HandSPX.refsVE bm = true) (sa : PySem.W.findIn K (.ref C) "__setattr__" = some (some (.builtin "object.__setattr__")))
    (ex : PySem.W.subIn K (.ref C) (.type "BaseException") = some true) (ty : PySem.W.typeIn K (.ref C) = some (.type "type")) (k : PySem.W.keepIn K (.ref C) = true) : OexC K C :=
  ⟨⟨_, _, _, _, _, _, _, _, _, _, _, _, _, _, _, h1, h2⟩, sa, ex, ty, k⟩
theorem errC_of {x : Str} {fs : List Str} (ns : PySem.W.nsIn K mainGlobals x = some (some (.ref C))) (ga : PySem.W.findIn K (.ref C) "__getattribute__" = some (some (.builtin "BaseException.__getattribute__"))) (gg : PySem.W.findIn K (.ref C) "__getattr__" = some none)
    (ex : PySem.W.subIn K (.ref C) (.type "BaseException") = some true) (hd : PySem.W.hasDictIn K C = true) (ha : PySem.W.findIn K (.ref C) "__class__" = some (some (.builtin "object.__class__"))) (hn : PySem.W.specialIn K (.builtin "object.__class__") "__get__" = some (some (.builtin "getset_descriptor.__get__")))
    (ht : PySem.W.takesIn K (.builtin "object.__class__") = some true) (hm : PySem.W.mroIn K C (.type "object") = some true) (hf : ∀ f ∈ fs, PySem.W.findIn K (.ref C) f = some none) : ErrC K x fs :=
  ⟨C, ns, ⟨ga, gg, ex, hd⟩, ⟨ga, gg, ex, hd, ha, hn, ht, hm⟩, hf⟩
theorem catG_of {y : Str} {tab : List (Str × Bool)} {c : Addr} (hm : mg y = some (.ref c)) (ns : PySem.W.nsIn K mainGlobals y = some (some (.ref c))) (h : ∀ p ∈ tab, ∃ C, PySem.W.nsIn K mainGlobals p.1 = some (some (.ref C)) ∧ PySem.W.exmOne K (.ref C) (.ref c) = some p.2 ∧ PySem.W.kitOne K (.ref C) (.ref c) = some p.2) : CatG K mg y tab := ⟨c, hm, ns, h⟩
theorem cat_nil {c : Addr} : ∀ p ∈ ([] : List (Str × Bool)), ∃ C, PySem.W.nsIn K mainGlobals p.1 = some (some (.ref C)) ∧ PySem.W.exmOne K (.ref C) (.ref c) = some p.2 ∧ PySem.W.kitOne K (.ref C) (.ref c) = some p.2 := fun p h => absurd h List.not_mem_nil
theorem cat_cons {c : Addr} {x : Str} {b : Bool} {tab : List (Str × Bool)} (ns : PySem.W.nsIn K mainGlobals x = some (some (.ref C))) (h1 : PySem.W.exmOne K (.ref C) (.ref c) = some b) (h2 : PySem.W.kitOne K (.ref C) (.ref c) = some b)
    (t : ∀ p ∈ tab, ∃ C, PySem.W.nsIn K mainGlobals p.1 = some (some (.ref C)) ∧ PySem.W.exmOne K (.ref C) (.ref c) = some p.2 ∧ PySem.W.kitOne K (.ref C) (.ref c) = some p.2) : ∀ p ∈ (x, b) :: tab, ∃ C, PySem.W.nsIn K mainGlobals p.1 = some (some (.ref C)) ∧ PySem.W.exmOne K (.ref C) (.ref c) = some p.2 ∧ PySem.W.kitOne K (.ref C) (.ref c) = some p.2 := fun p hp => by
  rcases List.mem_cons.mp hp with e | e
  · rw [e]; exact ⟨C, ns, h1, h2⟩
  · exact t p e
end
end DL


/-! D layer, 38: for the plain laws: folds, drawing, showing, comparing. -/
namespace DL
open PySem PySem.Spec L2
/-! ### loops that gather -/
/-- a for over things of one sort, a state led on -/
theorem forD_fold {β S : Type} {γ : DenG} {ψ : DenS} {g : β → D} {st : S → β → S} {E : S → Env → Prop} : ∀ {bs : List β} {s : S} {ρ : Env}, E s ρ →
    (∀ b ∈ bs, ∀ s ρ, E s ρ → ∃ ρ1 ρ2, γ (g b) ρ = some ρ1 ∧ GoesOn (ψ ρ1) ρ2 ∧ E (st s b) ρ2) → ∃ ρ', forD γ ψ (bs.map g) ρ = .next ρ' ∧ E (bs.foldl st s) ρ'
  | [], s, ρ, i, _ => ⟨ρ, rfl, i⟩
  | b :: bs, s, ρ, i, h => by
    obtain ⟨ρ1, ρ2, h1, h2, h3⟩ := h b List.mem_cons_self s ρ i
    obtain ⟨ρ', h4, h5⟩ := forD_fold (bs := bs) h3 fun b hb => h b (List.mem_cons_of_mem _ hb)
    exact ⟨ρ', by rw [List.map_cons, forD_step h1 h2]; exact h4, h5⟩
/-- a for that appends to what is gathered -/
theorem forD_col {β α : Type} {γ : DenG} {ψ : DenS} {g : β → D} {f : β → List α} {E : List α → Env → Prop} : ∀ {bs : List β} {acc : List α} {ρ : Env} {N : Nat}, E acc ρ → acc.length + (bs.flatMap f).length ≤ N →
    (∀ b ∈ bs, ∀ acc ρ, E acc ρ → acc.length + (f b).length ≤ N → ∃ ρ1 ρ2, γ (g b) ρ = some ρ1 ∧ GoesOn (ψ ρ1) ρ2 ∧ E (acc ++ f b) ρ2) → ∃ ρ', forD γ ψ (bs.map g) ρ = .next ρ' ∧ E (acc ++ bs.flatMap f) ρ'
  | [], acc, ρ, N, i, _, _ => ⟨ρ, rfl, by simpa using i⟩
  | b :: bs, acc, ρ, N, i, hN, h => by
    rw [List.flatMap_cons, List.length_append] at hN
    obtain ⟨ρ1, ρ2, h1, h2, h3⟩ := h b List.mem_cons_self acc ρ i (by omega)
    obtain ⟨ρ', h4, h5⟩ := forD_col (bs := bs) (N := N) h3 (by rw [List.length_append]; omega) fun b hb => h b (List.mem_cons_of_mem _ hb)
    exact ⟨ρ', by rw [List.map_cons, forD_step h1 h2]; exact h4, by rw [List.flatMap_cons, ← List.append_assoc]; exact h5⟩
/-- a for in which each turn leaves a property and goes on -/
theorem forD_all {γ : DenG} {ψ : DenS} {E : Env → Prop} : ∀ {ds : List D} {ρ : Env}, E ρ → (∀ d ∈ ds, ∀ ρ, E ρ → ∃ ρ1 ρ2, γ d ρ = some ρ1 ∧ GoesOn (ψ ρ1) ρ2 ∧ E ρ2) → ∃ ρ', forD γ ψ ds ρ = .next ρ' ∧ E ρ'
  | [], ρ, i, _ => ⟨ρ, rfl, i⟩
  | d :: ds, ρ, i, h => by
    obtain ⟨ρ1, ρ2, h1, h2, h3⟩ := h d List.mem_cons_self ρ i
    obtain ⟨ρ', h4, h5⟩ := forD_all (ds := ds) h3 fun b hb => h b (List.mem_cons_of_mem _ hb)
    exact ⟨ρ', by rw [forD_step h1 h2]; exact h4, h5⟩
/-- a for that may break: the end is by next -/
theorem forD_brk {γ : DenG} {ψ : DenS} {E : Env → Prop} : ∀ {ds : List D} {ρ : Env}, E ρ → (∀ d ∈ ds, ∀ ρ, E ρ → ∃ ρ1 ρ2, γ d ρ = some ρ1 ∧ (GoesOn (ψ ρ1) ρ2 ∨ ψ ρ1 = .brk ρ2) ∧ E ρ2) → ∃ ρ', forD γ ψ ds ρ = .next ρ' ∧ E ρ'
  | [], ρ, i, _ => ⟨ρ, rfl, i⟩
  | d :: ds, ρ, i, h => by
    obtain ⟨ρ1, ρ2, h1, h2, h3⟩ := h d List.mem_cons_self ρ i
    rcases h2 with h2 | h2
    · obtain ⟨ρ', h4, h5⟩ := forD_brk (ds := ds) h3 fun b hb => h b (List.mem_cons_of_mem _ hb)
      exact ⟨ρ', by rw [forD_step h1 h2]; exact h4, h5⟩
    · exact ⟨ρ2, by rw [forD_cons, h1]; dsimp only; rw [h2], h3⟩
@[simp] theorem dats_map (ds : List D) : dats (ds.map Rv.dat) = some ds := by
  have := dats_app ds []
  rw [List.append_nil] at this
  rw [this]
  simp
/-! ### sums of tuples, repeats, membership -/
@[simp] theorem gAddA_tup {xs ys : List D} (h : xs.length + ys.length ≤ 16777216) : gAddA (.tuple xs) (.tuple ys) = some (.tuple (xs ++ ys)) := by
  have : gAdd (.tuple xs) (.tuple ys) = some (.tuple (xs ++ ys)) := if_pos h
  unfold gAddA
  rw [this]
  rfl
theorem flat_rep1 {α : Type} (x : α) (n : Nat) : (List.replicate n [x]).flatten = List.replicate n x := by
  induction n with
  | zero => rfl
  | succ n ih => rw [List.replicate_succ, List.flatten_cons, ih, List.replicate_succ]; rfl
@[simp] theorem gMulB_one {d : D} {k : Int} (h : -(2 ^ 63) ≤ k ∧ k ≤ 1000) : gMulB (.tuple [d]) (.int k) = some (.tuple (List.replicate k.toNat d)) := by
  have : gRepT (.tuple [d]) (.int k) = some (.tuple (List.replicate k.toNat [d]).flatten) := if_pos ⟨⟨by simp, h.2, h.1⟩, by simp⟩
  unfold gMulB gMulA gMul gMulS gRep
  rw [this, flat_rep1]
  rfl
theorem gInC_tup {neg : Bool} {a : D} {ds : List D} (ha : flatD a = true) (hd : ds.all flatD = true) : gInC neg a (.tuple ds) = some (.bool (if neg = true then !(ds.any fun z => PyData.eqv z a) else ds.any fun z => PyData.eqv z a)) := by
  have e : gInF neg a (.tuple ds) = some (.bool (if neg = true then !(ds.any fun z => PyData.eqv z a) else ds.any fun z => PyData.eqv z a)) := if_pos ⟨ha, hd⟩
  have e0 : gInS neg a (.tuple ds) = none := by cases a <;> rfl
  unfold gInC gInA
  rw [e, e0]
  rfl
theorem gInC_lst {neg : Bool} {a : D} {ds : List D} (ha : flatD a = true) (hd : ds.all flatD = true) : gInC neg a (.list ds) = some (.bool (if neg = true then !(ds.any fun z => PyData.eqv z a) else ds.any fun z => PyData.eqv z a)) := by
  have e : gInF neg a (.list ds) = some (.bool (if neg = true then !(ds.any fun z => PyData.eqv z a) else ds.any fun z => PyData.eqv z a)) := if_pos ⟨ha, hd⟩
  have e0 : gInS neg a (.list ds) = none := by cases a <;> rfl
  unfold gInC gInA
  rw [e, e0]
  rfl
/-! ### comparing, showing -/
theorem eqA_sh {n m : Nat} {a b : D} (ha : Sh n a) (hb : Sh m b) (hn : n ≤ 64) (hm : m ≤ 64) : gEqA a b = some (.bool (PyData.eqv a b)) := by
  have e : gEq a b = some (.bool (PyData.eqv a b)) := by
    unfold gEq
    rw [if_pos ⟨ha.shaped hn, hb.shaped hm⟩]
  unfold gEqA
  rw [e]
  cases a <;> cases b <;> rfl
theorem neA_sh {n m : Nat} {a b : D} (ha : Sh n a) (hb : Sh m b) (hn : n ≤ 64) (hm : m ≤ 64) : gNeA a b = some (.bool (!PyData.eqv a b)) := by
  have e : gNe a b = some (.bool (!PyData.eqv a b)) := by
    unfold gNe
    rw [if_pos ⟨ha.shaped hn, hb.shaped hm⟩]
  unfold gNeA
  rw [e]
  cases a <;> cases b <;> rfl
theorem Nc.reprA {n w : Nat} {d : D} (h : Nc n w d) (hn : n ≤ 64 := by decide) (hw : w ≤ 1048576 := by decide) : gReprA [d] = some (.str d.shown) := by
  have lay : PyData.layable0 d = true := by
    unfold PyData.layable0
    rw [h.sh.1, decide_eq_true (Nat.le_trans h.sh.2 hn), decide_eq_true (Nat.le_trans h.wt hw)]
    rfl
  have e : gRepr [d] = some (.str d.shown) := if_pos ⟨h.sh.shaped hn, h.show', Nat.le_trans (PyProof.Rows.shown_le13 lay h.short) (by decide)⟩
  unfold gReprA
  split
  · rename_i e2
    cases e2
    rfl
  · exact e
def alikeA : DL.Env → FAns := fnD 2 (
    yRet (xAndV (xOp gEqA (xCall (lk gReprA) (xCons (xName 0) (xNil))) (xCall (lk gReprA) (xCons (xName 1) (xNil)))) (xOp gEqA (xName 0) (xName 1))))
/-- two things that can be shown and compared -/
theorem alike_any {n w m v : Nat} {a b : D} (ha : Nc n w a) (hb : Nc m v b) (hn : n ≤ 64) (hw : w ≤ 1048576) (hm : m ≤ 64) (hv : v ≤ 1048576) : ∃ r, alikeA [some (.dat a), some (.dat b)] = .ret (.dat (.bool r)) [none, none] ∧ (a = b → r = true) ∧ (r = true → a.shown = b.shown ∧ gEqA a b = some (.bool true)) := by
  have h1 := ha.reprA hn hw
  have h2 := hb.reprA hm hv
  have h3 : ∃ e, gEqA a b = some (.bool e) ∧ (a = b → e = true) := by
    have e : gEq a b = some (.bool (PyData.eqv a b)) := by
      unfold gEq
      rw [if_pos ⟨ha.sh.shaped hn, hb.sh.shaped hm⟩]
    cases hq : gEqS false a b with
    | some z =>
      cases a <;> cases b <;> simp only [gEqS, reduceCtorEq] at hq
      rename_i x y
      exact ⟨decide (x = y), rfl, fun h => by cases h; exact decide_eq_true rfl⟩
    | none => exact ⟨PyData.eqv a b, by unfold gEqA; rw [hq, e]; rfl, fun h => by rw [h]; exact PySem.SeqAt.eqv_refl b (SeqAt.canLay_of_shaped (hb.sh.shaped hm))⟩
  obtain ⟨e, h3, h4⟩ := h3
  unfold alikeA
  rw [ev_fnD]
  by_cases q : a.shown = b.shown
  · refine ⟨e, by simp [h1, h2, h3, q], h4, fun h => ⟨q, by rw [h3, h]⟩⟩
  · refine ⟨false, by simp [h1, h2, q], fun h => absurd (by rw [h]) q, fun h => by cases h⟩
theorem alike_same {n w : Nat} {a : D} (ha : Nc n w a) (hn : n ≤ 64 := by decide) (hw : w ≤ 1048576 := by decide) : alikeA [some (.dat a), some (.dat a)] = .ret (.dat (.bool true)) [none, none] := by
  obtain ⟨r, h1, h2, _⟩ := alike_any ha ha hn hw hn hw
  rw [h1, h2 rfl]
theorem nc_int {i : Int} (h : -1000000 < i ∧ i < 1000000) : Nc 0 41 (.int i) := by
  by_cases h0 : 0 ≤ i
  · obtain ⟨n, rfl⟩ := Int.eq_ofNat_of_zero_le h0
    exact Nc.nat (by have := h.2; omega)
  · obtain ⟨n, rfl⟩ : ∃ n : Nat, i = -(n : Int) - 1 := ⟨(-i - 1).toNat, by omega⟩
    have hn : n + 1 < 1000000 := by omega
    have ha : (-(n : Int) - 1).natAbs = n + 1 := by omega
    refine ⟨Sh.int _, ?_, ?_, ?_⟩
    · show (if (-(n : Int) - 1) == 0 then 0 else (-(n : Int) - 1).natAbs.log2 + 1) ≤ 41
      split
      · omega
      · rw [ha]
        have := (Nat.log2_lt (show n + 1 ≠ 0 by omega) (k := 40)).mpr (by omega)
        omega
    · show decide ((PyData.int (-(n : Int) - 1)).shown.length ≤ 13) = true
      have e : (PyData.int (-(n : Int) - 1)).shown = Str.ofString (toString (-(n : Int) - 1)) := rfl
      have e2 : toString (-(n : Int) - 1) = "-" ++ toString (n + 1) := by
        have : -(n : Int) - 1 = Int.negSucc n := by omega
        rw [this]
        rfl
      rw [e, e2]
      have e3 : Str.ofString ("-" ++ toString (n + 1)) = Str.ofString "-" ++ Str.ofString (toString (n + 1)) := by
        rw [Z_string, Z_string, Z_string, Z_app]
        congr 1
        simp
      rw [e3]
      have e4 : Str.ofString (toString (n + 1)) = Z (TL.numL (n + 1)) := toString_Z (n + 1)
      rw [e4]
      have e5 : Str.ofString "-" = Z [45] := by rw [Z_string]; rfl
      rw [e5, Z_app, Z_len]
      have := TL.numL_len (n := n + 1) (k := 6) (by decide) (by omega)
      simp only [List.length_append, List.length_cons, List.length_nil]
      exact decide_eq_true (by omega)
    · show decide ((-(n : Int) - 1).natAbs.log2 < 1920) = true
      rw [ha]
      exact decide_eq_true (log2_small (Nat.lt_trans hn (Nat.lt_of_lt_of_le (show 1000000 < 2 ^ 40 by decide) (Nat.pow_le_pow_right (by decide) (by decide)))))
end DL


/-! D layer, 39: things in a drawn order. -/
namespace DL
open PySem PySem.Spec L2
def mixed1 : DenS :=
    yExpr (xMut 3 oAppend (xCons (xMut 2 oPopAt (xCons (xFn 2 takeD (xCons (xName 0) (xCons (xCall (lk gLen) (xCons (xName 2) (xNil))) (xNil)))) (xNil))) (xNil)))
def mixedA : DL.Env → FAns := fnD 4 (
    ySeq (yPar [2, 3] (mNew (xCallN (lk gList) (xCons (xName 1) (xNil))) (mNew (xLst (xNil)) (mNil))))
    (ySeq (yWhile fuel (xTest (xOp gNeA (xName 2) (xNew (xLst (xNil))))) (mixed1))
    (yRet (xName 3))))
theorem oPopAt_ok {ds : List D} {v : Int} (h0 : 0 ≤ v) (h1 : v.toNat < ds.length) (h2 : ds.length < 1073741824) : oPopAt ds [.int v] = some (ds.eraseIdx v.toNat, ds[v.toNat]) := by
  have e : seqIndex? v ds.length = some v.toNat := by
    unfold seqIndex?
    have hn : ¬ v < 0 := by omega
    simp [hn]
    omega
  show (if -(2 ^ 63) ≤ v ∧ v < 2 ^ 63 then _ else _) = _
  rw [if_pos (by omega), e]
  simp [List.getElem?_eq_getElem h1]
theorem mixed_ok {bag : D} (h : BagOk bag) {n : Nat} {ds : List D} (hl : ds.length < 1000000) (hs : ∀ d ∈ ds, Sh n d) (hn : n ≤ 63) :
    ∃ es bag', mixedA [some (.own false bag), some (.dat (.list ds))] = .ret (.dat (.list es)) [some (.own false bag'), none] ∧ es.Perm ds ∧ BagOk bag' := by
  have go : ∃ es bag', whileD (xTest (xOp gNeA (xName 2) (xNew (xLst (xNil))))) mixed1 fuel [some (.own false bag), some (.dat (.list ds)), some (.own true (.list ds)), some (.own true (.list []))] = .next [some (.own false bag'), some (.dat (.list ds)), some (.own true (.list [])), some (.own true (.list es))] ∧ es.Perm ds ∧ BagOk bag' := by
    have := whileD_inv (c := xTest (xOp gNeA (xName 2) (xNew (xLst (xNil))))) (ψ := mixed1)
      (I := fun m ρ => ∃ left found bag, ρ = [some (.own false bag), some (.dat (.list ds)), some (.own true (.list left)), some (.own true (.list found))] ∧ left.length = m ∧ (left ++ found).Perm ds ∧ BagOk bag)
      (Post := fun o => ∃ es bag', o = .next [some (.own false bag'), some (.dat (.list ds)), some (.own true (.list [])), some (.own true (.list es))] ∧ es.Perm ds ∧ BagOk bag')
      (by
        rintro m ρ ⟨left, found, bg, rfl, hm, hp, hb⟩
        have hsl : Sh (n + 1) (.list left) := Sh.list fun d hd => hs d (hp.mem_iff.mp (List.mem_append_left _ hd))
        have hne := gNeA_nil hsl (by omega)
        have hll := hp.length_eq
        rw [List.length_append] at hll
        cases hL : left with
        | nil =>
          subst hL
          refine .inl ⟨_, by simp [hne], found, bg, rfl, ?_, hb⟩
          simpa using hp
        | cons x r =>
          rw [← hL]
          have hp0 : 0 < left.length := by rw [hL]; simp
          have hie : left.isEmpty = false := by rw [hL]; rfl
          rw [hie] at hne
          obtain ⟨v, bag', e1, v0, v1, hb'⟩ := hb.take (m := left.length) (by omega) (by omega)
          have hv : v.toNat < left.length := by omega
          have ep := oPopAt_ok v0 hv (by omega)
          have ea : oAppend found [left[v.toNat]] = some (found ++ [left[v.toNat]], .none) := oAppend_ok (by omega)
          have z1 : left.length ≤ 16777216 := by omega
          refine .inr ⟨[some (.own false bg), some (.dat (.list ds)), some (.own true (.list left)), some (.own true (.list found))], by simp [hne], .inl ⟨[some (.own false bag'), some (.dat (.list ds)), some (.own true (.list (left.eraseIdx v.toNat))), some (.own true (.list (found ++ [left[v.toNat]])))], left.length - 1, .inl ?_, by omega, ⟨_, _, _, rfl, by rw [List.length_eraseIdx, if_pos hv], ?_, hb'⟩⟩⟩
          · unfold mixed1
            simp [e1, ep, ea, z1]
          · refine List.Perm.trans ?_ hp
            have q : (left[v.toNat] :: left.eraseIdx v.toNat).Perm left := L2.erase_perm left _ _ (List.getElem?_eq_getElem hv)
            refine List.Perm.trans ?_ (q.append_right found)
            rw [← List.append_assoc]
            exact (List.perm_append_singleton _ _).trans (List.Perm.refl _))
      fuel ds.length [some (.own false bag), some (.dat (.list ds)), some (.own true (.list ds)), some (.own true (.list []))] (by unfold fuel; omega) ⟨ds, [], bag, rfl, rfl, by simp, h⟩
    obtain ⟨es, bag', e, p, b⟩ := this
    exact ⟨es, bag', e, p, b⟩
  obtain ⟨es, bag', e, p, b⟩ := go
  refine ⟨es, bag', ?_, p, b⟩
  have el : gList [.list ds] = some (.list ds) := rfl
  unfold mixedA
  rw [ev_fnD]
  generalize hc : xTest (xOp gNeA (xName 2) (xNew (xLst (xNil)))) = c at e ⊢
  generalize mixed1 = ψ at e ⊢
  simp [el, e]
end DL


/-! D layer, 40: sorting pairs; a for that returns at the first; more of comparing. -/
namespace DL
open PySem PySem.Spec L2 PyProof.Rows
/-- pairs in order are in order by their firsts -/
theorem leD_fst {a b x y : D} (h : PySem.W.alike b a = true) (e : leD (.tuple [a, x]) (.tuple [b, y]) = true) : leD a b = true := by
  have e : (!PySem.W.dataLt (.tuple [b, y]) (.tuple [a, x])) = true := e
  show (!PySem.W.dataLt b a) = true
  by_cases q : PyData.eqv b a = true
  · have k := (PySem.W.toks_eqv b a h).1 q
    unfold PySem.W.dataLt
    rw [k]
    have z : PyProof.Rows.lexLt itemOrd (PySem.W.keyToks a) (PySem.W.keyToks a) = false := (listOrd itemOrd).irrefl _
    rw [z]
    rfl
  · have q : PyData.eqv b a = false := by simpa using q
    rw [PySem.W.dataLt_tuple, PySem.W.dataLt_all_no h q] at e
    exact e
theorem sort_fst {β : Type} {f : β → D} {L : List (D × β)} (hc : canSort (L.map fun p => .tuple [p.1, f p.2]) = true) (hc1 : canSort (L.map (·.1)) = true) :
    ∃ L' : List (D × β), L'.Perm L ∧ sortD (L.map fun p => .tuple [p.1, f p.2]) = L'.map (fun p => .tuple [p.1, f p.2]) ∧ sortD (L.map (·.1)) = L'.map (·.1) := by
  obtain ⟨L', h1, h2⟩ := perm_map_inv (sortD_perm (L.map fun p => PyData.tuple [p.1, f p.2])) rfl
  refine ⟨L', h1, h2, sortD_self hc1 (h1.map _) ?_⟩
  have ho := sortD_ord (L.map fun p => PyData.tuple [p.1, f p.2])
  rw [h2, List.pairwise_map] at ho
  rw [List.pairwise_map]
  refine List.Pairwise.imp_of_mem (fun {a b} ha hb e => ?_) ho
  have hb' : b.1 ∈ L.map (·.1) := List.mem_map_of_mem (h1.mem_iff.mp hb)
  have ha' : a.1 ∈ L.map (·.1) := List.mem_map_of_mem (h1.mem_iff.mp ha)
  exact leD_fst (canSort_alike hc1 _ hb' _ ha') e
/-- a for that returns at the first thing of a sort -/
theorem forD_first {β : Type} {γ : DenG} {ψ : DenS} {g : β → D} {P : β → Bool} {E : Env → Prop} {R : β → Rt → Prop} : ∀ {bs : List β} {ρ : Env}, E ρ →
    (∀ b ∈ bs, ∀ ρ, E ρ → ∃ ρ1, γ (g b) ρ = some ρ1 ∧ (P b = false → ∃ ρ2, GoesOn (ψ ρ1) ρ2 ∧ E ρ2) ∧ (P b = true → ∃ r ρ2, ψ ρ1 = .ret r ρ2 ∧ R b r ∧ E ρ2)) →
    (bs.find? P = none → ∃ ρ', forD γ ψ (bs.map g) ρ = .next ρ' ∧ E ρ') ∧ (∀ b, bs.find? P = some b → ∃ r ρ', forD γ ψ (bs.map g) ρ = .ret r ρ' ∧ R b r ∧ E ρ')
  | [], ρ, i, _ => ⟨fun _ => ⟨ρ, rfl, i⟩, fun b h => by simp at h⟩
  | b :: bs, ρ, i, h => by
    obtain ⟨ρ1, h1, h2, h3⟩ := h b List.mem_cons_self ρ i
    cases hp : P b with
    | true =>
      obtain ⟨r, ρ2, h4, h5, h6⟩ := h3 hp
      refine ⟨fun e => by simp [List.find?_cons, hp] at e, fun b' e => ?_⟩
      simp only [List.find?_cons, hp, Option.some.injEq] at e
      subst e
      exact ⟨r, ρ2, by rw [List.map_cons, forD_ret h1 h4], h5, h6⟩
    | false =>
      obtain ⟨ρ2, h4, h5⟩ := h2 hp
      obtain ⟨k1, k2⟩ := forD_first (bs := bs) h5 fun c hc => h c (List.mem_cons_of_mem _ hc)
      refine ⟨fun e => ?_, fun b' e => ?_⟩
      · simp only [List.find?_cons, hp] at e
        obtain ⟨ρ', h6, h7⟩ := k1 e
        exact ⟨ρ', by rw [List.map_cons, forD_step h1 h4]; exact h6, h7⟩
      · simp only [List.find?_cons, hp] at e
        obtain ⟨r, ρ', h6, h7⟩ := k2 b' e
        exact ⟨r, ρ', by rw [List.map_cons, forD_step h1 h4]; exact h6, h7⟩
def isBoolD : D → Bool
  | .bool _ => true
  | _ => false
/-- a number or a text is equal to nothing but itself, truth values aside -/
theorem eqv_atom {a b : D} (ha : isKeyD a = true) (hb : isBoolD b = false) (e : PyData.eqv a b = true) : a = b := by
  cases a <;> simp only [isKeyD, Bool.false_eq_true] at ha <;> cases b <;> simp only [isBoolD, Bool.true_eq_false] at hb <;> simp only [PyData.eqv, Bool.false_eq_true] at e
  · rename_i i j
    rw [show i = j by simpa using e]
  · rename_i x y
    rw [show x = y by simpa using e]
theorem eqvAll_atoms : ∀ {as bs : List D}, as.all isKeyD = true → bs.all (fun b => !isBoolD b) = true → PyData.eqvAll as bs = true → as = bs
  | [], [], _, _, _ => rfl
  | [], _ :: _, _, _, e => by simp [PyData.eqvAll] at e
  | _ :: _, [], _, _, e => by simp [PyData.eqvAll] at e
  | a :: as, b :: bs, ha, hb, e => by
    simp only [List.all_cons, Bool.and_eq_true] at ha hb
    simp only [PyData.eqvAll, Bool.and_eq_true] at e
    rw [eqv_atom ha.1 (by simpa using hb.1) e.1, eqvAll_atoms ha.2 hb.2 e.2]
theorem eqvAll_self : ∀ {as : List D}, as.all isKeyD = true → PyData.eqvAll as as = true
  | [], _ => rfl
  | a :: as, h => by
    simp only [List.all_cons, Bool.and_eq_true] at h
    simp only [PyData.eqvAll, Bool.and_eq_true]
    refine ⟨?_, eqvAll_self h.2⟩
    cases a <;> simp only [isKeyD, Bool.false_eq_true, false_and] at h <;> simp [PyData.eqv]
/-- what the law's alike is worth -/
def alikeV (a b : D) : Bool := decide (a.shown = b.shown) && (match gEqA a b with | some (.bool e) => e | _ => false)
theorem alike_val {n w m v : Nat} {a b : D} (ha : Nc n w a) (hb : Nc m v b) (hn : n ≤ 64 := by decide) (hw : w ≤ 1048576 := by decide) (hm : m ≤ 64 := by decide) (hv : v ≤ 1048576 := by decide) : alikeA [some (.dat a), some (.dat b)] = .ret (.dat (.bool (alikeV a b))) [none, none] := by
  have h1 := ha.reprA hn hw
  have h2 := hb.reprA hm hv
  have h3 := eqA_sh ha.sh hb.sh hn hm
  unfold alikeA alikeV
  rw [ev_fnD]
  by_cases q : a.shown = b.shown
  · simp [h1, h2, h3, q]
  · simp [h1, h2, q]
theorem alikeV_self {n w : Nat} {a : D} (ha : Nc n w a) (hn : n ≤ 64 := by decide) : alikeV a a = true := by
  unfold alikeV
  rw [eqA_sh ha.sh ha.sh hn hn, PySem.SeqAt.eqv_refl a (SeqAt.canLay_of_shaped (ha.sh.shaped hn))]
  simp
theorem eqA_nil {n : Nat} {xs : List D} (h : Sh n (.list xs)) (k : n ≤ 64) : gEqA (.list xs) (.list []) = some (.bool xs.isEmpty) := by
  rw [eqA_sh h (Sh.list (n := 0) (by simp)) k (by decide)]
  cases xs with
  | nil => rfl
  | cons a b => rfl
theorem eqA_ones {α : Type} (l : List α) : gEqA (.list (l.map fun _ => PyData.int 1)) (.list []) = some (.bool l.isEmpty) := by
  rw [eqA_nil (n := 1) (Sh.list fun d hd => by
    obtain ⟨_, _, rfl⟩ := List.mem_map.mp hd
    exact Sh.int _) (by decide), List.isEmpty_map]
/-! a block's own names, restored -/
@[simp] theorem datOnly_nn : datOnly Option.none = Option.none := (rfl)
@[simp] theorem datOnly_n : datOnly (some Option.none) = Option.none := (rfl)
@[simp] theorem datOnly_d (d : D) : datOnly (some (some (.dat d))) = some (.dat d) := (rfl)
theorem Cl.unw {x : Option Cell} (h : Cl x) : datOnly (some x) = x := by
  rcases h with rfl | ⟨d, rfl⟩ <;> rfl
end DL


namespace K24
open PySem PySem.Spec L2 DL
/-! ### the text -/
def topS (i : Nat) : Stmt := PySem.Challenge.pw_onceorlater_k24_groups_step_by_step.main.body.getD i (.Pass ⟨0, 0, 0, 0⟩)
abbrev s__law_bag : Stmt := topS 24
abbrev s_first_group : Stmt := topS 9
abbrev s__law_take : Stmt := topS 22
abbrev s__law_options : Stmt := topS 34
abbrev s__law_alike : Stmt := topS 23
abbrev s__law_first : Stmt := topS 29
abbrev s__law_is_split : Stmt := topS 28
abbrev s__law_decided : Stmt := topS 30
abbrev s__law_put : Stmt := topS 27
abbrev s__law_leader_steps : Stmt := topS 31
abbrev s__law_member_steps : Stmt := topS 32
abbrev s__law_group_steps : Stmt := topS 33
abbrev s_is_split : Stmt := topS 11
abbrev s_decided : Stmt := topS 13
abbrev s_put_at : Stmt := topS 10
abbrev s_leader_steps : Stmt := topS 15
abbrev s_with_member : Stmt := topS 14
abbrev s_member_steps : Stmt := topS 16
abbrev s_all_steps : Stmt := topS 17
abbrev s_group_steps : Stmt := topS 18
abbrev s_are_all_ended : Stmt := topS 12
abbrev s__law_mixed : Stmt := topS 25
abbrev s__law_some : Stmt := topS 26
abbrev s__law_odd_steps : Stmt := topS 35
abbrev s_is_step : Stmt := topS 19
abbrev s_group_behind : Stmt := topS 20
abbrev s__law_heard : Stmt := topS 36
abbrev s_law : Stmt := topS 37
theorem sc__law_bag : FnScope ["script", "cell"] ["script"] (defScope s__law_bag) := ⟨rfl, rfl, rfl, by decide +kernel, rfl, by decide +kernel, by decide +kernel⟩
theorem sc_first_group : FnScope ["many", "crashes"] ["many", "crashes"] (defScope s_first_group) := ⟨rfl, rfl, rfl, by decide +kernel, rfl, by decide +kernel, by decide +kernel⟩
theorem sc__law_take : FnScope ["bag", "many", "cell", "stirred", "value", "begin", "second"] ["bag", "many"] (defScope s__law_take) := ⟨rfl, rfl, rfl, by decide +kernel, rfl, by decide +kernel, by decide +kernel⟩
theorem sc__law_options : FnScope ["bag", "turn"] ["bag"] (defScope s__law_options) := ⟨rfl, rfl, rfl, by decide +kernel, rfl, by decide +kernel, by decide +kernel⟩
theorem sc__law_alike : FnScope ["found", "due"] ["found", "due"] (defScope s__law_alike) := ⟨rfl, rfl, rfl, by decide +kernel, rfl, by decide +kernel, by decide +kernel⟩
theorem sc__law_first : FnScope ["many", "crashes"] ["many", "crashes"] (defScope s__law_first) := ⟨rfl, rfl, rfl, by decide +kernel, rfl, by decide +kernel, by decide +kernel⟩
theorem sc__law_is_split : FnScope ["state", "words", "member"] ["state"] (defScope s__law_is_split) := ⟨rfl, rfl, rfl, by decide +kernel, rfl, by decide +kernel, by decide +kernel⟩
theorem sc__law_decided : FnScope ["options", "state", "word", "held"] ["options", "state", "word"] (defScope s__law_decided) := ⟨rfl, rfl, rfl, by decide +kernel, rfl, by decide +kernel, by decide +kernel⟩
theorem sc__law_put : FnScope ["row", "at", "thing"] ["row", "at", "thing"] (defScope s__law_put) := ⟨rfl, rfl, rfl, by decide +kernel, rfl, by decide +kernel, by decide +kernel⟩
theorem sc__law_leader_steps : FnScope ["options", "state", "word", "held", "votes", "members", "said", "crashes", "found", "at", "member", "heard", "there", "vote"] ["options", "state"] (defScope s__law_leader_steps) := ⟨rfl, rfl, rfl, by decide +kernel, rfl, by decide +kernel, by decide +kernel⟩
theorem sc__law_member_steps : FnScope ["options", "state", "at", "word", "held", "vote", "some", "told", "end", "found", "step", "member", "less"] ["options", "state", "at"] (defScope s__law_member_steps) := ⟨rfl, rfl, rfl, by decide +kernel, rfl, by decide +kernel, by decide +kernel⟩
theorem sc__law_group_steps : FnScope ["options", "state", "found", "at"] ["options", "state"] (defScope s__law_group_steps) := ⟨rfl, rfl, rfl, by decide +kernel, rfl, by decide +kernel, by decide +kernel⟩
theorem sc_is_split : FnScope ["state", "words", "word", "sure", "vote"] ["state"] (defScope s_is_split) := ⟨rfl, rfl, rfl, by decide +kernel, rfl, by decide +kernel, by decide +kernel⟩
theorem sc_decided : FnScope ["options", "state", "word", "old", "sure", "votes", "members", "said", "crashes", "later"] ["options", "state", "word"] (defScope s_decided) := ⟨rfl, rfl, rfl, by decide +kernel, rfl, by decide +kernel, by decide +kernel⟩
theorem sc_put_at : FnScope ["row", "at", "thing"] ["row", "at", "thing"] (defScope s_put_at) := ⟨rfl, rfl, rfl, by decide +kernel, rfl, by decide +kernel, by decide +kernel⟩
theorem sc_leader_steps : FnScope ["options", "state", "word", "sure", "votes", "members", "said", "crashes", "found", "at", "member", "there", "vote"] ["options", "state"] (defScope s_leader_steps) := ⟨rfl, rfl, rfl, by decide +kernel, rfl, by decide +kernel, by decide +kernel⟩
theorem sc_with_member : FnScope ["state", "at", "member"] ["state", "at", "member"] (defScope s_with_member) := ⟨rfl, rfl, rfl, by decide +kernel, rfl, by decide +kernel, by decide +kernel⟩
theorem sc_member_steps : FnScope ["options", "state", "at", "word", "sure", "vote", "found", "told", "end", "there"] ["options", "state", "at"] (defScope s_member_steps) := ⟨rfl, rfl, rfl, by decide +kernel, rfl, by decide +kernel, by decide +kernel⟩
theorem sc_all_steps : FnScope ["options", "state", "found", "at"] ["options", "state"] (defScope s_all_steps) := ⟨rfl, rfl, rfl, by decide +kernel, rfl, by decide +kernel, by decide +kernel⟩
theorem sc_group_steps : FnScope ["options", "state", "step", "there"] ["options", "state"] (defScope s_group_steps) := ⟨rfl, rfl, rfl, by decide +kernel, rfl, by decide +kernel, by decide +kernel⟩
theorem sc_are_all_ended : FnScope ["state", "word", "sure", "vote"] ["state"] (defScope s_are_all_ended) := ⟨rfl, rfl, rfl, by decide +kernel, rfl, by decide +kernel, by decide +kernel⟩
theorem sc__law_mixed : FnScope ["bag", "things", "left", "found"] ["bag", "things"] (defScope s__law_mixed) := ⟨rfl, rfl, rfl, by decide +kernel, rfl, by decide +kernel, by decide +kernel⟩
theorem sc__law_some : FnScope ["bag", "things"] ["bag", "things"] (defScope s__law_some) := ⟨rfl, rfl, rfl, by decide +kernel, rfl, by decide +kernel, by decide +kernel⟩
theorem sc__law_odd_steps : FnScope ["bag", "many", "steps", "at", "some", "one", "step"] ["bag", "many", "steps"] (defScope s__law_odd_steps) := ⟨rfl, rfl, rfl, by decide +kernel, rfl, by decide +kernel, by decide +kernel⟩
theorem sc_is_step : FnScope ["one", "thing", "part"] ["one", "thing"] (defScope s_is_step) := ⟨rfl, rfl, rfl, by decide +kernel, rfl, by decide +kernel, by decide +kernel⟩
theorem sc_group_behind : FnScope ["options", "state", "step", "one", "there"] ["options", "state", "step"] (defScope s_group_behind) := ⟨rfl, rfl, rfl, by decide +kernel, rfl, by decide +kernel, by decide +kernel⟩
theorem sc__law_heard : FnScope ["options", "state", "step", "e"] ["options", "state", "step"] (defScope s__law_heard) := ⟨rfl, rfl, rfl, by decide +kernel, rfl, by decide +kernel, by decide +kernel⟩
theorem sc_law : FnScope ["script", "bag", "turn", "options", "many", "crashes", "state", "step", "due", "kept", "steps", "words", "told", "ended", "one", "there", "again", "member", "word"] ["script"] (defScope s_law) := ⟨rfl, rfl, rfl, by decide +kernel, rfl, by decide +kernel, by decide +kernel⟩
abbrev i_Refused : Stmt := inClass (topS 2) 0
theorem ss_Refused : SupScope ["self", "why"] (defScope i_Refused) := .of rfl rfl rfl (by decide) (by decide +kernel) rfl rfl (by decide +kernel) (by decide +kernel)
theorem g_Refused {P : Program} {w : World} {K : PySem.W.Frag} {mg : Str → Option Value} {base : Heap} {C fI cc cda : Addr} {ocf kV doc pm ct : Value} {an odf : Option Addr} {osl : Array (Option Value)} (hmg : mg "Refused" = some (.ref C)) (ns : PySem.W.nsIn K mainGlobals "Refused" = some (some (.ref C))) (O : OexC K C)
    (iC : PySem.W.findIn K (.ref C) "__init__" = some (some (.ref fI))) (tI : PySem.W.typeIn K (.ref fI) = some (.type "function")) (lk : K.lookup fI = some ⟨ocf, odf, .func (PySem.W.ksFn "__init__" "Refused.__init__" (defArgs i_Refused) (defBody i_Refused) (defScope i_Refused) .none kV doc pm an (.ref cda) ct cc), osl⟩)
    (hcd : PySem.W.codeIn K (.ref cda) "Refused.__init__" = true) (T : SupC P K mg C C cc cda) (n1 : PySem.W.findIn K (.ref C) "why" = some none) : ErrG P w K mg base "Refused" ["why"] :=
  ⟨C, fI, _, "self", hmg, ns, O, iC, tI, fn_sup1 lk hcd ss_Refused rfl rfl T n1 rfl (by decide) (by decide) (by decide) (by decide) (by intro _; rfl) (by intro env _; exact ⟨_, rfl⟩), Binds.all fun us hl => match us, hl with | [_, _], _ => rfl⟩
/-! ### what each def is worth -/
def c_DONE : D := .str "done"
def c_LOST : D := .str "lost"
def c_NO : D := .str "no"
def c_READY : D := .str "ready"
def c_YES : D := .str "yes"
def d__law_bag : DL.Env → FAns := fnD 2 (
    yRetNew (xLst (xCons (xC (.int 0)) (xCons (xC (.int 1234567891)) (xCons (xC (.int 0)) (xCons (xNew (xLc (xItems (xSl (xName 0) (xNoPart) (xPart (xC (.int 63))))) [1] (gSet 1) (xYes) (xCall (lk gAbs) (xCons (xName 1) (xNil))))) (xNil)))))))
def d_first_group : DL.Env → FAns := fnD 2 (
    yRet (xTup (xCons (xTup (xCons (xC (.str "")) (xCons (xC (.str "")) (xCons (xOp gMulB (xTup (xCons (xC (.str "")) (xNil))) (xName 0)) (xNil))))) (xCons (xOp gMulB (xTup (xCons (xTup (xCons (xC (.str "")) (xCons (xC (.str "")) (xCons (xC (.str "")) (xNil))))) (xNil))) (xName 0)) (xCons (xTup (xNil)) (xCons (xName 1) (xNil)))))))
def d__law_take : DL.Env → FAns := fnD 7 (
    ySeq (yIf (xTest (xOp gEqA (xOp gIx (xName 0) (xC (.int 0))) (xC (.int 0)))) (ySeq (ySet (gSet 2) (xOp gIx (xOp gAddA (xSl (xOp gIx (xName 0) (xC (.int 3))) (xPart (xOp gIx (xName 0) (xC (.int 2)))) (xNoPart)) (xNew (xLst (xCons (xC (.int 0)) (xNil))))) (xC (.int 0))))
    (ySeq (yAugIx gAddI 0 (xC (.int 2)) (xC (.int 1)))
    (ySeq (yIf (xTest (xOp gGe (xName 2) (xOp gPow (xC (.int 10)) (xC (.int 18))))) (ySetIx 0 (xC (.int 0)) (xName 2)) (yNext))
    (ySeq (ySet (gSet 3) (xOp gAddA (xOp gAddA (xOp gMulA (xOp gIx (xName 0) (xC (.int 1))) (xC (.int 48271))) (xOp gMod (xCall (lk gInt) (xCons (xName 2) (xNil))) (xC (.int 2147483647)))) (xOp gMulA (xC (.int 7919)) (xOp gIx (xName 0) (xC (.int 2))))))
    (ySetIx 0 (xC (.int 1)) (xOp gMod (xCall (lk gInt) (xCons (xName 3) (xNil))) (xC (.int 2147483647)))))))) (yNext))
    (ySeq (yIf (xTest (xOp gGt (xOp gIx (xName 0) (xC (.int 0))) (xC (.int 0)))) (ySeq (ySet (gSet 4) (xOp gMod (xCall (lk gInt) (xCons (xOp gIx (xName 0) (xC (.int 0))) (xNil))) (xName 1)))
    (ySeq (ySetIx 0 (xC (.int 0)) (xOp gDiv (xCall (lk gInt) (xCons (xOp gIx (xName 0) (xC (.int 0))) (xNil))) (xName 1)))
    (yRet (xName 4)))) (yNext))
    (ySeq (ySet (gSet 5) (xOp gMod (xCall (lk gInt) (xCons (xOp gMulA (xOp gAddA (xOp gIx (xName 0) (xC (.int 1))) (xC (.int 1))) (xC (.int 39373))) (xNil))) (xC (.int 1000000007))))
    (ySeq (ySet (gSet 6) (xOp gMod (xCall (lk gInt) (xCons (xOp gMulA (xOp gMod (xCall (lk gInt) (xCons (xOp gMulA (xName 5) (xName 5)) (xNil))) (xC (.int 998244353))) (xC (.int 30011))) (xNil))) (xC (.int 998244353))))
    (yRet (xOp gMod (xCall (lk gInt) (xCons (xOp gDiv (xName 6) (xC (.int 7))) (xNil))) (xName 1)))))))
def p__law_options_1 : Den Rv :=
    xOp gEqA (xFn 2 d__law_take (xCons (xName 0) (xCons (xC (.int 2)) (xNil)))) (xC (.int 0))
def d__law_options : DL.Env → FAns := fnD 2 (
    yRet (xCall (lk gTuple) (xCons (xNew (xLc (xRng gRange1 (xCons (xC (.int 3)) (xNil))) [1] (gSet 1) (xYes) (p__law_options_1))) (xNil))))
def d__law_alike : DL.Env → FAns := fnD 2 (
    yRet (xAndV (xOp gEqA (xCall (lk gReprA) (xCons (xName 0) (xNil))) (xCall (lk gReprA) (xCons (xName 1) (xNil)))) (xOp gEqA (xName 0) (xName 1))))
def d__law_first : DL.Env → FAns := fnD 2 (
    yRet (xTup (xCons (xTup (xCons (xC (.str "")) (xCons (xC (.str "")) (xCons (xOp gMulB (xTup (xCons (xC (.str "")) (xNil))) (xName 0)) (xNil))))) (xCons (xOp gMulB (xTup (xCons (xTup (xCons (xC (.str "")) (xCons (xC (.str "")) (xCons (xC (.str "")) (xNil))))) (xNil))) (xName 0)) (xCons (xTup (xNil)) (xCons (xName 1) (xNil)))))))
def d__law_is_split : DL.Env → FAns := fnD 3 (
    ySeq (ySet (gSet 1) (xNew (xLc (xItems (xOp gIx (xName 0) (xC (.int 1)))) [2] (gSet 2) (xYes) (xOp gIx (xName 2) (xC (.int 0))))))
    (yRet (xAndV (xOp (gInC false) (xC (.str "done")) (xName 1)) (xOp (gInC false) (xC (.str "lost")) (xName 1)))))
def d__law_decided : DL.Env → FAns := fnD 4 (
    ySeq (ySet (gSet 3) (xIf (xTruth (xOp gIx (xName 0) (xC (.int 1)))) (xName 2) (xOp gIx (xOp gIx (xName 1) (xC (.int 0))) (xC (.int 1)))))
    (yRet (xTup (xCons (xTup (xCons (xName 2) (xCons (xName 3) (xCons (xOp gIx (xOp gIx (xName 1) (xC (.int 0))) (xC (.int 2))) (xNil))))) (xCons (xOp gIx (xName 1) (xC (.int 1))) (xCons (xCall (lk gTuple) (xCons (xNew (xSSetD (xOp gAddA (xOp gIx (xName 1) (xC (.int 2))) (xTup (xCons (xName 2) (xNil)))))) (xNil))) (xCons (xOp gIx (xName 1) (xC (.int 3))) (xNil))))))))
def d__law_put : DL.Env → FAns := fnD 3 (
    yRet (xOp gAddA (xOp gAddA (xSl (xName 0) (xNoPart) (xPart (xName 1))) (xTup (xCons (xName 2) (xNil)))) (xSl (xName 0) (xPart (xOp gAddA (xName 1) (xC (.int 1)))) (xNoPart))))
def p__law_leader_steps_1 : DenS :=
    yIf (xAnd (xTest (xOp gNeA (xOp gIx (xName 10) (xC (.int 2))) (xC (.str "")))) (xTest (xOp gNeA (xOp gIx (xName 10) (xC (.int 2))) (xOp gIx (xName 4) (xName 9))))) (ySeq (ySet (gSet 11) (xTup (xCons (xName 2) (xCons (xName 3) (xCons (xFn 3 d__law_put (xCons (xName 4) (xCons (xName 9) (xCons (xOp gIx (xName 10) (xC (.int 2))) (xNil))))) (xNil))))))
    (yExpr (xMut 8 oAppend (xCons (xTup (xCons (xTup (xCons (xC (.str "hear")) (xCons (xName 9) (xNil)))) (xCons (xTup (xCons (xName 11) (xCons (xName 5) (xCons (xName 6) (xCons (xName 7) (xNil)))))) (xNil)))) (xNil))))) (yNext)
def d__law_leader_steps : DL.Env → FAns := fnD 14 (
    ySeq (ySet (gTupD 4 (gsCons (gTupD 3 (gsCons (gSet 2) (gsCons (gSet 3) (gsCons (gSet 4) (gsNil))))) (gsCons (gSet 5) (gsCons (gSet 6) (gsCons (gSet 7) (gsNil)))))) (xName 1))
    (ySeq (ySetNew 8 (xLst (xNil)))
    (ySeq (yIf (xTest (xOp gEqA (xName 2) (xC (.str "")))) (ySeq (yExpr (xMut 8 oAppend (xCons (xTup (xCons (xTup (xCons (xC (.str "no")) (xNil))) (xCons (xFn 3 d__law_decided (xCons (xName 0) (xCons (xName 1) (xCons (xC (.str "no")) (xNil))))) (xNil)))) (xNil))))
    (ySeq (yIf (xTest (xOp gEqA (xNew (xLc (xItems (xName 4)) [13] (gSet 13) (xTest (xOp gNeA (xName 13) (xC (.str "yes")))) (xName 13))) (xNew (xLst (xNil))))) (yExpr (xMut 8 oAppend (xCons (xTup (xCons (xTup (xCons (xC (.str "yes")) (xNil))) (xCons (xFn 3 d__law_decided (xCons (xName 0) (xCons (xName 1) (xCons (xC (.str "yes")) (xNil))))) (xNil)))) (xNil)))) (yNext))
    (yFor (xWalk gEnum1 (xCons (xName 5) (xNil))) (gTupD 2 (gsCons (gSet 9) (gsCons (gSet 10) (gsNil)))) (p__law_leader_steps_1)))) (yNext))
    (ySeq (yIf (xAnd (xTest (xOp gNeA (xName 2) (xC (.str "")))) (xTest (xOp gNeA (xName 3) (xName 2)))) (yExpr (xMut 8 oAppend (xCons (xTup (xCons (xTup (xCons (xC (.str "hold")) (xNil))) (xCons (xTup (xCons (xTup (xCons (xName 2) (xCons (xName 2) (xCons (xName 4) (xNil))))) (xCons (xName 5) (xCons (xName 6) (xCons (xName 7) (xNil)))))) (xNil)))) (xNil)))) (yNext))
    (ySeq (yIf (xTest (xOp gGt (xName 7) (xC (.int 0)))) (ySeq (ySet (gSet 12) (xTup (xCons (xTup (xCons (xName 3) (xCons (xName 3) (xCons (xOp gMulB (xTup (xCons (xC (.str "")) (xNil))) (xCall (lk gLen) (xCons (xName 4) (xNil)))) (xNil))))) (xCons (xName 5) (xCons (xName 6) (xCons (xOp gSub (xName 7) (xC (.int 1))) (xNil)))))))
    (ySeq (ySet (gSet 12) (xIf (xAnd (xTest (xOp gEqA (xName 3) (xC (.str "")))) (xTruth (xOp gIx (xName 0) (xC (.int 2))))) (xFn 3 d__law_decided (xCons (xName 0) (xCons (xName 12) (xCons (xC (.str "no")) (xNil))))) (xName 12)))
    (yExpr (xMut 8 oAppend (xCons (xTup (xCons (xTup (xCons (xC (.str "crash")) (xNil))) (xCons (xName 12) (xNil)))) (xNil)))))) (yNext))
    (yRetOwn 8))))))
def p__law_member_steps_1 : DenS :=
    ySeq (ySet (gSet 8) (xIf (xTest (xOp gEqA (xName 7) (xC (.str "yes")))) (xC (.str "done")) (xC (.str "lost"))))
    (yExpr (xMut 6 oAppend (xCons (xTup (xCons (xTup (xCons (xC (.str "learn")) (xCons (xName 2) (xCons (xName 7) (xNil))))) (xCons (xTup (xCons (xName 8) (xCons (xName 8) (xCons (xName 5) (xNil))))) (xCons (xC (.int 0)) (xNil))))) (xNil))))
def p__law_member_steps_2 : DenS :=
    yExpr (xMut 9 oAppend (xCons (xTup (xCons (xName 10) (xCons (xTup (xCons (xOp gIx (xName 1) (xC (.int 0))) (xCons (xFn 3 d__law_put (xCons (xOp gIx (xName 1) (xC (.int 1))) (xCons (xName 2) (xCons (xName 11) (xNil))))) (xCons (xOp gIx (xName 1) (xC (.int 2))) (xCons (xOp gSub (xOp gIx (xName 1) (xC (.int 3))) (xName 12)) (xNil)))))) (xNil)))) (xNil)))
def d__law_member_steps : DL.Env → FAns := fnD 13 (
    ySeq (ySet (gTupD 3 (gsCons (gSet 3) (gsCons (gSet 4) (gsCons (gSet 5) (gsNil))))) (xOp gIx (xOp gIx (xName 1) (xC (.int 1))) (xName 2)))
    (ySeq (ySetNew 6 (xLst (xNil)))
    (ySeq (yIf (xTest (xOp gEqA (xName 3) (xC (.str "")))) (ySeq (yExpr (xMut 6 oAppend (xCons (xTup (xCons (xTup (xCons (xC (.str "vote")) (xCons (xName 2) (xNil)))) (xCons (xTup (xCons (xC (.str "ready")) (xCons (xIf (xTruth (xOp gIx (xName 0) (xC (.int 0)))) (xC (.str "ready")) (xName 4)) (xCons (xC (.str "yes")) (xNil))))) (xCons (xC (.int 0)) (xNil))))) (xNil))))
    (yExpr (xMut 6 oAppend (xCons (xTup (xCons (xTup (xCons (xC (.str "refuse")) (xCons (xName 2) (xNil)))) (xCons (xTup (xCons (xC (.str "lost")) (xCons (xC (.str "lost")) (xCons (xC (.str "no")) (xNil))))) (xCons (xC (.int 0)) (xNil))))) (xNil))))) (yNext))
    (ySeq (yIf (xTest (xOp gEqA (xName 3) (xC (.str "ready")))) (ySeq (yFor (xItems (xOp gIx (xName 1) (xC (.int 2)))) (gSet 7) (p__law_member_steps_1))
    (ySeq (yIf (xTest (xOp gNeA (xName 4) (xC (.str "ready")))) (yExpr (xMut 6 oAppend (xCons (xTup (xCons (xTup (xCons (xC (.str "hold")) (xCons (xName 2) (xNil)))) (xCons (xTup (xCons (xC (.str "ready")) (xCons (xC (.str "ready")) (xCons (xName 5) (xNil))))) (xCons (xC (.int 0)) (xNil))))) (xNil)))) (yNext))
    (yIf (xTest (xOp gGt (xOp gIx (xName 1) (xC (.int 3))) (xC (.int 0)))) (yExpr (xMut 6 oAppend (xCons (xTup (xCons (xTup (xCons (xC (.str "crash")) (xCons (xName 2) (xNil)))) (xCons (xTup (xCons (xName 4) (xCons (xName 4) (xCons (xName 5) (xNil))))) (xCons (xC (.int 1)) (xNil))))) (xNil)))) (yNext)))) (yNext))
    (ySeq (ySetNew 9 (xLst (xNil)))
    (ySeq (yFor (xItems (xName 6)) (gTupD 3 (gsCons (gSet 10) (gsCons (gSet 11) (gsCons (gSet 12) (gsNil))))) (p__law_member_steps_2))
    (yRet (xName 9))))))))
def p__law_group_steps_1 : DenS :=
    yExpr (xMut 2 oExtend (xCons (xFn 3 d__law_member_steps (xCons (xName 0) (xCons (xName 1) (xCons (xName 3) (xNil))))) (xNil)))
def d__law_group_steps : DL.Env → FAns := fnD 4 (
    ySeq (yIf (xTruth (xFn 1 d__law_is_split (xCons (xName 1) (xNil)))) (yRet (xNew (xLst (xNil)))) (yNext))
    (ySeq (ySetNew 2 (xFnN 2 d__law_leader_steps (xCons (xName 0) (xCons (xName 1) (xNil)))))
    (ySeq (yFor (xRng gRange1 (xCons (xCall (lk gLen) (xCons (xOp gIx (xName 1) (xC (.int 1))) (xNil))) (xNil))) (gSet 3) (p__law_group_steps_1))
    (yRet (xNew (xSorted (xName 2)))))))
def d_is_split : DL.Env → FAns := fnD 5 (
    ySeq (ySet (gSet 1) (xNew (xLc (xItems (xOp gIx (xName 0) (xC (.int 1)))) [2, 3, 4] (gTupD 3 (gsCons (gSet 2) (gsCons (gSet 3) (gsCons (gSet 4) (gsNil))))) (xYes) (xName 2))))
    (yRet (xAndV (xOp (gInC false) (xC c_DONE) (xName 1)) (xOp (gInC false) (xC c_LOST) (xName 1)))))
def d_decided : DL.Env → FAns := fnD 10 (
    ySeq (ySet (gTupD 4 (gsCons (gTupD 3 (gsCons (gSet 3) (gsCons (gSet 4) (gsCons (gSet 5) (gsNil))))) (gsCons (gSet 6) (gsCons (gSet 7) (gsCons (gSet 8) (gsNil)))))) (xName 1))
    (ySeq (ySet (gSet 9) (xIf (xTest (xOp (gInC false) (xName 2) (xName 7))) (xName 7) (xCall (lk gTuple) (xCons (xNew (xSorted (xNew (xLst (xStar (xName 7) (xCons (xName 2) (xNil))))))) (xNil)))))
    (yRet (xTup (xCons (xTup (xCons (xName 2) (xCons (xIf (xTruth (xOp gIx (xName 0) (xC (.int 1)))) (xName 2) (xName 4)) (xCons (xName 5) (xNil))))) (xCons (xName 6) (xCons (xName 9) (xCons (xName 8) (xNil)))))))))
def d_put_at : DL.Env → FAns := fnD 3 (
    yRet (xTup (xStar (xSl (xName 0) (xNoPart) (xPart (xName 1))) (xCons (xName 2) (xStar (xSl (xName 0) (xPart (xOp gAddA (xName 1) (xC (.int 1)))) (xNoPart)) (xNil))))))
def p_leader_steps_1 : DenS :=
    yIf (xTest (xOp (gInC true) (xOp gIx (xName 10) (xC (.int 2))) (xTup (xCons (xC (.str "")) (xCons (xOp gIx (xName 4) (xName 9)) (xNil)))))) (yExpr (xMut 8 oAppend (xCons (xTup (xCons (xTup (xCons (xC (.str "hear")) (xCons (xName 9) (xNil)))) (xCons (xTup (xCons (xTup (xCons (xName 2) (xCons (xName 3) (xCons (xFn 3 d_put_at (xCons (xName 4) (xCons (xName 9) (xCons (xOp gIx (xName 10) (xC (.int 2))) (xNil))))) (xNil))))) (xCons (xName 5) (xCons (xName 6) (xCons (xName 7) (xNil)))))) (xNil)))) (xNil)))) (yNext)
def d_leader_steps : DL.Env → FAns := fnD 13 (
    ySeq (ySet (gTupD 4 (gsCons (gTupD 3 (gsCons (gSet 2) (gsCons (gSet 3) (gsCons (gSet 4) (gsNil))))) (gsCons (gSet 5) (gsCons (gSet 6) (gsCons (gSet 7) (gsNil)))))) (xName 1))
    (ySeq (ySetNew 8 (xLst (xNil)))
    (ySeq (yIf (xTest (xOp gEqA (xName 2) (xC (.str "")))) (ySeq (yExpr (xMut 8 oAppend (xCons (xTup (xCons (xTup (xCons (xC c_NO) (xNil))) (xCons (xFn 3 d_decided (xCons (xName 0) (xCons (xName 1) (xCons (xC c_NO) (xNil))))) (xNil)))) (xNil))))
    (ySeq (yIf (xTruth (xCall (lk gAll) (xCons (xNew (xLc (xItems (xName 4)) [12] (gSet 12) (xYes) (xOp gEqA (xName 12) (xC c_YES)))) (xNil)))) (yExpr (xMut 8 oAppend (xCons (xTup (xCons (xTup (xCons (xC c_YES) (xNil))) (xCons (xFn 3 d_decided (xCons (xName 0) (xCons (xName 1) (xCons (xC c_YES) (xNil))))) (xNil)))) (xNil)))) (yNext))
    (yFor (xWalk gEnum1 (xCons (xName 5) (xNil))) (gTupD 2 (gsCons (gSet 9) (gsCons (gSet 10) (gsNil)))) (p_leader_steps_1)))) (yIf (xTest (xOp gNeA (xName 3) (xName 2))) (yExpr (xMut 8 oAppend (xCons (xTup (xCons (xTup (xCons (xC (.str "hold")) (xNil))) (xCons (xTup (xCons (xTup (xCons (xName 2) (xCons (xName 2) (xCons (xName 4) (xNil))))) (xCons (xName 5) (xCons (xName 6) (xCons (xName 7) (xNil)))))) (xNil)))) (xNil)))) (yNext)))
    (ySeq (yIf (xTest (xOp gGt (xName 7) (xC (.int 0)))) (ySeq (ySet (gSet 11) (xTup (xCons (xTup (xCons (xName 3) (xCons (xName 3) (xCons (xOp gMulB (xTup (xCons (xC (.str "")) (xNil))) (xCall (lk gLen) (xCons (xName 4) (xNil)))) (xNil))))) (xCons (xName 5) (xCons (xName 6) (xCons (xOp gSub (xName 7) (xC (.int 1))) (xNil)))))))
    (yExpr (xMut 8 oAppend (xCons (xTup (xCons (xTup (xCons (xC (.str "crash")) (xNil))) (xCons (xIf (xAnd (xTest (xOp gEqA (xName 3) (xC (.str "")))) (xTruth (xOp gIx (xName 0) (xC (.int 2))))) (xFn 3 d_decided (xCons (xName 0) (xCons (xName 11) (xCons (xC c_NO) (xNil))))) (xName 11)) (xNil)))) (xNil))))) (yNext))
    (yRetOwn 8)))))
def d_with_member : DL.Env → FAns := fnD 3 (
    yRet (xTup (xCons (xOp gIx (xName 0) (xC (.int 0))) (xCons (xFn 3 d_put_at (xCons (xOp gIx (xName 0) (xC (.int 1))) (xCons (xName 1) (xCons (xName 2) (xNil))))) (xCons (xOp gIx (xName 0) (xC (.int 2))) (xCons (xOp gIx (xName 0) (xC (.int 3))) (xNil)))))))
def p_member_steps_1 : DenS :=
    ySeq (ySet (gSet 8) (xIf (xTest (xOp gEqA (xName 7) (xC c_YES))) (xC c_DONE) (xC c_LOST)))
    (yExpr (xMut 6 oAppend (xCons (xTup (xCons (xTup (xCons (xC (.str "learn")) (xCons (xName 2) (xCons (xName 7) (xNil))))) (xCons (xFn 3 d_with_member (xCons (xName 1) (xCons (xName 2) (xCons (xTup (xCons (xName 8) (xCons (xName 8) (xCons (xName 5) (xNil))))) (xNil))))) (xNil)))) (xNil))))
def d_member_steps : DL.Env → FAns := fnD 10 (
    ySeq (ySet (gTupD 3 (gsCons (gSet 3) (gsCons (gSet 4) (gsCons (gSet 5) (gsNil))))) (xOp gIx (xOp gIx (xName 1) (xC (.int 1))) (xName 2)))
    (ySeq (ySetNew 6 (xLst (xNil)))
    (ySeq (yIf (xTest (xOp gEqA (xName 3) (xC (.str "")))) (ySeq (yExpr (xMut 6 oAppend (xCons (xTup (xCons (xTup (xCons (xC (.str "vote")) (xCons (xName 2) (xNil)))) (xCons (xFn 3 d_with_member (xCons (xName 1) (xCons (xName 2) (xCons (xTup (xCons (xC c_READY) (xCons (xIf (xTruth (xOp gIx (xName 0) (xC (.int 0)))) (xC c_READY) (xName 4)) (xCons (xC c_YES) (xNil))))) (xNil))))) (xNil)))) (xNil))))
    (yExpr (xMut 6 oAppend (xCons (xTup (xCons (xTup (xCons (xC (.str "refuse")) (xCons (xName 2) (xNil)))) (xCons (xFn 3 d_with_member (xCons (xName 1) (xCons (xName 2) (xCons (xTup (xCons (xC c_LOST) (xCons (xC c_LOST) (xCons (xC c_NO) (xNil))))) (xNil))))) (xNil)))) (xNil))))) (yNext))
    (ySeq (yIf (xTest (xOp gEqA (xName 3) (xC c_READY))) (ySeq (yFor (xItems (xOp gIx (xName 1) (xC (.int 2)))) (gSet 7) (p_member_steps_1))
    (ySeq (yIf (xTest (xOp gNeA (xName 4) (xC c_READY))) (yExpr (xMut 6 oAppend (xCons (xTup (xCons (xTup (xCons (xC (.str "hold")) (xCons (xName 2) (xNil)))) (xCons (xFn 3 d_with_member (xCons (xName 1) (xCons (xName 2) (xCons (xTup (xCons (xC c_READY) (xCons (xC c_READY) (xCons (xName 5) (xNil))))) (xNil))))) (xNil)))) (xNil)))) (yNext))
    (yIf (xTest (xOp gGt (xOp gIx (xName 1) (xC (.int 3))) (xC (.int 0)))) (ySeq (ySet (gSet 9) (xFn 3 d_with_member (xCons (xName 1) (xCons (xName 2) (xCons (xTup (xCons (xName 4) (xCons (xName 4) (xCons (xName 5) (xNil))))) (xNil))))))
    (yExpr (xMut 6 oAppend (xCons (xTup (xCons (xTup (xCons (xC (.str "crash")) (xCons (xName 2) (xNil)))) (xCons (xTup (xCons (xOp gIx (xName 9) (xC (.int 0))) (xCons (xOp gIx (xName 9) (xC (.int 1))) (xCons (xOp gIx (xName 9) (xC (.int 2))) (xCons (xOp gSub (xOp gIx (xName 9) (xC (.int 3))) (xC (.int 1))) (xNil)))))) (xNil)))) (xNil))))) (yNext)))) (yNext))
    (yRet (xName 6))))))
def p_all_steps_1 : DenS :=
    yExpr (xMut 2 oExtend (xCons (xFn 3 d_member_steps (xCons (xName 0) (xCons (xName 1) (xCons (xName 3) (xNil))))) (xNil)))
def d_all_steps : DL.Env → FAns := fnD 4 (
    ySeq (yIf (xTruth (xFn 1 d_is_split (xCons (xName 1) (xNil)))) (yRet (xNew (xLst (xNil)))) (yNext))
    (ySeq (ySetNew 2 (xFnN 2 d_leader_steps (xCons (xName 0) (xCons (xName 1) (xNil)))))
    (ySeq (yFor (xRng gRange1 (xCons (xCall (lk gLen) (xCons (xOp gIx (xName 1) (xC (.int 1))) (xNil))) (xNil))) (gSet 3) (p_all_steps_1))
    (yRet (xName 2)))))
def d_group_steps : DL.Env → FAns := fnD 4 (
    yRet (xCall (lk gTuple) (xCons (xNew (xSorted (xNew (xLc (xItems (xFn 2 d_all_steps (xCons (xName 0) (xCons (xName 1) (xNil))))) [2, 3] (gTupD 2 (gsCons (gSet 2) (gsCons (gSet 3) (gsNil)))) (xYes) (xName 2))))) (xNil))))
def p_are_all_ended_1 : Den Rv :=
    xOp (gInC false) (xName 1) (xTup (xCons (xC c_DONE) (xCons (xC c_LOST) (xNil))))
def d_are_all_ended : DL.Env → FAns := fnD 4 (
    yRet (xCall (lk gAll) (xCons (xNew (xLc (xItems (xOp gIx (xName 0) (xC (.int 1)))) [1, 2, 3] (gTupD 3 (gsCons (gSet 1) (gsCons (gSet 2) (gsCons (gSet 3) (gsNil))))) (xYes) (p_are_all_ended_1))) (xNil))))
def p__law_mixed_1 : DenS :=
    yExpr (xMut 3 oAppend (xCons (xMut 2 oPopAt (xCons (xFn 2 d__law_take (xCons (xName 0) (xCons (xCall (lk gLen) (xCons (xName 2) (xNil))) (xNil)))) (xNil))) (xNil)))
def d__law_mixed : DL.Env → FAns := fnD 4 (
    ySeq (yPar [2, 3] (mNew (xCallN (lk gList) (xCons (xName 1) (xNil))) (mNew (xLst (xNil)) (mNil))))
    (ySeq (yWhile fuel (xTest (xOp gNeA (xName 2) (xNew (xLst (xNil))))) (p__law_mixed_1))
    (yRet (xName 3))))
def d__law_some : DL.Env → FAns := fnD 2 (
    yRet (xOp gIx (xName 1) (xFn 2 d__law_take (xCons (xName 0) (xCons (xCall (lk gLen) (xCons (xName 1) (xNil))) (xNil))))))
def p__law_odd_steps_1 : Den Bool :=
    xTruth (xFn 2 d__law_alike (xCons (xName 6) (xCons (xName 5) (xNil))))
def p__law_odd_steps_2 : Den Bool :=
    xTest (xOp gEqA (xNew (xLc (xItems (xName 2)) [6] (gSet 6) (p__law_odd_steps_1) (xC (.int 1)))) (xNew (xLst (xNil))))
def d__law_odd_steps : DL.Env → FAns := fnD 7 (
    ySeq (ySet (gSet 3) (xFn 2 d__law_take (xCons (xName 0) (xCons (xName 1) (xNil)))))
    (ySeq (ySet (gSet 4) (xNew (xLst (xCons (xTup (xCons (xC (.str "vote")) (xCons (xName 3) (xNil)))) (xCons (xTup (xCons (xC (.str "refuse")) (xCons (xName 3) (xNil)))) (xCons (xTup (xCons (xC (.str "hear")) (xCons (xName 3) (xNil)))) (xCons (xTup (xCons (xC (.str "hold")) (xCons (xName 3) (xNil)))) (xCons (xTup (xCons (xC (.str "crash")) (xCons (xName 3) (xNil)))) (xCons (xTup (xCons (xC (.str "learn")) (xCons (xName 3) (xCons (xC (.str "yes")) (xNil))))) (xNil))))))))))
    (ySeq (ySet (gSet 4) (xOp gAddA (xName 4) (xNew (xLst (xCons (xTup (xCons (xC (.str "learn")) (xCons (xName 3) (xCons (xC (.str "no")) (xNil))))) (xCons (xTup (xCons (xC (.str "yes")) (xNil))) (xCons (xTup (xCons (xC (.str "no")) (xNil))) (xCons (xTup (xCons (xC (.str "hold")) (xNil))) (xCons (xTup (xCons (xC (.str "crash")) (xNil))) (xCons (xTup (xCons (xC (.str "vote")) (xCons (xName 1) (xNil)))) (xCons (xTup (xCons (xC (.str "vote")) (xCons (xNeg (xC (.int 1))) (xNil)))) (xNil))))))))))))
    (ySeq (ySet (gSet 4) (xOp gAddA (xName 4) (xNew (xLst (xCons (xTup (xCons (xC (.str "vote")) (xCons (xC (.bool true)) (xNil)))) (xCons (xTup (xCons (xC (.str "vote")) (xCons (xC (.bool false)) (xNil)))) (xCons (xNew (xLst (xCons (xC (.str "no")) (xNil)))) (xCons (xC (.str "no")) (xCons (xTup (xCons (xC (.str "no")) (xCons (xC (.int 0)) (xNil)))) (xCons (xTup (xCons (xC (.str "learn")) (xCons (xName 3) (xNil)))) (xCons (xTup (xCons (xC (.str "crash")) (xCons (xC .none) (xNil)))) (xNil))))))))))))
    (ySeq (ySet (gSet 4) (xOp gAddA (xName 4) (xNew (xLst (xCons (xC (.int 0)) (xCons (xC .none) (xCons (xTup (xNil)) (xNil))))))))
    (yRet (xNew (xLc (xItems (xName 4)) [5] (gSet 5) (p__law_odd_steps_2) (xName 5)))))))))
def d_is_step : DL.Env → FAns := fnD 3 (
    ySeq (yIf (xOr (xNot (xTruth (xIsi "tuple" (xName 1)))) (xTest (xOp gNeA (xName 0) (xName 1)))) (yRet (xC (.bool false))) (yNext))
    (yRet (xCall (lk gAll) (xCons (xNew (xLc (xItems (xName 1)) [2] (gSet 2) (xYes) (xNotV (xIsi "bool" (xName 2))))) (xNil)))))
def p_group_behind_1 : DenS :=
    yIf (xTruth (xFn 2 d_is_step (xCons (xName 3) (xCons (xName 2) (xNil))))) (yRet (xName 4)) (yNext)
def d_group_behind : DL.Env → FAns := fnD 5 (
    ySeq (yFor (xItems (xFn 2 d_all_steps (xCons (xName 0) (xCons (xName 1) (xNil))))) (gTupD 2 (gsCons (gSet 3) (gsCons (gSet 4) (gsNil)))) (p_group_behind_1))
    (yRaise "Refused" ["why"] (xCons (xC (.str "step")) (xNil))))
def d__law_heard : DL.Env → FAns := fnD 4 (
    yTry (yRet (xTup (xCons (xC (.str "told")) (xCons (xFn 3 d_group_behind (xCons (xName 0) (xCons (xName 1) (xCons (xName 2) (xNil))))) (xNil))))) 3 [("Refused", true)] (gsRet (gxTup (gxCons (gxC (.str "refused")) (gxCons (gFld [("Refused", ["why"])] "why") (gxNil))))))
def p_law_1 : Den Bool :=
    xTest (xOp (gInC true) (xName 18) (xTup (xCons (xC (.str "done")) (xCons (xC (.str "lost")) (xNil)))))
def p_law_2 : DenS :=
    yIf (xOr (xNot (xTruth (xFn 2 d__law_alike (xCons (xFn 3 d__law_heard (xCons (xName 3) (xCons (xName 6) (xCons (xName 14) (xNil))))) (xCons (xTup (xCons (xC (.str "told")) (xCons (xName 15) (xNil)))) (xNil)))))) (xTest (xOp gNeA (xCall (lk gReprA) (xCons (xName 6) (xNil))) (xName 9)))) (yRet (xC (.bool false))) (yNext)
def p_law_3 : DenS :=
    yFor (xRng gRange1 (xCons (xC (.int 2)) (xNil))) (gSet 16) (p_law_2)
def p_law_4 : DenS :=
    yIf (xTest (xOp gNeA (xFn 3 d__law_heard (xCons (xName 3) (xCons (xName 6) (xCons (xName 14) (xNil))))) (xTup (xCons (xC (.str "refused")) (xCons (xC (.str "step")) (xNil)))))) (yRet (xC (.bool false))) (yNext)
def p_law_5 : DenS :=
    ySeq (yPar [8, 9] (mDat (xFn 2 d__law_group_steps (xCons (xName 3) (xCons (xName 6) (xNil)))) (mDat (xCall (lk gReprA) (xCons (xName 6) (xNil))) (mNil))))
    (ySeq (yPar [10, 11] (mDat (xNew (xLc (xItems (xName 8)) [14, 15] (gTupD 2 (gsCons (gSet 14) (gsCons (gSet 15) (gsNil)))) (xYes) (xName 14))) (mDat (xNew (xLc (xItems (xOp gIx (xName 6) (xC (.int 1)))) [17] (gSet 17) (xYes) (xOp gIx (xName 17) (xC (.int 0))))) (mNil))))
    (ySeq (ySet (gSet 12) (xNew (xLst (xCons (xFn 2 d_group_steps (xCons (xName 3) (xCons (xName 6) (xNil)))) (xCons (xFn 1 d_is_split (xCons (xName 6) (xNil))) (xCons (xFn 1 d_are_all_ended (xCons (xName 6) (xNil))) (xNil)))))))
    (ySeq (ySet (gSet 13) (xOp gEqA (xNew (xLc (xItems (xName 11)) [18] (gSet 18) (p_law_1) (xName 18))) (xNew (xLst (xNil)))))
    (ySeq (yIf (xNot (xTruth (xFn 2 d__law_alike (xCons (xName 12) (xCons (xNew (xLst (xCons (xCall (lk gTuple) (xCons (xName 10) (xNil))) (xCons (xFn 1 d__law_is_split (xCons (xName 6) (xNil))) (xCons (xName 13) (xNil)))))) (xNil)))))) (yRet (xC (.bool false))) (yNext))
    (ySeq (yFor (xItems (xName 8)) (gTupD 2 (gsCons (gSet 14) (gsCons (gSet 15) (gsNil)))) (p_law_3))
    (ySeq (yFor (xItems (xSl (xFn 2 d__law_mixed (xCons (xName 1) (xCons (xFn 3 d__law_odd_steps (xCons (xName 1) (xCons (xName 4) (xCons (xName 10) (xNil))))) (xNil)))) (xNoPart) (xPart (xC (.int 6))))) (gSet 14) (p_law_4))
    (ySeq (yIf (xTest (xOp gEqA (xName 8) (xNew (xLst (xNil))))) (yBreak) (yNext))
    (ySet (gSet 6) (xOp gIx (xFn 2 d__law_some (xCons (xName 1) (xCons (xName 8) (xNil)))) (xC (.int 1)))))))))))
def p_law_6 : DenS :=
    ySeq (yPar [3, 4, 5] (mDat (xFn 1 d__law_options (xCons (xName 1) (xNil))) (mDat (xOp gAddA (xC (.int 1)) (xFn 2 d__law_take (xCons (xName 1) (xCons (xC (.int 4)) (xNil))))) (mDat (xFn 2 d__law_take (xCons (xName 1) (xCons (xC (.int 4)) (xNil)))) (mNil)))))
    (ySeq (ySet (gSet 6) (xFn 2 d_first_group (xCons (xName 4) (xCons (xName 5) (xNil)))))
    (ySeq (yIf (xNot (xTruth (xFn 2 d__law_alike (xCons (xName 6) (xCons (xFn 2 d__law_first (xCons (xName 4) (xCons (xName 5) (xNil)))) (xNil)))))) (yRet (xC (.bool false))) (yNext))
    (yFor (xRng gRange1 (xCons (xC (.int 14)) (xNil))) (gSet 7) (p_law_5))))
def d_law : DL.Env → FAns := fnD 19 (
    ySeq (ySetNew 1 (xFnN 1 d__law_bag (xCons (xName 0) (xNil))))
    (ySeq (yFor (xRng gRange1 (xCons (xC (.int 4)) (xNil))) (gSet 2) (p_law_6))
    (yRet (xC (.bool true)))))
/-! ### what the module holds -/
structure Txt (K : PySem.W.Frag) (mg : Str → Option Value) : Prop where
  z_abs : mg "abs" = none
  z_all : mg "all" = none
  z_bool : mg "bool" = none
  z_enumerate : mg "enumerate" = none
  z_int : mg "int" = none
  z_isinstance : mg "isinstance" = none
  z_len : mg "len" = none
  z_list : mg "list" = none
  z_range : mg "range" = none
  z_repr : mg "repr" = none
  z_set : mg "set" = none
  z_sorted : mg "sorted" = none
  z_tuple : mg "tuple" = none
  g_DONE : ∃ u, mg "DONE" = some u ∧ RelV (.str "done") u
  g_LOST : ∃ u, mg "LOST" = some u ∧ RelV (.str "lost") u
  g_NO : ∃ u, mg "NO" = some u ∧ RelV (.str "no") u
  g_READY : ∃ u, mg "READY" = some u ∧ RelV (.str "ready") u
  g_YES : ∃ u, mg "YES" = some u ∧ RelV (.str "yes") u
section
variable {P : Program} {w : World} {K : PySem.W.Frag} {mg : Str → Option Value} {base : Heap}
theorem Txt.e_DONE {X : Cx} {W : WX} {pos : Pos} (T : Txt X.K X.mg) (hg : Gl X "DONE" := by rfl) : DE X W (.Name "DONE" pos) (xC c_DONE) := by
  obtain ⟨u, h1, h2⟩ := T.g_DONE
  exact de_glob hg h1 h2 fun _ => by first | exact .int _ | exact .str _ | exact .bl _
theorem Txt.e_LOST {X : Cx} {W : WX} {pos : Pos} (T : Txt X.K X.mg) (hg : Gl X "LOST" := by rfl) : DE X W (.Name "LOST" pos) (xC c_LOST) := by
  obtain ⟨u, h1, h2⟩ := T.g_LOST
  exact de_glob hg h1 h2 fun _ => by first | exact .int _ | exact .str _ | exact .bl _
theorem Txt.e_NO {X : Cx} {W : WX} {pos : Pos} (T : Txt X.K X.mg) (hg : Gl X "NO" := by rfl) : DE X W (.Name "NO" pos) (xC c_NO) := by
  obtain ⟨u, h1, h2⟩ := T.g_NO
  exact de_glob hg h1 h2 fun _ => by first | exact .int _ | exact .str _ | exact .bl _
theorem Txt.e_READY {X : Cx} {W : WX} {pos : Pos} (T : Txt X.K X.mg) (hg : Gl X "READY" := by rfl) : DE X W (.Name "READY" pos) (xC c_READY) := by
  obtain ⟨u, h1, h2⟩ := T.g_READY
  exact de_glob hg h1 h2 fun _ => by first | exact .int _ | exact .str _ | exact .bl _
theorem Txt.e_YES {X : Cx} {W : WX} {pos : Pos} (T : Txt X.K X.mg) (hg : Gl X "YES" := by rfl) : DE X W (.Name "YES" pos) (xC c_YES) := by
  obtain ⟨u, h1, h2⟩ := T.g_YES
  exact de_glob hg h1 h2 fun _ => by first | exact .int _ | exact .str _ | exact .bl _
set_option maxHeartbeats 0 in
theorem f__law_bag (T : Txt K mg) {f : Addr} {fd : FuncData} (F : Fun K "_law_bag" "_law_bag" s__law_bag f fd) : FnG P w K mg base 1 f fd ["script"] d__law_bag :=
  fn_D (k := 0) F sc__law_bag fun cdv A outer s H E C => (dss_one (ds_retNew (dn_lst (da_cons de_int (da_cons de_int (da_cons de_int (da_cons (de_new (dn_lc C (own := [("cell", 1)]) (di_seq (de_sl de_name do_none (do_some de_int))) (blkOk_by (by kernel_rfl)) (by decide) (fun _ _ _ _ _ => (dg_name C.blk.nd)) (fun _ _ _ _ _ => dts_nil) (fun _ _ _ _ _ => (de_callB call_abs s1_abs (by rfl) T.z_abs DL.b_abs (da_cons de_name da_nil))))) da_nil)))))))
set_option maxHeartbeats 0 in
theorem f_first_group (T : Txt K mg) {f : Addr} {fd : FuncData} (F : Fun K "first_group" "first_group" s_first_group f fd) : FnG P w K mg base 1 f fd ["many", "crashes"] d_first_group :=
  fn_D (k := 0) F sc_first_group fun cdv A outer s H E C => (dss_one (ds_ret (de_tup (da_cons (de_tup (da_cons de_str (da_cons de_str (da_cons (de_op op_mulB s2_mulB (de_tup (da_cons de_str da_nil)) de_name) da_nil)))) (da_cons (de_op op_mulB s2_mulB (de_tup (da_cons (de_tup (da_cons de_str (da_cons de_str (da_cons de_str da_nil)))) da_nil)) de_name) (da_cons (de_tup da_nil) (da_cons de_name da_nil)))))))
set_option maxHeartbeats 0 in
theorem f__law_take (T : Txt K mg) {f : Addr} {fd : FuncData} (F : Fun K "_law_take" "_law_take" s__law_take f fd) : FnG P w K mg base 1 f fd ["bag", "many"] d__law_take :=
  fn_D (k := 0) F sc__law_take fun cdv A outer s H E C => (dss_cons (ds_if (dt_cmp (op_eqA C.rm) s2_eqA (de_ix de_name de_int) de_int (by rfl)) (dss_cons (ds_set C.nd (de_ix (de_op op_addL s2_addL (de_sl (de_ix de_name de_int) (do_some (de_ix de_name de_int)) do_none) (de_new (dn_lst (da_cons de_int da_nil)))) de_int))
    (dss_cons (ds_augIx ip_add s2_iadd de_int de_int)
    (dss_cons (ds_if (dt_cmp op_geA s2_ge de_name (de_op op_pow s2_pow de_int de_int) (by rfl)) (dss_one (ds_setIx de_name de_int)) dss_nil)
    (dss_cons (ds_set C.nd (de_op op_addL s2_addL (de_op op_addL s2_addL (de_op op_mulA s2_mulA (de_ix de_name de_int) de_int) (de_op op_mod s2_mod (de_callTy call_intA s1_int (by rfl) T.z_int DL.b_int (da_cons de_name da_nil)) de_int)) (de_op op_mulA s2_mulA de_int (de_ix de_name de_int))))
    (dss_one (ds_setIx (de_op op_mod s2_mod (de_callTy call_intA s1_int (by rfl) T.z_int DL.b_int (da_cons de_name da_nil)) de_int) de_int)))))) dss_nil)
    (dss_cons (ds_if (dt_cmp op_gtA s2_gt (de_ix de_name de_int) de_int (by rfl)) (dss_cons (ds_set C.nd (de_op op_mod s2_mod (de_callTy call_intA s1_int (by rfl) T.z_int DL.b_int (da_cons (de_ix de_name de_int) da_nil)) de_name))
    (dss_cons (ds_setIx (de_op op_fdiv s2_div (de_callTy call_intA s1_int (by rfl) T.z_int DL.b_int (da_cons (de_ix de_name de_int) da_nil)) de_name) de_int)
    (dss_one (ds_ret de_name)))) dss_nil)
    (dss_cons (ds_set C.nd (de_op op_mod s2_mod (de_callTy call_intA s1_int (by rfl) T.z_int DL.b_int (da_cons (de_op op_mulA s2_mulA (de_op op_addL s2_addL (de_ix de_name de_int) de_int) de_int) da_nil)) de_int))
    (dss_cons (ds_set C.nd (de_op op_mod s2_mod (de_callTy call_intA s1_int (by rfl) T.z_int DL.b_int (da_cons (de_op op_mulA s2_mulA (de_op op_mod s2_mod (de_callTy call_intA s1_int (by rfl) T.z_int DL.b_int (da_cons (de_op op_mulA s2_mulA de_name de_name) da_nil)) de_int) de_int) da_nil)) de_int))
    (dss_one (ds_ret (de_op op_mod s2_mod (de_callTy call_intA s1_int (by rfl) T.z_int DL.b_int (da_cons (de_op op_fdiv s2_div de_name de_int) da_nil)) de_name)))))))
set_option maxHeartbeats 0 in
theorem f__law_options (T : Txt K mg) {f : Addr} {fd : FuncData} (F : Fun K "_law_options" "_law_options" s__law_options f fd) (G__law_take : Ce P w K mg base "_law_take" 1 ["bag", "many"] d__law_take) : FnG P w K mg base 2 f fd ["bag"] d__law_options :=
  fn_D (k := 1) F sc__law_options fun cdv A outer s H E C => (dss_one (ds_ret (de_callTy call_tuple_of s1_tuple (by rfl) T.z_tuple DL.b_tuple (da_cons (de_new (dn_lc C (own := [("turn", 1)]) (di_range1 (by rfl) T.z_range (da_cons de_int da_nil)) (blkOk_by (by kernel_rfl)) (by decide) (fun _ _ _ _ _ => (dg_name C.blk.nd)) (fun _ _ _ _ _ => dts_nil) (fun _ _ _ _ _ => (de_cmp (op_eqA C.blk.rm) s2_eqA (de_ce G__law_take C.blk (by decide) (by rfl) (da_cons de_name (da_cons de_int da_nil))) de_int (by rfl))))) da_nil))))
set_option maxHeartbeats 0 in
theorem f__law_alike (T : Txt K mg) {f : Addr} {fd : FuncData} (F : Fun K "_law_alike" "_law_alike" s__law_alike f fd) : FnG P w K mg base 1 f fd ["found", "due"] d__law_alike :=
  fn_D (k := 0) F sc__law_alike fun cdv A outer s H E C => (dss_one (ds_ret (de_and (de_cmp (op_eqA C.rm) s2_eqA (de_callB (call_reprA C) s1_reprA (by rfl) T.z_repr DL.b_repr (da_cons de_name da_nil)) (de_callB (call_reprA C) s1_reprA (by rfl) T.z_repr DL.b_repr (da_cons de_name da_nil)) (by rfl)) (de_one (de_cmp (op_eqA C.rm) s2_eqA de_name de_name (by rfl))))))
set_option maxHeartbeats 0 in
theorem f__law_first (T : Txt K mg) {f : Addr} {fd : FuncData} (F : Fun K "_law_first" "_law_first" s__law_first f fd) : FnG P w K mg base 1 f fd ["many", "crashes"] d__law_first :=
  fn_D (k := 0) F sc__law_first fun cdv A outer s H E C => (dss_one (ds_ret (de_tup (da_cons (de_tup (da_cons de_str (da_cons de_str (da_cons (de_op op_mulB s2_mulB (de_tup (da_cons de_str da_nil)) de_name) da_nil)))) (da_cons (de_op op_mulB s2_mulB (de_tup (da_cons (de_tup (da_cons de_str (da_cons de_str (da_cons de_str da_nil)))) da_nil)) de_name) (da_cons (de_tup da_nil) (da_cons de_name da_nil)))))))
set_option maxHeartbeats 0 in
theorem f__law_is_split (T : Txt K mg) {f : Addr} {fd : FuncData} (F : Fun K "_law_is_split" "_law_is_split" s__law_is_split f fd) : FnG P w K mg base 1 f fd ["state"] d__law_is_split :=
  fn_D (k := 0) F sc__law_is_split fun cdv A outer s H E C => (dss_cons (ds_setLcD C (own := [("member", 2)]) (di_seq (de_ix de_name de_int)) (blkOk_by (by kernel_rfl)) (by decide) (fun _ _ _ _ _ => (dg_name C.blk.nd)) (fun _ _ _ _ _ => dts_nil) (fun _ _ _ _ _ => (de_ix de_name de_int)))
    (dss_one (ds_ret (de_and (de_cmp (op_inC C.rm) s2_inC de_str de_name (by rfl)) (de_one (de_cmp (op_inC C.rm) s2_inC de_str de_name (by rfl)))))))
set_option maxHeartbeats 0 in
theorem f__law_decided (T : Txt K mg) {f : Addr} {fd : FuncData} (F : Fun K "_law_decided" "_law_decided" s__law_decided f fd) : FnG P w K mg base 1 f fd ["options", "state", "word"] d__law_decided :=
  fn_D (k := 0) F sc__law_decided fun cdv A outer s H E C => (dss_cons (ds_set C.nd (de_if (dt_truth (de_ix de_name de_int)) de_name (de_ix (de_ix de_name de_int) de_int)))
    (dss_one (ds_ret (de_tup (da_cons (de_tup (da_cons de_name (da_cons de_name (da_cons (de_ix (de_ix de_name de_int) de_int) da_nil)))) (da_cons (de_ix de_name de_int) (da_cons (de_callTy call_tuple_of s1_tuple (by rfl) T.z_tuple DL.b_tuple (da_cons (de_new (dn_ssetD C (by rfl) T.z_sorted (by rfl) T.z_set DL.b_sorted DL.b_set (de_op op_addL s2_addL (de_ix de_name de_int) (de_tup (da_cons de_name da_nil))))) da_nil)) (da_cons (de_ix de_name de_int) da_nil))))))))
set_option maxHeartbeats 0 in
theorem f__law_put (T : Txt K mg) {f : Addr} {fd : FuncData} (F : Fun K "_law_put" "_law_put" s__law_put f fd) : FnG P w K mg base 1 f fd ["row", "at", "thing"] d__law_put :=
  fn_D (k := 0) F sc__law_put fun cdv A outer s H E C => (dss_one (ds_ret (de_op op_addL s2_addL (de_op op_addL s2_addL (de_sl de_name do_none (do_some de_name)) (de_tup (da_cons de_name da_nil))) (de_sl de_name (do_some (de_op op_addL s2_addL de_name de_int)) do_none))))
set_option maxHeartbeats 0 in
theorem f__law_leader_steps (T : Txt K mg) {f : Addr} {fd : FuncData} (F : Fun K "_law_leader_steps" "_law_leader_steps" s__law_leader_steps f fd) (G__law_decided : Ce P w K mg base "_law_decided" 1 ["options", "state", "word"] d__law_decided) (G__law_put : Ce P w K mg base "_law_put" 1 ["row", "at", "thing"] d__law_put) : FnG P w K mg base 2 f fd ["options", "state"] d__law_leader_steps :=
  fn_D (k := 1) F sc__law_leader_steps fun cdv A outer s H E C => (dss_cons (ds_asg de_name (dg_tup C.calm (dgs_cons (dg_tup C.calm (dgs_cons (dg_name C.nd) (dgs_cons (dg_name C.nd) (dgs_cons (dg_name C.nd) dgs_nil)))) (dgs_cons (dg_name C.nd) (dgs_cons (dg_name C.nd) (dgs_cons (dg_name C.nd) dgs_nil))))))
    (dss_cons (ds_setNew C.nd (dn_lst da_nil))
    (dss_cons (ds_if (dt_cmp (op_eqA C.rm) s2_eqA de_name de_str (by rfl)) (dss_cons (ds_expr (de_mut PySem.F.slot_list_append PySem.F.type_list_append mt_append sm_append (da_cons (de_tup (da_cons (de_tup (da_cons de_str da_nil)) (da_cons (de_ce G__law_decided C (by decide) (by rfl) (da_cons de_name (da_cons de_name (da_cons de_str da_nil)))) da_nil))) da_nil)))
    (dss_cons (ds_if (dt_cmp (op_eqA C.rm) s2_eqA (de_new (dn_lc C (own := [("vote", 13)]) (di_seq de_name) (blkOk_by (by kernel_rfl)) (by decide) (fun _ _ _ _ _ => (dg_name C.blk.nd)) (fun _ _ _ _ _ => (dts_one (dt_cmp (op_neA C.blk.rm) s2_neA de_name de_str (by rfl)))) (fun _ _ _ _ _ => de_name))) (de_new (dn_lst da_nil)) (by rfl)) (dss_one (ds_expr (de_mut PySem.F.slot_list_append PySem.F.type_list_append mt_append sm_append (da_cons (de_tup (da_cons (de_tup (da_cons de_str da_nil)) (da_cons (de_ce G__law_decided C (by decide) (by rfl) (da_cons de_name (da_cons de_name (da_cons de_str da_nil)))) da_nil))) da_nil)))) dss_nil)
    (dss_one (ds_for C (di_enum (by rfl) T.z_enumerate (da_cons de_name da_nil)) (dg_tup C.calm (dgs_cons (dg_name C.nd) (dgs_cons (dg_name C.nd) dgs_nil))) (dss_one (ds_if (DW.dt (dw_and (dt_cmp (op_neA C.rm) s2_neA (de_ix de_name de_int) de_str (by rfl)) (dw_and1 (dt_cmp (op_neA C.rm) s2_neA (de_ix de_name de_int) (de_ix de_name de_name) (by rfl))))) (dss_cons (ds_set C.nd (de_tup (da_cons de_name (da_cons de_name (da_cons (de_ce G__law_put C (by decide) (by rfl) (da_cons de_name (da_cons de_name (da_cons (de_ix de_name de_int) da_nil)))) da_nil)))))
    (dss_one (ds_expr (de_mut PySem.F.slot_list_append PySem.F.type_list_append mt_append sm_append (da_cons (de_tup (da_cons (de_tup (da_cons de_str (da_cons de_name da_nil))) (da_cons (de_tup (da_cons de_name (da_cons de_name (da_cons de_name (da_cons de_name da_nil))))) da_nil))) da_nil))))) dss_nil)))))) dss_nil)
    (dss_cons (ds_if (DW.dt (dw_and (dt_cmp (op_neA C.rm) s2_neA de_name de_str (by rfl)) (dw_and1 (dt_cmp (op_neA C.rm) s2_neA de_name de_name (by rfl))))) (dss_one (ds_expr (de_mut PySem.F.slot_list_append PySem.F.type_list_append mt_append sm_append (da_cons (de_tup (da_cons (de_tup (da_cons de_str da_nil)) (da_cons (de_tup (da_cons (de_tup (da_cons de_name (da_cons de_name (da_cons de_name da_nil)))) (da_cons de_name (da_cons de_name (da_cons de_name da_nil))))) da_nil))) da_nil)))) dss_nil)
    (dss_cons (ds_if (dt_cmp op_gtA s2_gt de_name de_int (by rfl)) (dss_cons (ds_set C.nd (de_tup (da_cons (de_tup (da_cons de_name (da_cons de_name (da_cons (de_op op_mulB s2_mulB (de_tup (da_cons de_str da_nil)) (de_callB call_len s1_len (by rfl) T.z_len DL.b_len (da_cons de_name da_nil))) da_nil)))) (da_cons de_name (da_cons de_name (da_cons (de_op op_sub s2_sub de_name de_int) da_nil))))))
    (dss_cons (ds_set C.nd (de_if (DW.dt (dw_and (dt_cmp (op_eqA C.rm) s2_eqA de_name de_str (by rfl)) (dw_and1 (dt_truth (de_ix de_name de_int))))) (de_ce G__law_decided C (by decide) (by rfl) (da_cons de_name (da_cons de_name (da_cons de_str da_nil)))) de_name))
    (dss_one (ds_expr (de_mut PySem.F.slot_list_append PySem.F.type_list_append mt_append sm_append (da_cons (de_tup (da_cons (de_tup (da_cons de_str da_nil)) (da_cons de_name da_nil))) da_nil)))))) dss_nil)
    (dss_one ds_retOwn))))))
set_option maxHeartbeats 0 in
theorem f__law_member_steps (T : Txt K mg) {f : Addr} {fd : FuncData} (F : Fun K "_law_member_steps" "_law_member_steps" s__law_member_steps f fd) (G__law_put : Ce P w K mg base "_law_put" 1 ["row", "at", "thing"] d__law_put) : FnG P w K mg base 2 f fd ["options", "state", "at"] d__law_member_steps :=
  fn_D (k := 1) F sc__law_member_steps fun cdv A outer s H E C => (dss_cons (ds_asg (de_ix (de_ix de_name de_int) de_name) (dg_tup C.calm (dgs_cons (dg_name C.nd) (dgs_cons (dg_name C.nd) (dgs_cons (dg_name C.nd) dgs_nil)))))
    (dss_cons (ds_setNew C.nd (dn_lst da_nil))
    (dss_cons (ds_if (dt_cmp (op_eqA C.rm) s2_eqA de_name de_str (by rfl)) (dss_cons (ds_expr (de_mut PySem.F.slot_list_append PySem.F.type_list_append mt_append sm_append (da_cons (de_tup (da_cons (de_tup (da_cons de_str (da_cons de_name da_nil))) (da_cons (de_tup (da_cons de_str (da_cons (de_if (dt_truth (de_ix de_name de_int)) de_str de_name) (da_cons de_str da_nil)))) (da_cons de_int da_nil)))) da_nil)))
    (dss_one (ds_expr (de_mut PySem.F.slot_list_append PySem.F.type_list_append mt_append sm_append (da_cons (de_tup (da_cons (de_tup (da_cons de_str (da_cons de_name da_nil))) (da_cons (de_tup (da_cons de_str (da_cons de_str (da_cons de_str da_nil)))) (da_cons de_int da_nil)))) da_nil))))) dss_nil)
    (dss_cons (ds_if (dt_cmp (op_eqA C.rm) s2_eqA de_name de_str (by rfl)) (dss_cons (ds_for C (di_seq (de_ix de_name de_int)) (dg_name C.nd) (dss_cons (ds_set C.nd (de_if (dt_cmp (op_eqA C.rm) s2_eqA de_name de_str (by rfl)) de_str de_str))
    (dss_one (ds_expr (de_mut PySem.F.slot_list_append PySem.F.type_list_append mt_append sm_append (da_cons (de_tup (da_cons (de_tup (da_cons de_str (da_cons de_name (da_cons de_name da_nil)))) (da_cons (de_tup (da_cons de_name (da_cons de_name (da_cons de_name da_nil)))) (da_cons de_int da_nil)))) da_nil))))))
    (dss_cons (ds_if (dt_cmp (op_neA C.rm) s2_neA de_name de_str (by rfl)) (dss_one (ds_expr (de_mut PySem.F.slot_list_append PySem.F.type_list_append mt_append sm_append (da_cons (de_tup (da_cons (de_tup (da_cons de_str (da_cons de_name da_nil))) (da_cons (de_tup (da_cons de_str (da_cons de_str (da_cons de_name da_nil)))) (da_cons de_int da_nil)))) da_nil)))) dss_nil)
    (dss_one (ds_if (dt_cmp op_gtA s2_gt (de_ix de_name de_int) de_int (by rfl)) (dss_one (ds_expr (de_mut PySem.F.slot_list_append PySem.F.type_list_append mt_append sm_append (da_cons (de_tup (da_cons (de_tup (da_cons de_str (da_cons de_name da_nil))) (da_cons (de_tup (da_cons de_name (da_cons de_name (da_cons de_name da_nil)))) (da_cons de_int da_nil)))) da_nil)))) dss_nil)))) dss_nil)
    (dss_cons (ds_setNew C.nd (dn_lst da_nil))
    (dss_cons (ds_for C (di_seq de_name) (dg_tup C.calm (dgs_cons (dg_name C.nd) (dgs_cons (dg_name C.nd) (dgs_cons (dg_name C.nd) dgs_nil)))) (dss_one (ds_expr (de_mut PySem.F.slot_list_append PySem.F.type_list_append mt_append sm_append (da_cons (de_tup (da_cons de_name (da_cons (de_tup (da_cons (de_ix de_name de_int) (da_cons (de_ce G__law_put C (by decide) (by rfl) (da_cons (de_ix de_name de_int) (da_cons de_name (da_cons de_name da_nil)))) (da_cons (de_ix de_name de_int) (da_cons (de_op op_sub s2_sub (de_ix de_name de_int) de_name) da_nil))))) da_nil))) da_nil)))))
    (dss_one (ds_ret de_name))))))))
set_option maxHeartbeats 0 in
theorem f__law_group_steps (T : Txt K mg) {f : Addr} {fd : FuncData} (F : Fun K "_law_group_steps" "_law_group_steps" s__law_group_steps f fd) (G__law_is_split : Ce P w K mg base "_law_is_split" 1 ["state"] d__law_is_split) (G__law_leader_steps : Ce P w K mg base "_law_leader_steps" 2 ["options", "state"] d__law_leader_steps) (G__law_member_steps : Ce P w K mg base "_law_member_steps" 2 ["options", "state", "at"] d__law_member_steps) : FnG P w K mg base 3 f fd ["options", "state"] d__law_group_steps :=
  fn_D (k := 2) F sc__law_group_steps fun cdv A outer s H E C => (dss_cons (ds_if (dt_truth (de_ce G__law_is_split C (by decide) (by rfl) (da_cons de_name da_nil))) (dss_one (ds_ret (de_new (dn_lst da_nil)))) dss_nil)
    (dss_cons (ds_setNew C.nd (dn_ce G__law_leader_steps C (by decide) (by rfl) (da_cons de_name (da_cons de_name da_nil))))
    (dss_cons (ds_for C (di_range1 (by rfl) T.z_range (da_cons (de_callB call_len s1_len (by rfl) T.z_len DL.b_len (da_cons (de_ix de_name de_int) da_nil)) da_nil)) (dg_name C.nd) (dss_one (ds_expr (de_mutF PySem.F.slot_list_extend PySem.F.type_list_extend mt_extA sm_extend (da_cons (de_ce G__law_member_steps C (by decide) (by rfl) (da_cons de_name (da_cons de_name (da_cons de_name da_nil)))) da_nil)))))
    (dss_one (ds_ret (de_new (dn_sorted C (by rfl) T.z_sorted DL.b_sorted de_name)))))))
set_option maxHeartbeats 0 in
theorem f_is_split (T : Txt K mg) {f : Addr} {fd : FuncData} (F : Fun K "is_split" "is_split" s_is_split f fd) : FnG P w K mg base 1 f fd ["state"] d_is_split :=
  fn_D (k := 0) F sc_is_split fun cdv A outer s H E C => (dss_cons (ds_setLcD C (own := [("word", 2), ("sure", 3), ("vote", 4)]) (di_seq (de_ix de_name de_int)) (blkOk_by (by kernel_rfl)) (by decide) (fun _ _ _ _ _ => (dg_tup C.blk.calm (dgs_cons (dg_name C.blk.nd) (dgs_cons (dg_name C.blk.nd) (dgs_cons (dg_name C.blk.nd) dgs_nil))))) (fun _ _ _ _ _ => dts_nil) (fun _ _ _ _ _ => de_name))
    (dss_one (ds_ret (de_and (de_cmp (op_inC C.rm) s2_inC T.e_DONE de_name (by rfl)) (de_one (de_cmp (op_inC C.rm) s2_inC T.e_LOST de_name (by rfl)))))))
set_option maxHeartbeats 0 in
theorem f_decided (T : Txt K mg) {f : Addr} {fd : FuncData} (F : Fun K "decided" "decided" s_decided f fd) : FnG P w K mg base 1 f fd ["options", "state", "word"] d_decided :=
  fn_D (k := 0) F sc_decided fun cdv A outer s H E C => (dss_cons (ds_asg de_name (dg_tup C.calm (dgs_cons (dg_tup C.calm (dgs_cons (dg_name C.nd) (dgs_cons (dg_name C.nd) (dgs_cons (dg_name C.nd) dgs_nil)))) (dgs_cons (dg_name C.nd) (dgs_cons (dg_name C.nd) (dgs_cons (dg_name C.nd) dgs_nil))))))
    (dss_cons (ds_set C.nd (de_if (dt_cmp (op_inC C.rm) s2_inC de_name de_name (by rfl)) de_name (de_callTy call_tuple_of s1_tuple (by rfl) T.z_tuple DL.b_tuple (da_cons (de_new (dn_sorted C (by rfl) T.z_sorted DL.b_sorted (de_new (dn_lst (da_star de_name (da_cons de_name da_nil)))))) da_nil))))
    (dss_one (ds_ret (de_tup (da_cons (de_tup (da_cons de_name (da_cons (de_if (dt_truth (de_ix de_name de_int)) de_name de_name) (da_cons de_name da_nil)))) (da_cons de_name (da_cons de_name (da_cons de_name da_nil)))))))))
set_option maxHeartbeats 0 in
theorem f_put_at (T : Txt K mg) {f : Addr} {fd : FuncData} (F : Fun K "put_at" "put_at" s_put_at f fd) : FnG P w K mg base 1 f fd ["row", "at", "thing"] d_put_at :=
  fn_D (k := 0) F sc_put_at fun cdv A outer s H E C => (dss_one (ds_ret (de_tup (da_star (de_sl de_name do_none (do_some de_name)) (da_cons de_name (da_star (de_sl de_name (do_some (de_op op_addL s2_addL de_name de_int)) do_none) da_nil))))))
set_option maxHeartbeats 0 in
theorem f_leader_steps (T : Txt K mg) {f : Addr} {fd : FuncData} (F : Fun K "leader_steps" "leader_steps" s_leader_steps f fd) (G_decided : Ce P w K mg base "decided" 1 ["options", "state", "word"] d_decided) (G_put_at : Ce P w K mg base "put_at" 1 ["row", "at", "thing"] d_put_at) : FnG P w K mg base 2 f fd ["options", "state"] d_leader_steps :=
  fn_D (k := 1) F sc_leader_steps fun cdv A outer s H E C => (dss_cons (ds_asg de_name (dg_tup C.calm (dgs_cons (dg_tup C.calm (dgs_cons (dg_name C.nd) (dgs_cons (dg_name C.nd) (dgs_cons (dg_name C.nd) dgs_nil)))) (dgs_cons (dg_name C.nd) (dgs_cons (dg_name C.nd) (dgs_cons (dg_name C.nd) dgs_nil))))))
    (dss_cons (ds_setNew C.nd (dn_lst da_nil))
    (dss_cons (ds_if (dt_cmp (op_eqA C.rm) s2_eqA de_name de_str (by rfl)) (dss_cons (ds_expr (de_mut PySem.F.slot_list_append PySem.F.type_list_append mt_append sm_append (da_cons (de_tup (da_cons (de_tup (da_cons T.e_NO da_nil)) (da_cons (de_ce G_decided C (by decide) (by rfl) (da_cons de_name (da_cons de_name (da_cons T.e_NO da_nil)))) da_nil))) da_nil)))
    (dss_cons (ds_if (dt_truth (de_callB (cr_all C.calm) s1_all (by rfl) T.z_all DL.b_all (da_cons (de_new (dn_lc C (own := [("vote", 12)]) (di_seq de_name) (blkOk_by (by kernel_rfl)) (by decide) (fun _ _ _ _ _ => (dg_name C.blk.nd)) (fun _ _ _ _ _ => dts_nil) (fun _ _ _ _ _ => (de_cmp (op_eqA C.blk.rm) s2_eqA de_name T.e_YES (by rfl))))) da_nil))) (dss_one (ds_expr (de_mut PySem.F.slot_list_append PySem.F.type_list_append mt_append sm_append (da_cons (de_tup (da_cons (de_tup (da_cons T.e_YES da_nil)) (da_cons (de_ce G_decided C (by decide) (by rfl) (da_cons de_name (da_cons de_name (da_cons T.e_YES da_nil)))) da_nil))) da_nil)))) dss_nil)
    (dss_one (ds_for C (di_enum (by rfl) T.z_enumerate (da_cons de_name da_nil)) (dg_tup C.calm (dgs_cons (dg_name C.nd) (dgs_cons (dg_name C.nd) dgs_nil))) (dss_one (ds_if (dt_cmp (op_notInC C.rm) s2_notInC (de_ix de_name de_int) (de_tup (da_cons de_str (da_cons (de_ix de_name de_name) da_nil))) (by rfl)) (dss_one (ds_expr (de_mut PySem.F.slot_list_append PySem.F.type_list_append mt_append sm_append (da_cons (de_tup (da_cons (de_tup (da_cons de_str (da_cons de_name da_nil))) (da_cons (de_tup (da_cons (de_tup (da_cons de_name (da_cons de_name (da_cons (de_ce G_put_at C (by decide) (by rfl) (da_cons de_name (da_cons de_name (da_cons (de_ix de_name de_int) da_nil)))) da_nil)))) (da_cons de_name (da_cons de_name (da_cons de_name da_nil))))) da_nil))) da_nil)))) dss_nil)))))) (dss_one (ds_if (dt_cmp (op_neA C.rm) s2_neA de_name de_name (by rfl)) (dss_one (ds_expr (de_mut PySem.F.slot_list_append PySem.F.type_list_append mt_append sm_append (da_cons (de_tup (da_cons (de_tup (da_cons de_str da_nil)) (da_cons (de_tup (da_cons (de_tup (da_cons de_name (da_cons de_name (da_cons de_name da_nil)))) (da_cons de_name (da_cons de_name (da_cons de_name da_nil))))) da_nil))) da_nil)))) dss_nil)))
    (dss_cons (ds_if (dt_cmp op_gtA s2_gt de_name de_int (by rfl)) (dss_cons (ds_set C.nd (de_tup (da_cons (de_tup (da_cons de_name (da_cons de_name (da_cons (de_op op_mulB s2_mulB (de_tup (da_cons de_str da_nil)) (de_callB call_len s1_len (by rfl) T.z_len DL.b_len (da_cons de_name da_nil))) da_nil)))) (da_cons de_name (da_cons de_name (da_cons (de_op op_sub s2_sub de_name de_int) da_nil))))))
    (dss_one (ds_expr (de_mut PySem.F.slot_list_append PySem.F.type_list_append mt_append sm_append (da_cons (de_tup (da_cons (de_tup (da_cons de_str da_nil)) (da_cons (de_if (DW.dt (dw_and (dt_cmp (op_eqA C.rm) s2_eqA de_name de_str (by rfl)) (dw_and1 (dt_truth (de_ix de_name de_int))))) (de_ce G_decided C (by decide) (by rfl) (da_cons de_name (da_cons de_name (da_cons T.e_NO da_nil)))) de_name) da_nil))) da_nil))))) dss_nil)
    (dss_one ds_retOwn)))))
set_option maxHeartbeats 0 in
theorem f_with_member (T : Txt K mg) {f : Addr} {fd : FuncData} (F : Fun K "with_member" "with_member" s_with_member f fd) (G_put_at : Ce P w K mg base "put_at" 1 ["row", "at", "thing"] d_put_at) : FnG P w K mg base 2 f fd ["state", "at", "member"] d_with_member :=
  fn_D (k := 1) F sc_with_member fun cdv A outer s H E C => (dss_one (ds_ret (de_tup (da_cons (de_ix de_name de_int) (da_cons (de_ce G_put_at C (by decide) (by rfl) (da_cons (de_ix de_name de_int) (da_cons de_name (da_cons de_name da_nil)))) (da_cons (de_ix de_name de_int) (da_cons (de_ix de_name de_int) da_nil)))))))
set_option maxHeartbeats 0 in
theorem f_member_steps (T : Txt K mg) {f : Addr} {fd : FuncData} (F : Fun K "member_steps" "member_steps" s_member_steps f fd) (G_with_member : Ce P w K mg base "with_member" 2 ["state", "at", "member"] d_with_member) : FnG P w K mg base 3 f fd ["options", "state", "at"] d_member_steps :=
  fn_D (k := 2) F sc_member_steps fun cdv A outer s H E C => (dss_cons (ds_asg (de_ix (de_ix de_name de_int) de_name) (dg_tup C.calm (dgs_cons (dg_name C.nd) (dgs_cons (dg_name C.nd) (dgs_cons (dg_name C.nd) dgs_nil)))))
    (dss_cons (ds_setNew C.nd (dn_lst da_nil))
    (dss_cons (ds_if (dt_cmp (op_eqA C.rm) s2_eqA de_name de_str (by rfl)) (dss_cons (ds_expr (de_mut PySem.F.slot_list_append PySem.F.type_list_append mt_append sm_append (da_cons (de_tup (da_cons (de_tup (da_cons de_str (da_cons de_name da_nil))) (da_cons (de_ce G_with_member C (by decide) (by rfl) (da_cons de_name (da_cons de_name (da_cons (de_tup (da_cons T.e_READY (da_cons (de_if (dt_truth (de_ix de_name de_int)) T.e_READY de_name) (da_cons T.e_YES da_nil)))) da_nil)))) da_nil))) da_nil)))
    (dss_one (ds_expr (de_mut PySem.F.slot_list_append PySem.F.type_list_append mt_append sm_append (da_cons (de_tup (da_cons (de_tup (da_cons de_str (da_cons de_name da_nil))) (da_cons (de_ce G_with_member C (by decide) (by rfl) (da_cons de_name (da_cons de_name (da_cons (de_tup (da_cons T.e_LOST (da_cons T.e_LOST (da_cons T.e_NO da_nil)))) da_nil)))) da_nil))) da_nil))))) dss_nil)
    (dss_cons (ds_if (dt_cmp (op_eqA C.rm) s2_eqA de_name T.e_READY (by rfl)) (dss_cons (ds_for C (di_seq (de_ix de_name de_int)) (dg_name C.nd) (dss_cons (ds_set C.nd (de_if (dt_cmp (op_eqA C.rm) s2_eqA de_name T.e_YES (by rfl)) T.e_DONE T.e_LOST))
    (dss_one (ds_expr (de_mut PySem.F.slot_list_append PySem.F.type_list_append mt_append sm_append (da_cons (de_tup (da_cons (de_tup (da_cons de_str (da_cons de_name (da_cons de_name da_nil)))) (da_cons (de_ce G_with_member C (by decide) (by rfl) (da_cons de_name (da_cons de_name (da_cons (de_tup (da_cons de_name (da_cons de_name (da_cons de_name da_nil)))) da_nil)))) da_nil))) da_nil))))))
    (dss_cons (ds_if (dt_cmp (op_neA C.rm) s2_neA de_name T.e_READY (by rfl)) (dss_one (ds_expr (de_mut PySem.F.slot_list_append PySem.F.type_list_append mt_append sm_append (da_cons (de_tup (da_cons (de_tup (da_cons de_str (da_cons de_name da_nil))) (da_cons (de_ce G_with_member C (by decide) (by rfl) (da_cons de_name (da_cons de_name (da_cons (de_tup (da_cons T.e_READY (da_cons T.e_READY (da_cons de_name da_nil)))) da_nil)))) da_nil))) da_nil)))) dss_nil)
    (dss_one (ds_if (dt_cmp op_gtA s2_gt (de_ix de_name de_int) de_int (by rfl)) (dss_cons (ds_set C.nd (de_ce G_with_member C (by decide) (by rfl) (da_cons de_name (da_cons de_name (da_cons (de_tup (da_cons de_name (da_cons de_name (da_cons de_name da_nil)))) da_nil)))))
    (dss_one (ds_expr (de_mut PySem.F.slot_list_append PySem.F.type_list_append mt_append sm_append (da_cons (de_tup (da_cons (de_tup (da_cons de_str (da_cons de_name da_nil))) (da_cons (de_tup (da_cons (de_ix de_name de_int) (da_cons (de_ix de_name de_int) (da_cons (de_ix de_name de_int) (da_cons (de_op op_sub s2_sub (de_ix de_name de_int) de_int) da_nil))))) da_nil))) da_nil))))) dss_nil)))) dss_nil)
    (dss_one (ds_ret de_name))))))
set_option maxHeartbeats 0 in
theorem f_all_steps (T : Txt K mg) {f : Addr} {fd : FuncData} (F : Fun K "all_steps" "all_steps" s_all_steps f fd) (G_is_split : Ce P w K mg base "is_split" 1 ["state"] d_is_split) (G_leader_steps : Ce P w K mg base "leader_steps" 2 ["options", "state"] d_leader_steps) (G_member_steps : Ce P w K mg base "member_steps" 3 ["options", "state", "at"] d_member_steps) : FnG P w K mg base 4 f fd ["options", "state"] d_all_steps :=
  fn_D (k := 3) F sc_all_steps fun cdv A outer s H E C => (dss_cons (ds_if (dt_truth (de_ce G_is_split C (by decide) (by rfl) (da_cons de_name da_nil))) (dss_one (ds_ret (de_new (dn_lst da_nil)))) dss_nil)
    (dss_cons (ds_setNew C.nd (dn_ce G_leader_steps C (by decide) (by rfl) (da_cons de_name (da_cons de_name da_nil))))
    (dss_cons (ds_for C (di_range1 (by rfl) T.z_range (da_cons (de_callB call_len s1_len (by rfl) T.z_len DL.b_len (da_cons (de_ix de_name de_int) da_nil)) da_nil)) (dg_name C.nd) (dss_one (ds_expr (de_mutF PySem.F.slot_list_extend PySem.F.type_list_extend mt_extA sm_extend (da_cons (de_ce G_member_steps C (by decide) (by rfl) (da_cons de_name (da_cons de_name (da_cons de_name da_nil)))) da_nil)))))
    (dss_one (ds_ret de_name)))))
set_option maxHeartbeats 0 in
theorem f_group_steps (T : Txt K mg) {f : Addr} {fd : FuncData} (F : Fun K "group_steps" "group_steps" s_group_steps f fd) (G_all_steps : Ce P w K mg base "all_steps" 4 ["options", "state"] d_all_steps) : FnG P w K mg base 5 f fd ["options", "state"] d_group_steps :=
  fn_D (k := 4) F sc_group_steps fun cdv A outer s H E C => (dss_one (ds_ret (de_callTy call_tuple_of s1_tuple (by rfl) T.z_tuple DL.b_tuple (da_cons (de_new (dn_sorted C (by rfl) T.z_sorted DL.b_sorted (de_new (dn_lc C (own := [("step", 2), ("there", 3)]) (di_seq (de_ce G_all_steps C (by decide) (by rfl) (da_cons de_name (da_cons de_name da_nil)))) (blkOk_by (by kernel_rfl)) (by decide) (fun _ _ _ _ _ => (dg_tup C.blk.calm (dgs_cons (dg_name C.blk.nd) (dgs_cons (dg_name C.blk.nd) dgs_nil)))) (fun _ _ _ _ _ => dts_nil) (fun _ _ _ _ _ => de_name))))) da_nil))))
set_option maxHeartbeats 0 in
theorem f_are_all_ended (T : Txt K mg) {f : Addr} {fd : FuncData} (F : Fun K "are_all_ended" "are_all_ended" s_are_all_ended f fd) : FnG P w K mg base 1 f fd ["state"] d_are_all_ended :=
  fn_D (k := 0) F sc_are_all_ended fun cdv A outer s H E C => (dss_one (ds_ret (de_callB (cr_all C.calm) s1_all (by rfl) T.z_all DL.b_all (da_cons (de_new (dn_lc C (own := [("word", 1), ("sure", 2), ("vote", 3)]) (di_seq (de_ix de_name de_int)) (blkOk_by (by kernel_rfl)) (by decide) (fun _ _ _ _ _ => (dg_tup C.blk.calm (dgs_cons (dg_name C.blk.nd) (dgs_cons (dg_name C.blk.nd) (dgs_cons (dg_name C.blk.nd) dgs_nil))))) (fun _ _ _ _ _ => dts_nil) (fun _ _ _ _ _ => (de_cmp (op_inC C.blk.rm) s2_inC de_name (de_tup (da_cons T.e_DONE (da_cons T.e_LOST da_nil))) (by rfl))))) da_nil))))
set_option maxHeartbeats 0 in
theorem f__law_mixed (T : Txt K mg) {f : Addr} {fd : FuncData} (F : Fun K "_law_mixed" "_law_mixed" s__law_mixed f fd) (G__law_take : Ce P w K mg base "_law_take" 1 ["bag", "many"] d__law_take) : FnG P w K mg base 2 f fd ["bag", "things"] d__law_mixed :=
  fn_D (k := 1) F sc__law_mixed fun cdv A outer s H E C => (dss_cons (ds_par2 C (dm_new (dn_callTy (call_listA C.calm) s1n_list (by rfl) T.z_list DL.b_list (da_cons de_name da_nil)) (dm_new (dn_lst da_nil) dm_nil)))
    (dss_cons (ds_while C fuel (dt_cmp (op_neA C.rm) s2_neA de_name (de_new (dn_lst da_nil)) (by rfl)) (dss_one (ds_expr (de_mut PySem.F.slot_list_append PySem.F.type_list_append mt_append sm_append (da_cons (de_mut PySem.F.slot_list_pop PySem.F.type_list_pop mt_popAt sm_popAt (da_cons (de_ce G__law_take C (by decide) (by rfl) (da_cons de_name (da_cons (de_callB call_len s1_len (by rfl) T.z_len DL.b_len (da_cons de_name da_nil)) da_nil))) da_nil)) da_nil)))))
    (dss_one (ds_ret de_name))))
set_option maxHeartbeats 0 in
theorem f__law_some (T : Txt K mg) {f : Addr} {fd : FuncData} (F : Fun K "_law_some" "_law_some" s__law_some f fd) (G__law_take : Ce P w K mg base "_law_take" 1 ["bag", "many"] d__law_take) : FnG P w K mg base 2 f fd ["bag", "things"] d__law_some :=
  fn_D (k := 1) F sc__law_some fun cdv A outer s H E C => (dss_one (ds_ret (de_ix de_name (de_ce G__law_take C (by decide) (by rfl) (da_cons de_name (da_cons (de_callB call_len s1_len (by rfl) T.z_len DL.b_len (da_cons de_name da_nil)) da_nil))))))
set_option maxHeartbeats 0 in
theorem f__law_odd_steps (T : Txt K mg) {f : Addr} {fd : FuncData} (F : Fun K "_law_odd_steps" "_law_odd_steps" s__law_odd_steps f fd) (G__law_take : Ce P w K mg base "_law_take" 1 ["bag", "many"] d__law_take) (G__law_alike : Ce P w K mg base "_law_alike" 1 ["found", "due"] d__law_alike) : FnG P w K mg base 2 f fd ["bag", "many", "steps"] d__law_odd_steps :=
  fn_D (k := 1) F sc__law_odd_steps fun cdv A outer s H E C => (dss_cons (ds_set C.nd (de_ce G__law_take C (by decide) (by rfl) (da_cons de_name (da_cons de_name da_nil))))
    (dss_cons (ds_set C.nd (de_new (dn_lst (da_cons (de_tup (da_cons de_str (da_cons de_name da_nil))) (da_cons (de_tup (da_cons de_str (da_cons de_name da_nil))) (da_cons (de_tup (da_cons de_str (da_cons de_name da_nil))) (da_cons (de_tup (da_cons de_str (da_cons de_name da_nil))) (da_cons (de_tup (da_cons de_str (da_cons de_name da_nil))) (da_cons (de_tup (da_cons de_str (da_cons de_name (da_cons de_str da_nil)))) da_nil)))))))))
    (dss_cons (ds_set C.nd (de_op op_addL s2_addL de_name (de_new (dn_lst (da_cons (de_tup (da_cons de_str (da_cons de_name (da_cons de_str da_nil)))) (da_cons (de_tup (da_cons de_str da_nil)) (da_cons (de_tup (da_cons de_str da_nil)) (da_cons (de_tup (da_cons de_str da_nil)) (da_cons (de_tup (da_cons de_str da_nil)) (da_cons (de_tup (da_cons de_str (da_cons de_name da_nil))) (da_cons (de_tup (da_cons de_str (da_cons (de_neg de_int) da_nil))) da_nil)))))))))))
    (dss_cons (ds_set C.nd (de_op op_addL s2_addL de_name (de_new (dn_lst (da_cons (de_tup (da_cons de_str (da_cons de_bool da_nil))) (da_cons (de_tup (da_cons de_str (da_cons de_bool da_nil))) (da_cons (de_new (dn_lst (da_cons de_str da_nil))) (da_cons de_str (da_cons (de_tup (da_cons de_str (da_cons de_int da_nil))) (da_cons (de_tup (da_cons de_str (da_cons de_name da_nil))) (da_cons (de_tup (da_cons de_str (da_cons de_none da_nil))) da_nil)))))))))))
    (dss_cons (ds_set C.nd (de_op op_addL s2_addL de_name (de_new (dn_lst (da_cons de_int (da_cons de_none (da_cons (de_tup da_nil) da_nil)))))))
    (dss_one (ds_ret (de_new (dn_lc C (own := [("one", 5)]) (di_seq de_name) (blkOk_by (by kernel_rfl)) (by decide) (fun _ _ _ _ _ => (dg_name C.blk.nd)) (fun _ _ _ _ _ => (dts_one (dt_cmp (op_eqA C.blk.rm) s2_eqA (de_new (dn_lc C.blk (own := [("step", 6)]) (di_seq de_name) (blkOk_by (by kernel_rfl)) (by decide) (fun _ _ _ _ _ => (dg_name C.blk.blk.nd)) (fun _ _ _ _ _ => (dts_one (dt_truth (de_ce G__law_alike C.blk.blk (by decide) (by rfl) (da_cons de_name (da_cons de_name da_nil)))))) (fun _ _ _ _ _ => de_int))) (de_new (dn_lst da_nil)) (by rfl)))) (fun _ _ _ _ _ => de_name))))))))))
set_option maxHeartbeats 0 in
theorem f_is_step (T : Txt K mg) {f : Addr} {fd : FuncData} (F : Fun K "is_step" "is_step" s_is_step f fd) : FnG P w K mg base 1 f fd ["one", "thing"] d_is_step :=
  fn_D (k := 0) F sc_is_step fun cdv A outer s H E C => (dss_cons (ds_if (DW.dt (dw_or (dt_not (dt_truth (de_isi de_name (by rfl) T.z_isinstance (by rfl) T.z_tuple DL.b_tuple kit_tuple))) (dw_or1 (dt_cmp (op_neA C.rm) s2_neA de_name de_name (by rfl))))) (dss_one (ds_ret de_bool)) dss_nil)
    (dss_one (ds_ret (de_callB (cr_all C.calm) s1_all (by rfl) T.z_all DL.b_all (da_cons (de_new (dn_lc C (own := [("part", 2)]) (di_seq de_name) (blkOk_by (by kernel_rfl)) (by decide) (fun _ _ _ _ _ => (dg_name C.blk.nd)) (fun _ _ _ _ _ => dts_nil) (fun _ _ _ _ _ => (de_not (de_isi de_name (by rfl) T.z_isinstance (by rfl) T.z_bool DL.b_bool kit_bool))))) da_nil)))))
set_option maxHeartbeats 0 in
theorem f_group_behind (T : Txt K mg) {f : Addr} {fd : FuncData} (F : Fun K "group_behind" "group_behind" s_group_behind f fd) (G_all_steps : Ce P w K mg base "all_steps" 4 ["options", "state"] d_all_steps) (G_is_step : Ce P w K mg base "is_step" 1 ["one", "thing"] d_is_step) (E_Refused : ErrG P w K mg base "Refused" ["why"]) : FnG P w K mg base 5 f fd ["options", "state", "step"] d_group_behind :=
  fn_D (k := 4) F sc_group_behind fun cdv A outer s H E C => (dss_cons (ds_for C (di_seq (de_ce G_all_steps C (by decide) (by rfl) (da_cons de_name (da_cons de_name da_nil)))) (dg_tup C.calm (dgs_cons (dg_name C.nd) (dgs_cons (dg_name C.nd) dgs_nil))) (dss_one (ds_if (dt_truth (de_ce G_is_step C (by decide) (by rfl) (da_cons de_name (da_cons de_name da_nil)))) (dss_one (ds_ret de_name)) dss_nil)))
    (dss_one (ds_raise E_Refused C (by decide) (by rfl) (da_cons de_str da_nil))))
set_option maxHeartbeats 0 in
theorem f__law_heard (T : Txt K mg) {f : Addr} {fd : FuncData} (F : Fun K "_law_heard" "_law_heard" s__law_heard f fd) (G_group_behind : Ce P w K mg base "group_behind" 5 ["options", "state", "step"] d_group_behind) (Y_Refused : CatG K mg "Refused" [("Refused", true)]) (ET : ErrT K [("Refused", ["why"])]) : FnG P w K mg base 6 f fd ["options", "state", "step"] d__law_heard :=
  fn_D (k := 5) F sc__law_heard fun cdv A outer s H E C => (dss_one (ds_try C Y_Refused (by rfl) (fun _ _ _ Ct => (dss_one (ds_ret (de_tup (da_cons de_str (da_cons (de_ce G_group_behind Ct (by decide) (by rfl) (da_cons de_name (da_cons de_name (da_cons de_name da_nil)))) da_nil)))))) (fun _ _ _ _ _ hz hf => (sss_one (ss_ret (sx_tup (sxs_cons sx_str (sxs_cons (sx_fld ET hz hf) sxs_nil))))))))
set_option maxHeartbeats 0 in
theorem f_law (T : Txt K mg) {f : Addr} {fd : FuncData} (F : Fun K "law" "law" s_law f fd) (G__law_bag : Ce P w K mg base "_law_bag" 1 ["script"] d__law_bag) (G_first_group : Ce P w K mg base "first_group" 1 ["many", "crashes"] d_first_group) (G__law_options : Ce P w K mg base "_law_options" 2 ["bag"] d__law_options) (G__law_take : Ce P w K mg base "_law_take" 1 ["bag", "many"] d__law_take) (G__law_alike : Ce P w K mg base "_law_alike" 1 ["found", "due"] d__law_alike) (G__law_first : Ce P w K mg base "_law_first" 1 ["many", "crashes"] d__law_first) (G__law_group_steps : Ce P w K mg base "_law_group_steps" 3 ["options", "state"] d__law_group_steps) (G_group_steps : Ce P w K mg base "group_steps" 5 ["options", "state"] d_group_steps) (G_is_split : Ce P w K mg base "is_split" 1 ["state"] d_is_split) (G_are_all_ended : Ce P w K mg base "are_all_ended" 1 ["state"] d_are_all_ended) (G__law_mixed : Ce P w K mg base "_law_mixed" 2 ["bag", "things"] d__law_mixed) (G__law_some : Ce P w K mg base "_law_some" 2 ["bag", "things"] d__law_some) (G__law_odd_steps : Ce P w K mg base "_law_odd_steps" 2 ["bag", "many", "steps"] d__law_odd_steps) (G__law_heard : Ce P w K mg base "_law_heard" 6 ["options", "state", "step"] d__law_heard) (G__law_is_split : Ce P w K mg base "_law_is_split" 1 ["state"] d__law_is_split) : FnG P w K mg base 7 f fd ["script"] d_law :=
  fn_D (k := 6) F sc_law fun cdv A outer s H E C => (dss_cons (ds_setNew C.nd (dn_ce G__law_bag C (by decide) (by rfl) (da_cons de_name da_nil)))
    (dss_cons (ds_for C (di_range1 (by rfl) T.z_range (da_cons de_int da_nil)) (dg_name C.nd) (dss_cons (ds_par3 C (dm_dat (de_ce G__law_options C (by decide) (by rfl) (da_cons de_name da_nil)) (dm_dat (de_op op_addL s2_addL de_int (de_ce G__law_take C (by decide) (by rfl) (da_cons de_name (da_cons de_int da_nil)))) (dm_dat (de_ce G__law_take C (by decide) (by rfl) (da_cons de_name (da_cons de_int da_nil))) dm_nil))))
    (dss_cons (ds_set C.nd (de_ce G_first_group C (by decide) (by rfl) (da_cons de_name (da_cons de_name da_nil))))
    (dss_cons (ds_if (dt_not (dt_truth (de_ce G__law_alike C (by decide) (by rfl) (da_cons de_name (da_cons (de_ce G__law_first C (by decide) (by rfl) (da_cons de_name (da_cons de_name da_nil))) da_nil))))) (dss_one (ds_ret de_bool)) dss_nil)
    (dss_one (ds_for C (di_range1 (by rfl) T.z_range (da_cons de_int da_nil)) (dg_name C.nd) (dss_cons (ds_par2 C (dm_dat (de_ce G__law_group_steps C (by decide) (by rfl) (da_cons de_name (da_cons de_name da_nil))) (dm_dat (de_callB (call_reprA C) s1_reprA (by rfl) T.z_repr DL.b_repr (da_cons de_name da_nil)) dm_nil)))
    (dss_cons (ds_par2 C (dm_dat (de_new (dn_lc C (own := [("one", 14), ("there", 15)]) (di_seq de_name) (blkOk_by (by kernel_rfl)) (by decide) (fun _ _ _ _ _ => (dg_tup C.blk.calm (dgs_cons (dg_name C.blk.nd) (dgs_cons (dg_name C.blk.nd) dgs_nil)))) (fun _ _ _ _ _ => dts_nil) (fun _ _ _ _ _ => de_name))) (dm_dat (de_new (dn_lc C (own := [("member", 17)]) (di_seq (de_ix de_name de_int)) (blkOk_by (by kernel_rfl)) (by decide) (fun _ _ _ _ _ => (dg_name C.blk.nd)) (fun _ _ _ _ _ => dts_nil) (fun _ _ _ _ _ => (de_ix de_name de_int)))) dm_nil)))
    (dss_cons (ds_set C.nd (de_new (dn_lst (da_cons (de_ce G_group_steps C (by decide) (by rfl) (da_cons de_name (da_cons de_name da_nil))) (da_cons (de_ce G_is_split C (by decide) (by rfl) (da_cons de_name da_nil)) (da_cons (de_ce G_are_all_ended C (by decide) (by rfl) (da_cons de_name da_nil)) da_nil))))))
    (dss_cons (ds_set C.nd (de_cmp (op_eqA C.rm) s2_eqA (de_new (dn_lc C (own := [("word", 18)]) (di_seq de_name) (blkOk_by (by kernel_rfl)) (by decide) (fun _ _ _ _ _ => (dg_name C.blk.nd)) (fun _ _ _ _ _ => (dts_one (dt_cmp (op_notInC C.blk.rm) s2_notInC de_name (de_tup (da_cons de_str (da_cons de_str da_nil))) (by rfl)))) (fun _ _ _ _ _ => de_name))) (de_new (dn_lst da_nil)) (by rfl)))
    (dss_cons (ds_if (dt_not (dt_truth (de_ce G__law_alike C (by decide) (by rfl) (da_cons de_name (da_cons (de_new (dn_lst (da_cons (de_callTy call_tuple_of s1_tuple (by rfl) T.z_tuple DL.b_tuple (da_cons de_name da_nil)) (da_cons (de_ce G__law_is_split C (by decide) (by rfl) (da_cons de_name da_nil)) (da_cons de_name da_nil))))) da_nil))))) (dss_one (ds_ret de_bool)) dss_nil)
    (dss_cons (ds_for C (di_seq de_name) (dg_tup C.calm (dgs_cons (dg_name C.nd) (dgs_cons (dg_name C.nd) dgs_nil))) (dss_one (ds_for C (di_range1 (by rfl) T.z_range (da_cons de_int da_nil)) (dg_name C.nd) (dss_one (ds_if (DW.dt (dw_or (dt_not (dt_truth (de_ce G__law_alike C (by decide) (by rfl) (da_cons (de_ce G__law_heard C (by decide) (by rfl) (da_cons de_name (da_cons de_name (da_cons de_name da_nil)))) (da_cons (de_tup (da_cons de_str (da_cons de_name da_nil))) da_nil))))) (dw_or1 (dt_cmp (op_neA C.rm) s2_neA (de_callB (call_reprA C) s1_reprA (by rfl) T.z_repr DL.b_repr (da_cons de_name da_nil)) de_name (by rfl))))) (dss_one (ds_ret de_bool)) dss_nil)))))
    (dss_cons (ds_for C (di_seq (de_sl (de_ce G__law_mixed C (by decide) (by rfl) (da_cons de_name (da_cons (de_ce G__law_odd_steps C (by decide) (by rfl) (da_cons de_name (da_cons de_name (da_cons de_name da_nil)))) da_nil))) do_none (do_some de_int))) (dg_name C.nd) (dss_one (ds_if (dt_cmp (op_neA C.rm) s2_neA (de_ce G__law_heard C (by decide) (by rfl) (da_cons de_name (da_cons de_name (da_cons de_name da_nil)))) (de_tup (da_cons de_str (da_cons de_str da_nil))) (by rfl)) (dss_one (ds_ret de_bool)) dss_nil)))
    (dss_cons (ds_if (dt_cmp (op_eqA C.rm) s2_eqA de_name (de_new (dn_lst da_nil)) (by rfl)) (dss_one ds_break) dss_nil)
    (dss_one (ds_set C.nd (de_ix (de_ce G__law_some C (by decide) (by rfl) (da_cons de_name (da_cons de_name da_nil))) de_int)))))))))))))))))
    (dss_one (ds_ret de_bool))))
end
theorem all_mk {l : PySem.W.OpenLaw} {w : World} {K : PySem.W.Frag} {h : Heap} {mg : Str → Option Value} {fa f1 f2 f3 f4 f5 f6 f7 f8 f9 f10 f11 f12 f13 f14 f15 f16 f17 f18 f19 f20 f21 f22 f23 f24 f25 f26 f27 f28 : Addr} (X : K.In h) (G : h.Ns mainGlobals mg) (hfa : mg "law" = some (.ref fa))
    {od1 an1 od2 an2 od3 an3 od4 an4 od5 an5 od6 an6 od7 an7 od8 an8 od9 an9 od10 an10 od11 an11 od12 an12 od13 an13 od14 an14 od15 an15 od16 an16 od17 an17 od18 an18 od19 an19 od20 an20 od21 an21 od22 an22 od23 an23 od24 an24 od25 an25 od26 an26 od27 an27 od28 an28 : Option Addr} {sl1 sl2 sl3 sl4 sl5 sl6 sl7 sl8 sl9 sl10 sl11 sl12 sl13 sl14 sl15 sl16 sl17 sl18 sl19 sl20 sl21 sl22 sl23 sl24 sl25 sl26 sl27 sl28 : Array (Option Value)} {oc1 kV1 dc1 pm1 cd1 ct1 oc2 kV2 dc2 pm2 cd2 ct2 oc3 kV3 dc3 pm3 cd3 ct3 oc4 kV4 dc4 pm4 cd4 ct4 oc5 kV5 dc5 pm5 cd5 ct5 oc6 kV6 dc6 pm6 cd6 ct6 oc7 kV7 dc7 pm7 cd7 ct7 oc8 kV8 dc8 pm8 cd8 ct8 oc9 kV9 dc9 pm9 cd9 ct9 oc10 kV10 dc10 pm10 cd10 ct10 oc11 kV11 dc11 pm11 cd11 ct11 oc12 kV12 dc12 pm12 cd12 ct12 oc13 kV13 dc13 pm13 cd13 ct13 oc14 kV14 dc14 pm14 cd14 ct14 oc15 kV15 dc15 pm15 cd15 ct15 oc16 kV16 dc16 pm16 cd16 ct16 oc17 kV17 dc17 pm17 cd17 ct17 oc18 kV18 dc18 pm18 cd18 ct18 oc19 kV19 dc19 pm19 cd19 ct19 oc20 kV20 dc20 pm20 cd20 ct20 oc21 kV21 dc21 pm21 cd21 ct21 oc22 kV22 dc22 pm22 cd22 ct22 oc23 kV23 dc23 pm23 cd23 ct23 oc24 kV24 dc24 pm24 cd24 ct24 oc25 kV25 dc25 pm25 cd25 ct25 oc26 kV26 dc26 pm26 cd26 ct26 oc27 kV27 dc27 pm27 cd27 ct27 oc28 kV28 dc28 pm28 cd28 ct28 : Value}
    (a1 : PySem.W.nsIn K mainGlobals "_law_bag" = some (some (.ref f1))) (l1 : K.lookup f1 = some ⟨oc1, od1, .func (PySem.W.fnOf "_law_bag" "_law_bag" (defArgs s__law_bag) (defBody s__law_bag) (defScope s__law_bag) .none kV1 dc1 pm1 an1 cd1 ct1), sl1⟩) (c1 : PySem.W.codeIn K cd1 "_law_bag" = true) (k1 : PySem.W.keepIn K (.ref f1) = true)
    (a2 : PySem.W.nsIn K mainGlobals "first_group" = some (some (.ref f2))) (l2 : K.lookup f2 = some ⟨oc2, od2, .func (PySem.W.fnOf "first_group" "first_group" (defArgs s_first_group) (defBody s_first_group) (defScope s_first_group) .none kV2 dc2 pm2 an2 cd2 ct2), sl2⟩) (c2 : PySem.W.codeIn K cd2 "first_group" = true) (k2 : PySem.W.keepIn K (.ref f2) = true)
    (a3 : PySem.W.nsIn K mainGlobals "_law_take" = some (some (.ref f3))) (l3 : K.lookup f3 = some ⟨oc3, od3, .func (PySem.W.fnOf "_law_take" "_law_take" (defArgs s__law_take) (defBody s__law_take) (defScope s__law_take) .none kV3 dc3 pm3 an3 cd3 ct3), sl3⟩) (c3 : PySem.W.codeIn K cd3 "_law_take" = true) (k3 : PySem.W.keepIn K (.ref f3) = true)
    (a4 : PySem.W.nsIn K mainGlobals "_law_options" = some (some (.ref f4))) (l4 : K.lookup f4 = some ⟨oc4, od4, .func (PySem.W.fnOf "_law_options" "_law_options" (defArgs s__law_options) (defBody s__law_options) (defScope s__law_options) .none kV4 dc4 pm4 an4 cd4 ct4), sl4⟩) (c4 : PySem.W.codeIn K cd4 "_law_options" = true) (k4 : PySem.W.keepIn K (.ref f4) = true)
    (a5 : PySem.W.nsIn K mainGlobals "_law_alike" = some (some (.ref f5))) (l5 : K.lookup f5 = some ⟨oc5, od5, .func (PySem.W.fnOf "_law_alike" "_law_alike" (defArgs s__law_alike) (defBody s__law_alike) (defScope s__law_alike) .none kV5 dc5 pm5 an5 cd5 ct5), sl5⟩) (c5 : PySem.W.codeIn K cd5 "_law_alike" = true) (k5 : PySem.W.keepIn K (.ref f5) = true)
    (a6 : PySem.W.nsIn K mainGlobals "_law_first" = some (some (.ref f6))) (l6 : K.lookup f6 = some ⟨oc6, od6, .func (PySem.W.fnOf "_law_first" "_law_first" (defArgs s__law_first) (defBody s__law_first) (defScope s__law_first) .none kV6 dc6 pm6 an6 cd6 ct6), sl6⟩) (c6 : PySem.W.codeIn K cd6 "_law_first" = true) (k6 : PySem.W.keepIn K (.ref f6) = true)
    (a7 : PySem.W.nsIn K mainGlobals "_law_is_split" = some (some (.ref f7))) (l7 : K.lookup f7 = some ⟨oc7, od7, .func (PySem.W.fnOf "_law_is_split" "_law_is_split" (defArgs s__law_is_split) (defBody s__law_is_split) (defScope s__law_is_split) .none kV7 dc7 pm7 an7 cd7 ct7), sl7⟩) (c7 : PySem.W.codeIn K cd7 "_law_is_split" = true) (k7 : PySem.W.keepIn K (.ref f7) = true)
    (a8 : PySem.W.nsIn K mainGlobals "_law_decided" = some (some (.ref f8))) (l8 : K.lookup f8 = some ⟨oc8, od8, .func (PySem.W.fnOf "_law_decided" "_law_decided" (defArgs s__law_decided) (defBody s__law_decided) (defScope s__law_decided) .none kV8 dc8 pm8 an8 cd8 ct8), sl8⟩) (c8 : PySem.W.codeIn K cd8 "_law_decided" = true) (k8 : PySem.W.keepIn K (.ref f8) = true)
    (a9 : PySem.W.nsIn K mainGlobals "_law_put" = some (some (.ref f9))) (l9 : K.lookup f9 = some ⟨oc9, od9, .func (PySem.W.fnOf "_law_put" "_law_put" (defArgs s__law_put) (defBody s__law_put) (defScope s__law_put) .none kV9 dc9 pm9 an9 cd9 ct9), sl9⟩) (c9 : PySem.W.codeIn K cd9 "_law_put" = true) (k9 : PySem.W.keepIn K (.ref f9) = true)
    (a10 : PySem.W.nsIn K mainGlobals "_law_leader_steps" = some (some (.ref f10))) (l10 : K.lookup f10 = some ⟨oc10, od10, .func (PySem.W.fnOf "_law_leader_steps" "_law_leader_steps" (defArgs s__law_leader_steps) (defBody s__law_leader_steps) (defScope s__law_leader_steps) .none kV10 dc10 pm10 an10 cd10 ct10), sl10⟩) (c10 : PySem.W.codeIn K cd10 "_law_leader_steps" = true) (k10 : PySem.W.keepIn K (.ref f10) = true)
    (a11 : PySem.W.nsIn K mainGlobals "_law_member_steps" = some (some (.ref f11))) (l11 : K.lookup f11 = some ⟨oc11, od11, .func (PySem.W.fnOf "_law_member_steps" "_law_member_steps" (defArgs s__law_member_steps) (defBody s__law_member_steps) (defScope s__law_member_steps) .none kV11 dc11 pm11 an11 cd11 ct11), sl11⟩) (c11 : PySem.W.codeIn K cd11 "_law_member_steps" = true) (k11 : PySem.W.keepIn K (.ref f11) = true)
    (a12 : PySem.W.nsIn K mainGlobals "_law_group_steps" = some (some (.ref f12))) (l12 : K.lookup f12 = some ⟨oc12, od12, .func (PySem.W.fnOf "_law_group_steps" "_law_group_steps" (defArgs s__law_group_steps) (defBody s__law_group_steps) (defScope s__law_group_steps) .none kV12 dc12 pm12 an12 cd12 ct12), sl12⟩) (c12 : PySem.W.codeIn K cd12 "_law_group_steps" = true) (k12 : PySem.W.keepIn K (.ref f12) = true)
    (a13 : PySem.W.nsIn K mainGlobals "is_split" = some (some (.ref f13))) (l13 : K.lookup f13 = some ⟨oc13, od13, .func (PySem.W.fnOf "is_split" "is_split" (defArgs s_is_split) (defBody s_is_split) (defScope s_is_split) .none kV13 dc13 pm13 an13 cd13 ct13), sl13⟩) (c13 : PySem.W.codeIn K cd13 "is_split" = true) (k13 : PySem.W.keepIn K (.ref f13) = true)
    (a14 : PySem.W.nsIn K mainGlobals "decided" = some (some (.ref f14))) (l14 : K.lookup f14 = some ⟨oc14, od14, .func (PySem.W.fnOf "decided" "decided" (defArgs s_decided) (defBody s_decided) (defScope s_decided) .none kV14 dc14 pm14 an14 cd14 ct14), sl14⟩) (c14 : PySem.W.codeIn K cd14 "decided" = true) (k14 : PySem.W.keepIn K (.ref f14) = true)
    (a15 : PySem.W.nsIn K mainGlobals "put_at" = some (some (.ref f15))) (l15 : K.lookup f15 = some ⟨oc15, od15, .func (PySem.W.fnOf "put_at" "put_at" (defArgs s_put_at) (defBody s_put_at) (defScope s_put_at) .none kV15 dc15 pm15 an15 cd15 ct15), sl15⟩) (c15 : PySem.W.codeIn K cd15 "put_at" = true) (k15 : PySem.W.keepIn K (.ref f15) = true)
    (a16 : PySem.W.nsIn K mainGlobals "leader_steps" = some (some (.ref f16))) (l16 : K.lookup f16 = some ⟨oc16, od16, .func (PySem.W.fnOf "leader_steps" "leader_steps" (defArgs s_leader_steps) (defBody s_leader_steps) (defScope s_leader_steps) .none kV16 dc16 pm16 an16 cd16 ct16), sl16⟩) (c16 : PySem.W.codeIn K cd16 "leader_steps" = true) (k16 : PySem.W.keepIn K (.ref f16) = true)
    (a17 : PySem.W.nsIn K mainGlobals "with_member" = some (some (.ref f17))) (l17 : K.lookup f17 = some ⟨oc17, od17, .func (PySem.W.fnOf "with_member" "with_member" (defArgs s_with_member) (defBody s_with_member) (defScope s_with_member) .none kV17 dc17 pm17 an17 cd17 ct17), sl17⟩) (c17 : PySem.W.codeIn K cd17 "with_member" = true) (k17 : PySem.W.keepIn K (.ref f17) = true)
    (a18 : PySem.W.nsIn K mainGlobals "member_steps" = some (some (.ref f18))) (l18 : K.lookup f18 = some ⟨oc18, od18, .func (PySem.W.fnOf "member_steps" "member_steps" (defArgs s_member_steps) (defBody s_member_steps) (defScope s_member_steps) .none kV18 dc18 pm18 an18 cd18 ct18), sl18⟩) (c18 : PySem.W.codeIn K cd18 "member_steps" = true) (k18 : PySem.W.keepIn K (.ref f18) = true)
    (a19 : PySem.W.nsIn K mainGlobals "all_steps" = some (some (.ref f19))) (l19 : K.lookup f19 = some ⟨oc19, od19, .func (PySem.W.fnOf "all_steps" "all_steps" (defArgs s_all_steps) (defBody s_all_steps) (defScope s_all_steps) .none kV19 dc19 pm19 an19 cd19 ct19), sl19⟩) (c19 : PySem.W.codeIn K cd19 "all_steps" = true) (k19 : PySem.W.keepIn K (.ref f19) = true)
    (a20 : PySem.W.nsIn K mainGlobals "group_steps" = some (some (.ref f20))) (l20 : K.lookup f20 = some ⟨oc20, od20, .func (PySem.W.fnOf "group_steps" "group_steps" (defArgs s_group_steps) (defBody s_group_steps) (defScope s_group_steps) .none kV20 dc20 pm20 an20 cd20 ct20), sl20⟩) (c20 : PySem.W.codeIn K cd20 "group_steps" = true) (k20 : PySem.W.keepIn K (.ref f20) = true)
    (a21 : PySem.W.nsIn K mainGlobals "are_all_ended" = some (some (.ref f21))) (l21 : K.lookup f21 = some ⟨oc21, od21, .func (PySem.W.fnOf "are_all_ended" "are_all_ended" (defArgs s_are_all_ended) (defBody s_are_all_ended) (defScope s_are_all_ended) .none kV21 dc21 pm21 an21 cd21 ct21), sl21⟩) (c21 : PySem.W.codeIn K cd21 "are_all_ended" = true) (k21 : PySem.W.keepIn K (.ref f21) = true)
    (a22 : PySem.W.nsIn K mainGlobals "_law_mixed" = some (some (.ref f22))) (l22 : K.lookup f22 = some ⟨oc22, od22, .func (PySem.W.fnOf "_law_mixed" "_law_mixed" (defArgs s__law_mixed) (defBody s__law_mixed) (defScope s__law_mixed) .none kV22 dc22 pm22 an22 cd22 ct22), sl22⟩) (c22 : PySem.W.codeIn K cd22 "_law_mixed" = true) (k22 : PySem.W.keepIn K (.ref f22) = true)
    (a23 : PySem.W.nsIn K mainGlobals "_law_some" = some (some (.ref f23))) (l23 : K.lookup f23 = some ⟨oc23, od23, .func (PySem.W.fnOf "_law_some" "_law_some" (defArgs s__law_some) (defBody s__law_some) (defScope s__law_some) .none kV23 dc23 pm23 an23 cd23 ct23), sl23⟩) (c23 : PySem.W.codeIn K cd23 "_law_some" = true) (k23 : PySem.W.keepIn K (.ref f23) = true)
    (a24 : PySem.W.nsIn K mainGlobals "_law_odd_steps" = some (some (.ref f24))) (l24 : K.lookup f24 = some ⟨oc24, od24, .func (PySem.W.fnOf "_law_odd_steps" "_law_odd_steps" (defArgs s__law_odd_steps) (defBody s__law_odd_steps) (defScope s__law_odd_steps) .none kV24 dc24 pm24 an24 cd24 ct24), sl24⟩) (c24 : PySem.W.codeIn K cd24 "_law_odd_steps" = true) (k24 : PySem.W.keepIn K (.ref f24) = true)
    (a25 : PySem.W.nsIn K mainGlobals "is_step" = some (some (.ref f25))) (l25 : K.lookup f25 = some ⟨oc25, od25, .func (PySem.W.fnOf "is_step" "is_step" (defArgs s_is_step) (defBody s_is_step) (defScope s_is_step) .none kV25 dc25 pm25 an25 cd25 ct25), sl25⟩) (c25 : PySem.W.codeIn K cd25 "is_step" = true) (k25 : PySem.W.keepIn K (.ref f25) = true)
    (a26 : PySem.W.nsIn K mainGlobals "group_behind" = some (some (.ref f26))) (l26 : K.lookup f26 = some ⟨oc26, od26, .func (PySem.W.fnOf "group_behind" "group_behind" (defArgs s_group_behind) (defBody s_group_behind) (defScope s_group_behind) .none kV26 dc26 pm26 an26 cd26 ct26), sl26⟩) (c26 : PySem.W.codeIn K cd26 "group_behind" = true) (k26 : PySem.W.keepIn K (.ref f26) = true)
    (a27 : PySem.W.nsIn K mainGlobals "_law_heard" = some (some (.ref f27))) (l27 : K.lookup f27 = some ⟨oc27, od27, .func (PySem.W.fnOf "_law_heard" "_law_heard" (defArgs s__law_heard) (defBody s__law_heard) (defScope s__law_heard) .none kV27 dc27 pm27 an27 cd27 ct27), sl27⟩) (c27 : PySem.W.codeIn K cd27 "_law_heard" = true) (k27 : PySem.W.keepIn K (.ref f27) = true)
    (a28 : PySem.W.nsIn K mainGlobals "law" = some (some (.ref f28))) (l28 : K.lookup f28 = some ⟨oc28, od28, .func (PySem.W.fnOf "law" "law" (defArgs s_law) (defBody s_law) (defScope s_law) .none kV28 dc28 pm28 an28 cd28 ct28), sl28⟩) (c28 : PySem.W.codeIn K cd28 "law" = true) (k28 : PySem.W.keepIn K (.ref f28) = true)
    (z1 : PySem.W.nsIn K mainGlobals "abs" = some none)
    (z2 : PySem.W.nsIn K mainGlobals "all" = some none)
    (z3 : PySem.W.nsIn K mainGlobals "bool" = some none)
    (z4 : PySem.W.nsIn K mainGlobals "enumerate" = some none)
    (z5 : PySem.W.nsIn K mainGlobals "int" = some none)
    (z6 : PySem.W.nsIn K mainGlobals "isinstance" = some none)
    (z7 : PySem.W.nsIn K mainGlobals "len" = some none)
    (z8 : PySem.W.nsIn K mainGlobals "list" = some none)
    (z9 : PySem.W.nsIn K mainGlobals "range" = some none)
    (z10 : PySem.W.nsIn K mainGlobals "repr" = some none)
    (z11 : PySem.W.nsIn K mainGlobals "set" = some none)
    (z12 : PySem.W.nsIn K mainGlobals "sorted" = some none)
    (z13 : PySem.W.nsIn K mainGlobals "tuple" = some none)
    {t1 : Tok} (g1 : PySem.W.nsIn K mainGlobals "DONE" = some (some (.str "done" t1)))
    {t2 : Tok} (g2 : PySem.W.nsIn K mainGlobals "LOST" = some (some (.str "lost" t2)))
    {t3 : Tok} (g3 : PySem.W.nsIn K mainGlobals "NO" = some (some (.str "no" t3)))
    {t4 : Tok} (g4 : PySem.W.nsIn K mainGlobals "READY" = some (some (.str "ready" t4)))
    {t5 : Tok} (g5 : PySem.W.nsIn K mainGlobals "YES" = some (some (.str "yes" t5)))
    {C1 fI1 cc1 cda1 eN1 : Addr} {enm1 eq1 : Str} {ebs1 ebm1 : List Value} {esn1 : List Str} {esub1 : List Value} {eab1 : Bool} {ecol1 : Option Bool} {edd1 : Option Addr} {ek01 ek11 ek21 ek31 ek51 : Option Value} {eocf1 ekV1 edoc1 epm1 ect1 : Value} {ean1 eodf1 : Option Addr} {eosl1 : Array (Option Value)}
    {eoc1 : Value} {eod1 : Option Addr} {esl1 : Array (Option Value)} {ecd1 : ClassData} {eccl1 : Value} {ecdd1 : Option Addr} {evs1 : Array Value} {eccs1 : Array (Option Value)} {efile1 : Str} {etf1 : Tok}
    (e1_1 : PySem.W.nsIn K mainGlobals "Refused" = some (some (.ref C1))) (e1_2 : K.lookup C1 = some (excClassObj enm1 eq1 C1 eN1 ebs1 ebm1 true esn1 esub1 eab1 ecol1 edd1 ek01 ek11 ek21 ek31 ek51 "ValueError.__new__")) (e1_3 : PySem.HandSPX.refsVE ebm1 = true) (e1_4 : PySem.W.findIn K (.ref C1) "__setattr__" = some (some (.builtin "object.__setattr__"))) (e1_5 : PySem.W.subIn K (.ref C1) (.type "BaseException") = some true) (e1_6 : PySem.W.typeIn K (.ref C1) = some (.type "type")) (e1_7 : PySem.W.keepIn K (.ref C1) = true) (e1_8 : PySem.W.findIn K (.ref C1) "__init__" = some (some (.ref fI1))) (e1_9 : PySem.W.typeIn K (.ref fI1) = some (.type "function")) (e1_10 : K.lookup fI1 = some ⟨eocf1, eodf1, .func (PySem.W.ksFn "__init__" "Refused.__init__" (defArgs i_Refused) (defBody i_Refused) (defScope i_Refused) .none ekV1 edoc1 epm1 ean1 (.ref cda1) ect1 cc1), eosl1⟩) (e1_11 : PySem.W.codeIn K (.ref cda1) "Refused.__init__" = true) (e1_12 : K.lookup cc1 = some ⟨eoc1, eod1, .cell (some (.ref C1)), esl1⟩) (e1_13 : PySem.W.clsIn K C1 = some ecd1) (e1_14 : PySem.W.mroIn K C1 (.ref C1) = some true) (e1_15 : PySem.W.ks_superIn K C1 C1 "__init__" = some (some (.builtin "ValueError.__init__"))) (e1_16 : PySem.W.subIn K (.ref C1) (.type "ValueError") = some true) (e1_17 : K.lookup cda1 = some ⟨eccl1, ecdd1, .fields evs1, eccs1⟩) (e1_18 : evs1[2]? = some (.str efile1 etf1)) (e1_19 : ((l.prog.main.file : Str) == efile1) = true) (e1_20 : PySem.W.findIn K (.ref C1) "__getattribute__" = some (some (.builtin "BaseException.__getattribute__"))) (e1_21 : PySem.W.findIn K (.ref C1) "__getattr__" = some none) (e1_22 : PySem.W.hasDictIn K C1 = true) (e1_23 : PySem.W.findIn K (.ref C1) "__class__" = some (some (.builtin "object.__class__"))) (e1_24 : PySem.W.mroIn K C1 (.type "object") = some true) (e1_f0 : PySem.W.findIn K (.ref C1) "why" = some none)
    (eS1 : PySem.W.nsIn K cStatics "thirdparty.any" = some none) (eS2 : (l.prog.main.scope.names.lookup ("super" : Str)).isSome = false) (eS3 : PySem.W.nsIn K mainGlobals "super" = some none) (eS4 : PySem.W.specialIn K (.builtin "object.__class__") "__get__" = some (some (.builtin "getset_descriptor.__get__"))) (eS5 : PySem.W.takesIn K (.builtin "object.__class__") = some true)
    {D1 : Addr} (y1 : PySem.W.nsIn K mainGlobals "Refused" = some (some (.ref D1))) (y1_1 : PySem.W.exmOne K (.ref C1) (.ref D1) = some true) (z1_1 : PySem.W.kitOne K (.ref C1) (.ref D1) = some true)
    : ∃ fd : FuncData, (∀ (s : Shared) (v : Value), BindsTo s fd ⟨[v], []⟩ [("script", v)]) ∧ ∀ base : Heap, K.In base → base.Ns mainGlobals mg → FnG l.prog w K mg base 7 fa fd ["script"] d_law := by
  have e := hfa.symm.trans (PySem.W.mg_of X G a28)
  cases e
  have T : Txt K mg := ⟨PySem.W.mg_none_of X G z1, PySem.W.mg_none_of X G z2, PySem.W.mg_none_of X G z3, PySem.W.mg_none_of X G z4, PySem.W.mg_none_of X G z5, PySem.W.mg_none_of X G z6, PySem.W.mg_none_of X G z7, PySem.W.mg_none_of X G z8, PySem.W.mg_none_of X G z9, PySem.W.mg_none_of X G z10, PySem.W.mg_none_of X G z11, PySem.W.mg_none_of X G z12, PySem.W.mg_none_of X G z13, ⟨_, PySem.W.mg_of X G g1, ⟨_, rfl⟩⟩, ⟨_, PySem.W.mg_of X G g2, ⟨_, rfl⟩⟩, ⟨_, PySem.W.mg_of X G g3, ⟨_, rfl⟩⟩, ⟨_, PySem.W.mg_of X G g4, ⟨_, rfl⟩⟩, ⟨_, PySem.W.mg_of X G g5, ⟨_, rfl⟩⟩⟩
  have F1 := fun_mk (st := s__law_bag) l1 c1 k1
  have b1 := F1.binds (ps := ["script"]) fun _ _ _ _ _ _ us hl => match us, hl with | [_], _ => rfl
  have F2 := fun_mk (st := s_first_group) l2 c2 k2
  have b2 := F2.binds (ps := ["many", "crashes"]) fun _ _ _ _ _ _ us hl => match us, hl with | [_, _], _ => rfl
  have F3 := fun_mk (st := s__law_take) l3 c3 k3
  have b3 := F3.binds (ps := ["bag", "many"]) fun _ _ _ _ _ _ us hl => match us, hl with | [_, _], _ => rfl
  have F4 := fun_mk (st := s__law_options) l4 c4 k4
  have b4 := F4.binds (ps := ["bag"]) fun _ _ _ _ _ _ us hl => match us, hl with | [_], _ => rfl
  have F5 := fun_mk (st := s__law_alike) l5 c5 k5
  have b5 := F5.binds (ps := ["found", "due"]) fun _ _ _ _ _ _ us hl => match us, hl with | [_, _], _ => rfl
  have F6 := fun_mk (st := s__law_first) l6 c6 k6
  have b6 := F6.binds (ps := ["many", "crashes"]) fun _ _ _ _ _ _ us hl => match us, hl with | [_, _], _ => rfl
  have F7 := fun_mk (st := s__law_is_split) l7 c7 k7
  have b7 := F7.binds (ps := ["state"]) fun _ _ _ _ _ _ us hl => match us, hl with | [_], _ => rfl
  have F8 := fun_mk (st := s__law_decided) l8 c8 k8
  have b8 := F8.binds (ps := ["options", "state", "word"]) fun _ _ _ _ _ _ us hl => match us, hl with | [_, _, _], _ => rfl
  have F9 := fun_mk (st := s__law_put) l9 c9 k9
  have b9 := F9.binds (ps := ["row", "at", "thing"]) fun _ _ _ _ _ _ us hl => match us, hl with | [_, _, _], _ => rfl
  have F10 := fun_mk (st := s__law_leader_steps) l10 c10 k10
  have b10 := F10.binds (ps := ["options", "state"]) fun _ _ _ _ _ _ us hl => match us, hl with | [_, _], _ => rfl
  have F11 := fun_mk (st := s__law_member_steps) l11 c11 k11
  have b11 := F11.binds (ps := ["options", "state", "at"]) fun _ _ _ _ _ _ us hl => match us, hl with | [_, _, _], _ => rfl
  have F12 := fun_mk (st := s__law_group_steps) l12 c12 k12
  have b12 := F12.binds (ps := ["options", "state"]) fun _ _ _ _ _ _ us hl => match us, hl with | [_, _], _ => rfl
  have F13 := fun_mk (st := s_is_split) l13 c13 k13
  have b13 := F13.binds (ps := ["state"]) fun _ _ _ _ _ _ us hl => match us, hl with | [_], _ => rfl
  have F14 := fun_mk (st := s_decided) l14 c14 k14
  have b14 := F14.binds (ps := ["options", "state", "word"]) fun _ _ _ _ _ _ us hl => match us, hl with | [_, _, _], _ => rfl
  have F15 := fun_mk (st := s_put_at) l15 c15 k15
  have b15 := F15.binds (ps := ["row", "at", "thing"]) fun _ _ _ _ _ _ us hl => match us, hl with | [_, _, _], _ => rfl
  have F16 := fun_mk (st := s_leader_steps) l16 c16 k16
  have b16 := F16.binds (ps := ["options", "state"]) fun _ _ _ _ _ _ us hl => match us, hl with | [_, _], _ => rfl
  have F17 := fun_mk (st := s_with_member) l17 c17 k17
  have b17 := F17.binds (ps := ["state", "at", "member"]) fun _ _ _ _ _ _ us hl => match us, hl with | [_, _, _], _ => rfl
  have F18 := fun_mk (st := s_member_steps) l18 c18 k18
  have b18 := F18.binds (ps := ["options", "state", "at"]) fun _ _ _ _ _ _ us hl => match us, hl with | [_, _, _], _ => rfl
  have F19 := fun_mk (st := s_all_steps) l19 c19 k19
  have b19 := F19.binds (ps := ["options", "state"]) fun _ _ _ _ _ _ us hl => match us, hl with | [_, _], _ => rfl
  have F20 := fun_mk (st := s_group_steps) l20 c20 k20
  have b20 := F20.binds (ps := ["options", "state"]) fun _ _ _ _ _ _ us hl => match us, hl with | [_, _], _ => rfl
  have F21 := fun_mk (st := s_are_all_ended) l21 c21 k21
  have b21 := F21.binds (ps := ["state"]) fun _ _ _ _ _ _ us hl => match us, hl with | [_], _ => rfl
  have F22 := fun_mk (st := s__law_mixed) l22 c22 k22
  have b22 := F22.binds (ps := ["bag", "things"]) fun _ _ _ _ _ _ us hl => match us, hl with | [_, _], _ => rfl
  have F23 := fun_mk (st := s__law_some) l23 c23 k23
  have b23 := F23.binds (ps := ["bag", "things"]) fun _ _ _ _ _ _ us hl => match us, hl with | [_, _], _ => rfl
  have F24 := fun_mk (st := s__law_odd_steps) l24 c24 k24
  have b24 := F24.binds (ps := ["bag", "many", "steps"]) fun _ _ _ _ _ _ us hl => match us, hl with | [_, _, _], _ => rfl
  have F25 := fun_mk (st := s_is_step) l25 c25 k25
  have b25 := F25.binds (ps := ["one", "thing"]) fun _ _ _ _ _ _ us hl => match us, hl with | [_, _], _ => rfl
  have F26 := fun_mk (st := s_group_behind) l26 c26 k26
  have b26 := F26.binds (ps := ["options", "state", "step"]) fun _ _ _ _ _ _ us hl => match us, hl with | [_, _, _], _ => rfl
  have F27 := fun_mk (st := s__law_heard) l27 c27 k27
  have b27 := F27.binds (ps := ["options", "state", "step"]) fun _ _ _ _ _ _ us hl => match us, hl with | [_, _, _], _ => rfl
  have F28 := fun_mk (st := s_law) l28 c28 k28
  refine ⟨PySem.W.fnOf "law" "law" (defArgs s_law) (defBody s_law) (defScope s_law) .none kV28 dc28 pm28 an28 cd28 ct28, fun s v => .of_eq rfl, fun base _ _ => ?_⟩
  have E_Refused := g_Refused (P := l.prog) (w := w) (base := base) (PySem.W.mg_of X G e1_1) e1_1 (oex_of e1_2 e1_3 e1_4 e1_5 e1_6 e1_7) e1_8 e1_9 e1_10 e1_11 ⟨oex_of e1_2 e1_3 e1_4 e1_5 e1_6 e1_7, ⟨_, _, _, e1_12⟩, ⟨_, e1_13⟩, e1_14, eS1, e1_15, e1_16, ⟨_, _, _, _, _, _, e1_17, e1_18, e1_19⟩, eS2, PySem.W.mg_none_of X G eS3⟩ e1_f0
  have ET : ErrT K [("Refused", ["why"])] := (ErrT.cons (errC_of e1_1 e1_20 e1_21 e1_5 e1_22 e1_23 eS4 eS5 e1_24 (by intro f hf; rw [List.mem_singleton.mp hf]; exact e1_f0)) ErrT.nil)
  have Y_Refused : CatG K mg "Refused" [("Refused", true)] := catG_of (PySem.W.mg_of X G y1) y1 (cat_cons e1_1 y1_1 z1_1 cat_nil)
  have G1 := Ce.mk (f__law_bag (P := l.prog) (w := w) (base := base) T F1) (PySem.W.mg_of X G a1) k1 b1
  have G2 := Ce.mk (f_first_group (P := l.prog) (w := w) (base := base) T F2) (PySem.W.mg_of X G a2) k2 b2
  have G3 := Ce.mk (f__law_take (P := l.prog) (w := w) (base := base) T F3) (PySem.W.mg_of X G a3) k3 b3
  have G4 := Ce.mk (f__law_options (P := l.prog) (w := w) (base := base) T F4 G3) (PySem.W.mg_of X G a4) k4 b4
  have G5 := Ce.mk (f__law_alike (P := l.prog) (w := w) (base := base) T F5) (PySem.W.mg_of X G a5) k5 b5
  have G6 := Ce.mk (f__law_first (P := l.prog) (w := w) (base := base) T F6) (PySem.W.mg_of X G a6) k6 b6
  have G7 := Ce.mk (f__law_is_split (P := l.prog) (w := w) (base := base) T F7) (PySem.W.mg_of X G a7) k7 b7
  have G8 := Ce.mk (f__law_decided (P := l.prog) (w := w) (base := base) T F8) (PySem.W.mg_of X G a8) k8 b8
  have G9 := Ce.mk (f__law_put (P := l.prog) (w := w) (base := base) T F9) (PySem.W.mg_of X G a9) k9 b9
  have G10 := Ce.mk (f__law_leader_steps (P := l.prog) (w := w) (base := base) T F10 G8 G9) (PySem.W.mg_of X G a10) k10 b10
  have G11 := Ce.mk (f__law_member_steps (P := l.prog) (w := w) (base := base) T F11 G9) (PySem.W.mg_of X G a11) k11 b11
  have G12 := Ce.mk (f__law_group_steps (P := l.prog) (w := w) (base := base) T F12 G7 G10 G11) (PySem.W.mg_of X G a12) k12 b12
  have G13 := Ce.mk (f_is_split (P := l.prog) (w := w) (base := base) T F13) (PySem.W.mg_of X G a13) k13 b13
  have G14 := Ce.mk (f_decided (P := l.prog) (w := w) (base := base) T F14) (PySem.W.mg_of X G a14) k14 b14
  have G15 := Ce.mk (f_put_at (P := l.prog) (w := w) (base := base) T F15) (PySem.W.mg_of X G a15) k15 b15
  have G16 := Ce.mk (f_leader_steps (P := l.prog) (w := w) (base := base) T F16 G14 G15) (PySem.W.mg_of X G a16) k16 b16
  have G17 := Ce.mk (f_with_member (P := l.prog) (w := w) (base := base) T F17 G15) (PySem.W.mg_of X G a17) k17 b17
  have G18 := Ce.mk (f_member_steps (P := l.prog) (w := w) (base := base) T F18 G17) (PySem.W.mg_of X G a18) k18 b18
  have G19 := Ce.mk (f_all_steps (P := l.prog) (w := w) (base := base) T F19 G13 G16 G18) (PySem.W.mg_of X G a19) k19 b19
  have G20 := Ce.mk (f_group_steps (P := l.prog) (w := w) (base := base) T F20 G19) (PySem.W.mg_of X G a20) k20 b20
  have G21 := Ce.mk (f_are_all_ended (P := l.prog) (w := w) (base := base) T F21) (PySem.W.mg_of X G a21) k21 b21
  have G22 := Ce.mk (f__law_mixed (P := l.prog) (w := w) (base := base) T F22 G3) (PySem.W.mg_of X G a22) k22 b22
  have G23 := Ce.mk (f__law_some (P := l.prog) (w := w) (base := base) T F23 G3) (PySem.W.mg_of X G a23) k23 b23
  have G24 := Ce.mk (f__law_odd_steps (P := l.prog) (w := w) (base := base) T F24 G3 G5) (PySem.W.mg_of X G a24) k24 b24
  have G25 := Ce.mk (f_is_step (P := l.prog) (w := w) (base := base) T F25) (PySem.W.mg_of X G a25) k25 b25
  have G26 := Ce.mk (f_group_behind (P := l.prog) (w := w) (base := base) T F26 G19 G25 E_Refused) (PySem.W.mg_of X G a26) k26 b26
  have G27 := Ce.mk (f__law_heard (P := l.prog) (w := w) (base := base) T F27 G26 Y_Refused ET) (PySem.W.mg_of X G a27) k27 b27
  exact f_law (P := l.prog) (w := w) (base := base) T F28 G1 G2 G4 G3 G5 G6 G12 G20 G13 G21 G22 G23 G24 G27 G7
end K24


namespace K24
open PySem PySem.Spec L2 DL
/-! k24: words, states -/
inductive Wd where | e | no | yes | ready | done | lost
  deriving DecidableEq
def Wd.s : Wd → Str
  | .e => ""
  | .no => "no"
  | .yes => "yes"
  | .ready => "ready"
  | .done => "done"
  | .lost => "lost"
def wD (w : Wd) : D := .str w.s
theorem lit_e : PyData.str "" = wD .e := rfl
theorem lit_no : PyData.str "no" = wD .no := rfl
theorem lit_yes : PyData.str "yes" = wD .yes := rfl
theorem lit_ready : PyData.str "ready" = wD .ready := rfl
theorem lit_done : PyData.str "done" = wD .done := rfl
theorem lit_lost : PyData.str "lost" = wD .lost := rfl
theorem eqv_w (a b : Wd) : PyData.eqv (wD a) (wD b) = decide (a = b) := by cases a <;> cases b <;> decide +kernel
theorem wD_inj {a b : Wd} : wD a = wD b ↔ a = b := by
  refine ⟨fun h => ?_, fun h => by rw [h]⟩
  have e : PyData.eqv (wD a) (wD b) = true := by
    rw [h]; cases b <;> decide +kernel
  rw [eqv_w] at e
  exact of_decide_eq_true e
@[simp] theorem eq_w (a b : Wd) : gEqA (wD a) (wD b) = some (.bool (decide (a = b))) := by cases a <;> cases b <;> rfl
@[simp] theorem ne_w (a b : Wd) : gNeA (wD a) (wD b) = some (.bool (!decide (a = b))) := by cases a <;> cases b <;> rfl
theorem flat_w (a : Wd) : flatD (wD a) = true := rfl
theorem flats_w (l : List Wd) : (l.map wD).all flatD = true := by rw [List.all_map]; exact List.all_eq_true.mpr fun _ _ => rfl
theorem any_w (a : Wd) : ∀ l : List Wd, ((l.map wD).any fun z => PyData.eqv z (wD a)) = decide (a ∈ l)
  | [] => by simp
  | b :: l => by
    rw [List.map_cons, List.any_cons, eqv_w, any_w a l]
    by_cases h : b = a
    · subst h; simp
    · have h2 : ¬ a = b := fun z => h z.symm
      simp [h, h2]
theorem in_wt (neg : Bool) (a : Wd) (l : List Wd) : gInC neg (wD a) (.tuple (l.map wD)) = some (.bool (if neg = true then !decide (a ∈ l) else decide (a ∈ l))) := by rw [gInC_tup (flat_w a) (flats_w l), any_w]
theorem in_wl (neg : Bool) (a : Wd) (l : List Wd) : gInC neg (wD a) (.list (l.map wD)) = some (.bool (if neg = true then !decide (a ∈ l) else decide (a ∈ l))) := by rw [gInC_lst (flat_w a) (flats_w l), any_w]
structure Mem where
  w : Wd
  s : Wd
  v : Wd
def memD (m : Mem) : D := .tuple [wD m.w, wD m.s, wD m.v]
structure G where
  w : Wd
  s : Wd
  vs : List Wd
  ms : List Mem
  n : Bool
  y : Bool
  c : Int
def saidL (n y : Bool) : List Wd := (if n = true then [.no] else []) ++ (if y = true then [.yes] else [])
def leadD (w s : Wd) (vs : List Wd) : D := .tuple [wD w, wD s, .tuple (vs.map wD)]
def msD (ms : List Mem) : D := .tuple (ms.map memD)
def saidD (n y : Bool) : D := .tuple ((saidL n y).map wD)
def stD (g : G) : D := .tuple [leadD g.w g.s g.vs, msD g.ms, saidD g.n g.y, .int g.c]
structure Op where
  a : Bool
  b : Bool
  c : Bool
def opD (o : Op) : D := .tuple [.bool o.a, .bool o.b, .bool o.c]
def vw (yes : Bool) : Wd := if yes = true then .yes else .no
def dec (o : Op) (g : G) (yes : Bool) : G := { g with w := vw yes, s := if o.b = true then vw yes else g.s, n := g.n || !yes, y := g.y || yes }
/-- said, with a word more, by the law: sorted(set(..)) -/
theorem sort_ny : sortD [wD .no, wD .yes] = [wD .no, wD .yes] := sortD_self (by decide +kernel) (List.Perm.refl _) (by decide +kernel)
theorem sort_yn : sortD [wD .yes, wD .no] = [wD .no, wD .yes] := sortD_self (by decide +kernel) (List.Perm.swap _ _ _) (by decide +kernel)
theorem sort_n : sortD [wD .no] = [wD .no] := sortD_self (by decide +kernel) (List.Perm.refl _) (by decide +kernel)
theorem sort_y : sortD [wD .yes] = [wD .yes] := sortD_self (by decide +kernel) (List.Perm.refl _) (by decide +kernel)
theorem said_sorted (n y yes : Bool) : gSSetD (.tuple ((saidL n y).map wD ++ [wD (vw yes)])) = some (.list ((saidL (n || !yes) (y || yes)).map wD)) := by
  cases n <;> cases y <;> cases yes <;>
    simp only [saidL, vw, gSSetD, seqItems, Option.bind_some, if_true, if_false, List.map_nil, List.map_cons, List.nil_append, List.append_nil, List.cons_append, Bool.false_eq_true, Bool.not_true, Bool.not_false, Bool.or_true, Bool.or_false, Bool.true_or, Bool.false_or]
  all_goals
    rw [if_pos (by decide +kernel)]
    first
    | exact congrArg (fun z => some (PyData.list z)) sort_n
    | exact congrArg (fun z => some (PyData.list z)) sort_y
    | exact congrArg (fun z => some (PyData.list z)) sort_ny
    | exact congrArg (fun z => some (PyData.list z)) sort_yn
theorem said_sorted2 (n y yes : Bool) (h : vw yes ∉ saidL n y) : gSorted (.list ((saidL n y).map wD ++ [wD (vw yes)])) = some (.list ((saidL (n || !yes) (y || yes)).map wD)) := by
  cases n <;> cases y <;> cases yes <;> first | exact absurd (by decide) h | skip
  all_goals
    simp only [saidL, vw, gSorted, if_true, if_false, List.map_nil, List.map_cons, List.nil_append, List.append_nil, List.cons_append, Bool.false_eq_true, Bool.not_true, Bool.not_false, Bool.or_true, Bool.or_false, Bool.true_or, Bool.false_or]
    rw [if_pos (by decide +kernel)]
    first
    | exact congrArg (fun z => some (PyData.list z)) sort_n
    | exact congrArg (fun z => some (PyData.list z)) sort_y
    | exact congrArg (fun z => some (PyData.list z)) sort_ny
    | exact congrArg (fun z => some (PyData.list z)) sort_yn
theorem said_same (n y yes : Bool) (h : vw yes ∈ saidL n y) : saidL n y = saidL (n || !yes) (y || yes) := by
  cases n <;> cases y <;> cases yes <;> first | rfl | exact absurd h (by decide)
theorem said_len (n y : Bool) : (saidL n y).length ≤ 2 := by cases n <;> cases y <;> decide
theorem lit_vw : PyData.str "no" = wD (vw false) := rfl
theorem law_decided_is (o : Op) (g : G) (yes : Bool) : d__law_decided [some (.dat (opD o)), some (.dat (stD g)), some (.dat (wD (vw yes)))] = .ret (.dat (stD (dec o g yes))) [none, none, none] := by
  have h1 : gAddA (saidD g.n g.y) (.tuple [wD (vw yes)]) = some (.tuple ((saidL g.n g.y).map wD ++ [wD (vw yes)])) := gAddA_tup (by have := said_len g.n g.y; simp only [List.length_map, List.length_cons, List.length_nil]; omega)
  have h2 := said_sorted g.n g.y yes
  have h3 : gTuple [.list ((saidL (g.n || !yes) (g.y || yes)).map wD)] = some (saidD (g.n || !yes) (g.y || yes)) := rfl
  unfold d__law_decided stD opD leadD dec
  rw [ev_fnD]
  generalize (saidL g.n g.y).map wD ++ [wD (vw yes)] = L1 at *
  generalize (saidL (g.n || !yes) (g.y || yes)).map wD = L2 at *
  generalize saidD g.n g.y = S1 at *
  generalize saidD (g.n || !yes) (g.y || yes) = S2 at *
  generalize msD g.ms = M at *
  cases hb : o.b <;> simp [truth, h1, h2, h3, leadD, hb]
end K24


namespace K24
open PySem PySem.Spec L2 DL
/-! k24: the small functions -/
theorem set_parts {α : Type} {xs : List α} {i : Nat} {x : α} (h : i < xs.length) : xs.take i ++ x :: xs.drop (i + 1) = xs.set i x := (List.set_eq_take_append_cons_drop (l := xs) (i := i) (a := x)).trans (if_pos h) |>.symm
theorem put_at_is {xs : List D} {i : Nat} (x : D) (h : i < xs.length) (hl : xs.length ≤ 1000) : d_put_at [some (.dat (.tuple xs)), some (.dat (.int i)), some (.dat x)] = .ret (.dat (.tuple (xs.set i x))) [none, none, none] := by
  have h1 : cutD xs none (some (i : Int)) = xs.take i := by rw [cutD_to xs (by omega)]; rfl
  have h2 : cutD xs (some ((i : Int) + 1)) none = xs.drop (i + 1) := by rw [cutD_from xs (by omega)]; rfl
  have h3 : mkTup (xs.take i ++ x :: xs.drop (i + 1)) = some (.tuple (xs.set i x)) := by
    rw [set_parts h]
    exact if_pos (by rw [List.length_set]; show xs.length ≤ 16777216; omega)
  unfold d_put_at
  rw [ev_fnD]
  generalize hy : xs.set i x = ys at *
  generalize ha : xs.take i = as at *
  generalize hb : xs.drop (i + 1) = bs at *
  simp [h1, h2, seqItems, h3]
theorem law_put_is {xs : List D} {i : Nat} (x : D) (h : i < xs.length) (hl : xs.length ≤ 1000) : d__law_put [some (.dat (.tuple xs)), some (.dat (.int i)), some (.dat x)] = .ret (.dat (.tuple (xs.set i x))) [none, none, none] := by
  have h1 : cutD xs none (some (i : Int)) = xs.take i := by rw [cutD_to xs (by omega)]; rfl
  have h2 : cutD xs (some ((i : Int) + 1)) none = xs.drop (i + 1) := by rw [cutD_from xs (by omega)]; rfl
  have h3 : gAddA (.tuple (xs.take i)) (.tuple [x]) = some (.tuple (xs.take i ++ [x])) := gAddA_tup (by simp; omega)
  have h4 : gAddA (.tuple (xs.take i ++ [x])) (.tuple (xs.drop (i + 1))) = some (.tuple (xs.set i x)) := by
    rw [gAddA_tup (by simp; omega), List.append_assoc, List.singleton_append, set_parts h]
  unfold d__law_put
  rw [ev_fnD]
  generalize hy : xs.set i x = ys at *
  generalize hc : xs.take i ++ [x] = cs at *
  generalize ha : xs.take i = as at *
  generalize hb : xs.drop (i + 1) = bs at *
  simp [h1, h2, h3, h4]
theorem decided_is (o : Op) (g : G) (yes : Bool) : d_decided [some (.dat (opD o)), some (.dat (stD g)), some (.dat (wD (vw yes)))] = .ret (.dat (stD (dec o g yes))) [none, none, none] := by
  have hin : gInC false (wD (vw yes)) (saidD g.n g.y) = some (.bool (decide (vw yes ∈ saidL g.n g.y))) := in_wt false _ _
  have hs : ∀ e : D, seqItems (saidD g.n g.y) = some ((saidL g.n g.y).map wD) := fun _ => rfl
  by_cases hm : vw yes ∈ saidL g.n g.y
  · rw [decide_eq_true hm] at hin
    have e : saidD (g.n || !yes) (g.y || yes) = saidD g.n g.y := by unfold saidD; rw [← said_same _ _ _ hm]
    unfold d_decided stD opD leadD dec
    rw [ev_fnD]
    simp only [e]
    generalize saidD g.n g.y = S1 at *
    generalize msD g.ms = M at *
    cases hb : o.b <;> simp [truth, hin, leadD, hb, gTupD, gsCons, gsNil]
  · rw [decide_eq_false hm] at hin
    have h2 := said_sorted2 g.n g.y yes hm
    have h3 : gTuple [.list ((saidL (g.n || !yes) (g.y || yes)).map wD)] = some (saidD (g.n || !yes) (g.y || yes)) := rfl
    have h4 : mkLst ((saidL g.n g.y).map wD ++ [wD (vw yes)]) = some (.list ((saidL g.n g.y).map wD ++ [wD (vw yes)])) := if_pos (by have := said_len g.n g.y; simp only [List.length_map, List.length_append, List.length_cons, List.length_nil]; show _ ≤ 16777216; omega)
    have hs := hs .none
    unfold d_decided stD opD leadD dec
    rw [ev_fnD]
    dsimp only
    generalize hL1 : (saidL g.n g.y).map wD ++ [wD (vw yes)] = L1 at *
    generalize (saidL g.n g.y).map wD = L0 at *
    generalize (saidL (g.n || !yes) (g.y || yes)).map wD = L2 at *
    generalize saidD g.n g.y = S1 at *
    generalize saidD (g.n || !yes) (g.y || yes) = S2 at *
    generalize msD g.ms = M at *
    cases hb : o.b <;> simp [truth, hin, hs, hL1, h2, h3, h4, leadD, hb, gTupD, gsCons, gsNil]
def firstG (n : Nat) (c : Int) : G := ⟨.e, .e, List.replicate n .e, List.replicate n ⟨.e, .e, .e⟩, false, false, c⟩
theorem first_is {n : Nat} (hn : n ≤ 4) (c : Int) : d_first_group [some (.dat (.int n)), some (.dat (.int c))] = .ret (.dat (stD (firstG n c))) [none, none] := by
  have h1 : gMulB (.tuple [wD .e]) (.int n) = some (.tuple (List.replicate n (wD .e))) := gMulB_one (by omega)
  have h2 : gMulB (.tuple [memD ⟨.e, .e, .e⟩]) (.int n) = some (.tuple (List.replicate n (memD ⟨.e, .e, .e⟩))) := gMulB_one (by omega)
  unfold d_first_group stD leadD msD saidD firstG
  rw [ev_fnD]
  rw [List.map_replicate, List.map_replicate]
  generalize List.replicate n (wD .e) = L1 at *
  generalize List.replicate n (memD ⟨.e, .e, .e⟩) = L2 at *
  unfold memD at h2
  simp [lit_e, h1, h2, saidL]
theorem law_first_is {n : Nat} (hn : n ≤ 4) (c : Int) : d__law_first [some (.dat (.int n)), some (.dat (.int c))] = .ret (.dat (stD (firstG n c))) [none, none] := first_is hn c
/-! split, ended -/
theorem words_lc {ρ : DL.Env} {β : Type} {g : β → D} {f : β → D} {vs : List Nat} {γ : DenG} {φ : Den Rv} {bs : List β} (h : ∀ b ∈ bs, ∃ ρ1, lcTurn γ xYes φ (g b) ρ = .ok (some (f b)) ρ1 ∧ wipeE ρ1 vs = ρ) : lcD vs γ xYes φ (bs.map g) ρ = .ok (bs.map f) ρ := lcD_gen h
def ws (g : G) : List Wd := g.ms.map (·.w)
def splitB (g : G) : Bool := decide (Wd.done ∈ ws g) && decide (Wd.lost ∈ ws g)
def endedB (g : G) : Bool := (ws g).all fun w => decide (w = .done ∨ w = .lost)
theorem law_split_is (g : G) (hl : g.ms.length ≤ 4) : d__law_is_split [some (.dat (stD g))] = .ret (.dat (.bool (splitB g))) [none] := by
  have h1 : lcD [2] (gSet 2) xYes (xOp gIx (xName 2) (xC (.int 0))) (g.ms.map memD) [some (.dat (stD g)), none, none] = .ok ((ws g).map wD) [some (.dat (stD g)), none, none] := by
    unfold ws
    rw [List.map_map]
    refine lcD_gen (g := memD) (f := fun m => wD m.w) fun m _ => ⟨[some (.dat (stD g)), none, some (.dat (memD m))], ?_, by simp [wipeE]⟩
    unfold memD
    simp [lcTurn]
  have h2 := in_wl false .done (ws g)
  have h3 := in_wl false .lost (ws g)
  have h4 : (g.ms.map memD).length ≤ 16777216 := by rw [List.length_map]; omega
  have e : splitB g = (decide (Wd.done ∈ ws g) && decide (Wd.lost ∈ ws g)) := rfl
  rw [e]
  unfold d__law_is_split
  rw [ev_fnD]
  generalize (ws g).map wD = L at *
  unfold stD msD at *
  generalize g.ms.map memD = M at *
  by_cases q : Wd.done ∈ ws g
  · rw [decide_eq_true q] at h2 ⊢
    simp [lit_done, lit_lost, h1, h2, h3, h4, wipeE, unwipe, datOnly]
  · rw [decide_eq_false q] at h2 ⊢
    simp [lit_done, lit_lost, h1, h2, h3, h4, wipeE, unwipe, datOnly]
theorem split_is (g : G) (hl : g.ms.length ≤ 4) : d_is_split [some (.dat (stD g))] = .ret (.dat (.bool (splitB g))) [none] := by
  have h1 : lcD [2, 3, 4] (gTupD 3 (gsCons (gSet 2) (gsCons (gSet 3) (gsCons (gSet 4) (gsNil))))) xYes (xName 2) (g.ms.map memD) [some (.dat (stD g)), none, none, none, none] = .ok ((ws g).map wD) [some (.dat (stD g)), none, none, none, none] := by
    unfold ws
    rw [List.map_map]
    refine lcD_gen (g := memD) (f := fun m => wD m.w) fun m _ => ⟨[some (.dat (stD g)), none, some (.dat (wD m.w)), some (.dat (wD m.s)), some (.dat (wD m.v))], ?_, by simp [wipeE]⟩
    unfold memD
    simp [lcTurn, gTupD, gsCons, gsNil]
  have h2 := in_wl false .done (ws g)
  have h3 := in_wl false .lost (ws g)
  have h4 : (g.ms.map memD).length ≤ 16777216 := by rw [List.length_map]; omega
  have e : splitB g = (decide (Wd.done ∈ ws g) && decide (Wd.lost ∈ ws g)) := rfl
  rw [e]
  unfold d_is_split
  rw [ev_fnD]
  generalize (ws g).map wD = L at *
  unfold stD msD at *
  generalize g.ms.map memD = M at *
  by_cases q : Wd.done ∈ ws g
  · rw [decide_eq_true q] at h2 ⊢
    simp [c_DONE, c_LOST, lit_done, lit_lost, h1, h2, h3, h4, wipeE, unwipe, datOnly]
  · rw [decide_eq_false q] at h2 ⊢
    simp [c_DONE, c_LOST, lit_done, lit_lost, h1, h2, h3, h4, wipeE, unwipe, datOnly]
theorem ended_is (g : G) (hl : g.ms.length ≤ 4) : d_are_all_ended [some (.dat (stD g))] = .ret (.dat (.bool (endedB g))) [none] := by
  have h1 : lcD [1, 2, 3] (gTupD 3 (gsCons (gSet 1) (gsCons (gSet 2) (gsCons (gSet 3) (gsNil))))) xYes p_are_all_ended_1 (g.ms.map memD) [some (.dat (stD g)), none, none, none] = .ok ((g.ms.map fun m => decide (m.w = .done ∨ m.w = .lost)).map .bool) [some (.dat (stD g)), none, none, none] := by
    rw [List.map_map]
    refine lcD_gen (g := memD) (f := fun m => .bool (decide (m.w = .done ∨ m.w = .lost))) fun m _ => ⟨[some (.dat (stD g)), some (.dat (wD m.w)), some (.dat (wD m.s)), some (.dat (wD m.v))], ?_, by simp [wipeE]⟩
    have h := in_wt false m.w [.done, .lost]
    have hd : decide (m.w ∈ [Wd.done, Wd.lost]) = decide (m.w = .done ∨ m.w = .lost) := by simp
    rw [hd] at h
    simp only [List.map_cons, List.map_nil] at h
    unfold p_are_all_ended_1 memD
    simp [lcTurn, gTupD, gsCons, gsNil, c_DONE, c_LOST, lit_done, lit_lost, h]
  have h2 : gAll [.list ((g.ms.map fun m => decide (m.w = .done ∨ m.w = .lost)).map .bool)] = some (.bool (endedB g)) := by
    rw [gAll_bools]
    unfold endedB ws
    rw [List.all_map, List.all_map]
    rfl
  have h4 : (g.ms.map memD).length ≤ 16777216 := by rw [List.length_map]; omega
  unfold d_are_all_ended
  rw [ev_fnD]
  generalize (g.ms.map fun m => decide (m.w = .done ∨ m.w = .lost)).map PyData.bool = L at *
  unfold stD msD at *
  generalize g.ms.map memD = M at *
  simp [h1, h2, h4, wipeE, unwipe, datOnly]
end K24


namespace K24
open PySem PySem.Spec L2 DL
/-! k24: the leader's steps -/
def pairD (p : D × G) : D := .tuple [p.1, stD p.2]
def sNo : D := .tuple [wD .no]
def sYes : D := .tuple [wD .yes]
def sHold : D := .tuple [.str "hold"]
def sCrash : D := .tuple [.str "crash"]
def sHear (i : Nat) : D := .tuple [.str "hear", .int i]
def numL {α : Type} (ms : List α) : List (Nat × α) := ms.zipIdx.map fun p => (p.2, p.1)
def numD (p : Nat × Mem) : D := .tuple [.int p.1, memD p.2]
theorem enum_ms (ms : List Mem) : gEnum1 [msD ms] = some ((numL ms).map numD) := by
  show some ((enumL 0 (ms.map memD)).map PyData.tuple) = _
  congr 1
  apply List.ext_getElem
  · simp [enumL, numL]
  · intro i h1 h2
    simp [enumL, numL, numD]
theorem mem_num {α : Type} {ms : List α} {p : Nat × α} (h : p ∈ numL ms) : ms[p.1]? = some p.2 := by
  obtain ⟨q, h1, rfl⟩ := List.mem_map.mp h
  exact List.mk_mem_zipIdx_iff_getElem?.mp (by simpa using h1)
theorem len_num {α : Type} (ms : List α) : (numL ms).length = ms.length := by simp [numL]
def hearB (g : G) (p : Nat × Mem) : Bool := !decide (p.2.v = .e) && !decide (some p.2.v = g.vs[p.1]?)
def hearF (g : G) (p : Nat × Mem) : List (D × G) := if hearB g p = true then [(sHear p.1, { g with vs := g.vs.set p.1 p.2.v })] else []
def crashT (g : G) : G := { g with w := g.s, s := g.s, vs := List.replicate g.vs.length .e, c := g.c - 1 }
def crashG (o : Op) (g : G) : G := if g.s = .e ∧ o.c = true then dec o (crashT g) false else crashT g
def yesL (o : Op) (g : G) : List (D × G) := if g.vs.all (fun v => decide (v = .yes)) = true then [(sYes, dec o g true)] else []
def openL (o : Op) (g : G) : List (D × G) := [(sNo, dec o g false)] ++ yesL o g ++ (numL g.ms).flatMap (hearF g)
def holdL (g : G) : List (D × G) := if g.s = g.w then [] else [(sHold, { g with s := g.w })]
def crashL (o : Op) (g : G) : List (D × G) := if 0 < g.c then [(sCrash, crashG o g)] else []
def leadL (o : Op) (g : G) : List (D × G) := (if g.w = .e then openL o g else holdL g) ++ crashL o g
structure Ok (g : G) : Prop where
  vl : g.vs.length = g.ms.length
  ml : g.ms.length ≤ 4
theorem hear_len (g : G) (l : List (Nat × Mem)) : (l.flatMap (hearF g)).length ≤ l.length := by
  induction l with
  | nil => simp
  | cons p l ih =>
    rw [List.flatMap_cons, List.length_append, List.length_cons]
    have : (hearF g p).length ≤ 1 := by unfold hearF; split <;> simp
    omega
/-- the two loops' env -/
def e14 (o : Op) (g : G) (acc : List (D × G)) (c9 c10 c11 c12 c13 : Option Cell) : DL.Env := [some (.dat (opD o)), some (.dat (stD g)), some (.dat (wD g.w)), some (.dat (wD g.s)), some (.dat (.tuple (g.vs.map wD))), some (.dat (msD g.ms)), some (.dat (saidD g.n g.y)), some (.dat (.int g.c)), some (.own true (.list (acc.map pairD))), c9, c10, c11, c12, c13]
def e13 (o : Op) (g : G) (acc : List (D × G)) (c9 c10 c11 c12 : Option Cell) : DL.Env := [some (.dat (opD o)), some (.dat (stD g)), some (.dat (wD g.w)), some (.dat (wD g.s)), some (.dat (.tuple (g.vs.map wD))), some (.dat (msD g.ms)), some (.dat (saidD g.n g.y)), some (.dat (.int g.c)), some (.own true (.list (acc.map pairD))), c9, c10, c11, c12]
theorem vote_at {g : G} {i : Nat} {v : Wd} (h : g.vs[i]? = some v) : L2.atI (g.vs.map wD) (i : Int) = some (wD v) := by
  rw [atI_pos _ (by omega)]
  simp [h]
theorem law_hear {o : Op} {g : G} (k : Ok g) {p : Nat × Mem} (hp : p ∈ numL g.ms) {acc : List (D × G)} (ha : acc.length + (hearF g p).length ≤ 1000) {c9 c10 c11 : Option Cell} (h9 : Cl c9) (h10 : Cl c10) (h11 : Cl c11) :
    ∃ ρ1 y11, Cl y11 ∧ gTupD 2 (gsCons (gSet 9) (gsCons (gSet 10) gsNil)) (numD p) (e14 o g acc c9 c10 c11 none none) = some ρ1 ∧ p__law_leader_steps_1 ρ1 = .next (e14 o g (acc ++ hearF g p) (some (.dat (.int p.1))) (some (.dat (memD p.2))) y11 none none) := by
  have hm := mem_num hp
  have hlt : p.1 < g.vs.length := by rw [k.vl]; exact (List.getElem?_eq_some_iff.mp hm).1
  have hv : g.vs[p.1]? = some g.vs[p.1] := List.getElem?_eq_getElem hlt
  have at1 := vote_at hv
  have hput := law_put_is (xs := g.vs.map wD) (i := p.1) (wD p.2.v) (by simpa using hlt) (by have := k.ml; have := k.vl; simp; omega)
  have hset : (g.vs.map wD).set p.1 (wD p.2.v) = (g.vs.set p.1 p.2.v).map wD := by rw [List.map_set]
  rw [hset] at hput
  obtain ⟨i, m⟩ := p
  dsimp only at *
  have ea : ∀ d, oAppend (acc.map pairD) [d] = some (acc.map pairD ++ [d], .none) := fun d => oAppend_ok (by rw [List.length_map]; omega)
  by_cases q1 : m.v = .e
  · have hF : hearF g (i, m) = [] := by simp [hearF, hearB, q1]
    refine ⟨e14 o g acc (some (.dat (.int i))) (some (.dat (memD m))) c11 none none, c11, h11, by simp [e14, numD, gTupD, gsCons, gsNil, h9.cs, h10.cs], ?_⟩
    rw [hF, List.append_nil]
    unfold e14 p__law_leader_steps_1 memD
    generalize acc.map pairD = A at *
    simp [lit_e, q1]
  · by_cases q2 : m.v = g.vs[i]
    · have hF : hearF g (i, m) = [] := by simp [hearF, hearB, hv, ← q2]
      refine ⟨e14 o g acc (some (.dat (.int i))) (some (.dat (memD m))) c11 none none, c11, h11, by simp [e14, numD, gTupD, gsCons, gsNil, h9.cs, h10.cs], ?_⟩
      rw [hF, List.append_nil]
      rw [← q2] at at1
      unfold e14 p__law_leader_steps_1 memD
      generalize acc.map pairD = A at *
      generalize g.vs.map wD = V at *
      simp [lit_e, q1, at1]
    · have hF : hearF g (i, m) = [(sHear i, { g with vs := g.vs.set i m.v })] := by simp [hearF, hearB, q1, hv, q2]
      have hD : acc.map pairD ++ [.tuple [.tuple [.str "hear", .int i], .tuple [.tuple [wD g.w, wD g.s, .tuple ((g.vs.set i m.v).map wD)], msD g.ms, saidD g.n g.y, .int g.c]]] = (acc ++ [(sHear i, { g with vs := g.vs.set i m.v })]).map pairD := by
        rw [List.map_append]
        rfl
      refine ⟨e14 o g acc (some (.dat (.int i))) (some (.dat (memD m))) c11 none none, some (.dat (.tuple [wD g.w, wD g.s, .tuple ((g.vs.set i m.v).map wD)])), .dat _, by simp [e14, numD, gTupD, gsCons, gsNil, h9.cs, h10.cs], ?_⟩
      rw [hF]
      unfold e14 p__law_leader_steps_1 memD
      rw [← hD]
      generalize acc.map pairD = A at *
      generalize (g.vs.set i m.v).map wD = V2 at *
      generalize g.vs.map wD = V at *
      simp [lit_e, q1, q2, at1, hput, ea, h11.cs]
theorem hear_is {o : Op} {g : G} (k : Ok g) {p : Nat × Mem} (hp : p ∈ numL g.ms) {acc : List (D × G)} (ha : acc.length + (hearF g p).length ≤ 1000) {c9 c10 : Option Cell} (h9 : Cl c9) (h10 : Cl c10) :
    ∃ ρ1, gTupD 2 (gsCons (gSet 9) (gsCons (gSet 10) gsNil)) (numD p) (e13 o g acc c9 c10 none none) = some ρ1 ∧ p_leader_steps_1 ρ1 = .next (e13 o g (acc ++ hearF g p) (some (.dat (.int p.1))) (some (.dat (memD p.2))) none none) := by
  have hm := mem_num hp
  have hlt : p.1 < g.vs.length := by rw [k.vl]; exact (List.getElem?_eq_some_iff.mp hm).1
  have hv : g.vs[p.1]? = some g.vs[p.1] := List.getElem?_eq_getElem hlt
  have at1 := vote_at hv
  have hput := put_at_is (xs := g.vs.map wD) (i := p.1) (wD p.2.v) (by simpa using hlt) (by have := k.ml; have := k.vl; simp; omega)
  have hset : (g.vs.map wD).set p.1 (wD p.2.v) = (g.vs.set p.1 p.2.v).map wD := by rw [List.map_set]
  rw [hset] at hput
  have hin := in_wt true p.2.v [.e, g.vs[p.1]]
  simp only [List.map_cons, List.map_nil] at hin
  have hb : (!decide (p.2.v ∈ [Wd.e, g.vs[p.1]])) = hearB g p := by
    unfold hearB
    rw [hv]
    by_cases q1 : p.2.v = .e <;> by_cases q2 : p.2.v = g.vs[p.1] <;> simp [q1, q2]
  simp only [if_true] at hin
  rw [hb] at hin
  obtain ⟨i, m⟩ := p
  dsimp only at *
  have ea : ∀ d, oAppend (acc.map pairD) [d] = some (acc.map pairD ++ [d], .none) := fun d => oAppend_ok (by rw [List.length_map]; omega)
  refine ⟨e13 o g acc (some (.dat (.int i))) (some (.dat (memD m))) none none, by simp [e13, numD, gTupD, gsCons, gsNil, h9.cs, h10.cs], ?_⟩
  cases q : hearB g (i, m) with
  | false =>
    have hF : hearF g (i, m) = [] := by simp [hearF, q]
    rw [q] at hin
    rw [hF, List.append_nil]
    unfold e13 p_leader_steps_1 memD
    generalize acc.map pairD = A at *
    generalize g.vs.map wD = V at *
    simp [lit_e, at1, hin]
  | true =>
    have hF : hearF g (i, m) = [(sHear i, { g with vs := g.vs.set i m.v })] := by simp [hearF, q]
    have hD : acc.map pairD ++ [.tuple [.tuple [.str "hear", .int i], .tuple [.tuple [wD g.w, wD g.s, .tuple ((g.vs.set i m.v).map wD)], msD g.ms, saidD g.n g.y, .int g.c]]] = (acc ++ [(sHear i, { g with vs := g.vs.set i m.v })]).map pairD := by
      rw [List.map_append]
      rfl
    rw [q] at hin
    rw [hF]
    unfold e13 p_leader_steps_1 memD
    rw [← hD]
    generalize acc.map pairD = A at *
    generalize (g.vs.set i m.v).map wD = V2 at *
    generalize g.vs.map wD = V at *
    simp [lit_e, at1, hin, hput, ea]
end K24


namespace K24
open PySem PySem.Spec L2 DL
/-! k24: the leader's steps, both -/
theorem law_loop {o : Op} {g : G} (k : Ok g) {acc : List (D × G)} (ha : acc.length ≤ 10) : ∃ c9 c10 c11, Cl c9 ∧ Cl c10 ∧ Cl c11 ∧
    forD (gTupD 2 (gsCons (gSet 9) (gsCons (gSet 10) gsNil))) p__law_leader_steps_1 ((numL g.ms).map numD) (e14 o g acc none none none none none) = .next (e14 o g (acc ++ (numL g.ms).flatMap (hearF g)) c9 c10 c11 none none) := by
  obtain ⟨ρ', h1, c9, c10, c11, rfl, h9, h10, h11⟩ := forD_col (γ := gTupD 2 (gsCons (gSet 9) (gsCons (gSet 10) gsNil))) (ψ := p__law_leader_steps_1) (g := numD) (f := hearF g) (E := fun acc ρ => ∃ c9 c10 c11, ρ = e14 o g acc c9 c10 c11 none none ∧ Cl c9 ∧ Cl c10 ∧ Cl c11)
    (bs := numL g.ms) (acc := acc) (ρ := e14 o g acc none none none none none) (N := 1000) ⟨none, none, none, rfl, .none, .none, .none⟩ (by have := hear_len g (numL g.ms); have := len_num g.ms; have := k.ml; omega)
    (by
      rintro p hp acc ρ ⟨c9, c10, c11, rfl, h9, h10, h11⟩ hN
      obtain ⟨ρ1, y11, hy, e1, e2⟩ := law_hear k (o := o) hp hN h9 h10 h11
      exact ⟨ρ1, _, e1, .inl e2, _, _, _, rfl, .dat _, .dat _, hy⟩)
  exact ⟨c9, c10, c11, h9, h10, h11, h1⟩
theorem loop_is {o : Op} {g : G} (k : Ok g) {acc : List (D × G)} (ha : acc.length ≤ 10) : ∃ c9 c10, Cl c9 ∧ Cl c10 ∧
    forD (gTupD 2 (gsCons (gSet 9) (gsCons (gSet 10) gsNil))) p_leader_steps_1 ((numL g.ms).map numD) (e13 o g acc none none none none) = .next (e13 o g (acc ++ (numL g.ms).flatMap (hearF g)) c9 c10 none none) := by
  obtain ⟨ρ', h1, c9, c10, rfl, h9, h10⟩ := forD_col (γ := gTupD 2 (gsCons (gSet 9) (gsCons (gSet 10) gsNil))) (ψ := p_leader_steps_1) (g := numD) (f := hearF g) (E := fun acc ρ => ∃ c9 c10, ρ = e13 o g acc c9 c10 none none ∧ Cl c9 ∧ Cl c10)
    (bs := numL g.ms) (acc := acc) (ρ := e13 o g acc none none none none) (N := 1000) ⟨none, none, rfl, .none, .none⟩ (by have := hear_len g (numL g.ms); have := len_num g.ms; have := k.ml; omega)
    (by
      rintro p hp acc ρ ⟨c9, c10, rfl, h9, h10⟩ hN
      obtain ⟨ρ1, e1, e2⟩ := hear_is k (o := o) hp hN h9 h10
      exact ⟨ρ1, _, e1, .inl e2, _, _, rfl, .dat _, .dat _⟩)
  exact ⟨c9, c10, h9, h10, h1⟩
/-- what stands behind the first part -/
def law_rest : DenS :=
    ySeq (yIf (xAnd (xTest (xOp gNeA (xName 2) (xC (.str "")))) (xTest (xOp gNeA (xName 3) (xName 2)))) (yExpr (xMut 8 oAppend (xCons (xTup (xCons (xTup (xCons (xC (.str "hold")) (xNil))) (xCons (xTup (xCons (xTup (xCons (xName 2) (xCons (xName 2) (xCons (xName 4) (xNil))))) (xCons (xName 5) (xCons (xName 6) (xCons (xName 7) (xNil)))))) (xNil)))) (xNil)))) (yNext))
    (ySeq (yIf (xTest (xOp gGt (xName 7) (xC (.int 0)))) (ySeq (ySet (gSet 12) (xTup (xCons (xTup (xCons (xName 3) (xCons (xName 3) (xCons (xOp gMulB (xTup (xCons (xC (.str "")) (xNil))) (xCall (lk gLen) (xCons (xName 4) (xNil)))) (xNil))))) (xCons (xName 5) (xCons (xName 6) (xCons (xOp gSub (xName 7) (xC (.int 1))) (xNil)))))))
    (ySeq (ySet (gSet 12) (xIf (xAnd (xTest (xOp gEqA (xName 3) (xC (.str "")))) (xTruth (xOp gIx (xName 0) (xC (.int 2))))) (xFn 3 d__law_decided (xCons (xName 0) (xCons (xName 12) (xCons (xC (.str "no")) (xNil))))) (xName 12)))
    (yExpr (xMut 8 oAppend (xCons (xTup (xCons (xTup (xCons (xC (.str "crash")) (xNil))) (xCons (xName 12) (xNil)))) (xNil)))))) (yNext))
    (yRetOwn 8))
theorem law_rest_is {o : Op} {g : G} (k : Ok g) {acc : List (D × G)} (ha : acc.length ≤ 100) {c9 c10 c11 : Option Cell} : ∃ ρ, law_rest (e14 o g acc c9 c10 c11 none none) = .ret (.own (.list ((acc ++ (if g.w = .e then [] else holdL g) ++ crashL o g).map pairD))) ρ ∧ ∃ r, ρ = some (.dat (opD o)) :: some (.dat (stD g)) :: r := by
  have hrep : gMulB (.tuple [wD .e]) (.int (g.vs.map wD).length) = some (.tuple (List.replicate g.vs.length (wD .e))) := by
    rw [List.length_map, gMulB_one (by have := k.ml; have := k.vl; omega)]
    rfl
  have hdec : d__law_decided [some (.dat (opD o)), some (.dat (.tuple [.tuple [wD g.s, wD g.s, .tuple (List.replicate g.vs.length (wD .e))], msD g.ms, saidD g.n g.y, .int (g.c - 1)])), some (.dat (wD .no))] = .ret (.dat (stD (dec o (crashT g) false))) [none, none, none] := by
    have := law_decided_is o (crashT g) false
    unfold stD leadD crashT at this ⊢
    simp only [List.map_replicate] at this
    exact this
  have hT : stD (crashT g) = .tuple [.tuple [wD g.s, wD g.s, .tuple (List.replicate g.vs.length (wD .e))], msD g.ms, saidD g.n g.y, .int (g.c - 1)] := by
    unfold stD leadD crashT
    simp only [List.map_replicate]
  have eap : ∀ (l : List D) d, l.length ≤ 102 → oAppend l [d] = some (l ++ [d], .none) := fun l d h => oAppend_ok (by omega)
  have el : (g.vs.map wD).length = g.vs.length := by simp
  -- what is held
  obtain ⟨acc1, hacc1, hl1, h1⟩ : ∃ acc1, acc1 = acc ++ (if g.w = .e then [] else holdL g) ∧ acc1.length ≤ 101 ∧ law_rest (e14 o g acc c9 c10 c11 none none) = (ySeq (yIf (xTest (xOp gGt (xName 7) (xC (.int 0)))) (ySeq (ySet (gSet 12) (xTup (xCons (xTup (xCons (xName 3) (xCons (xName 3) (xCons (xOp gMulB (xTup (xCons (xC (.str "")) (xNil))) (xCall (lk gLen) (xCons (xName 4) (xNil)))) (xNil))))) (xCons (xName 5) (xCons (xName 6) (xCons (xOp gSub (xName 7) (xC (.int 1))) (xNil)))))))
    (ySeq (ySet (gSet 12) (xIf (xAnd (xTest (xOp gEqA (xName 3) (xC (.str "")))) (xTruth (xOp gIx (xName 0) (xC (.int 2))))) (xFn 3 d__law_decided (xCons (xName 0) (xCons (xName 12) (xCons (xC (.str "no")) (xNil))))) (xName 12)))
    (yExpr (xMut 8 oAppend (xCons (xTup (xCons (xTup (xCons (xC (.str "crash")) (xNil))) (xCons (xName 12) (xNil)))) (xNil)))))) (yNext))
    (yRetOwn 8)) (e14 o g acc1 c9 c10 c11 none none) := by
    refine ⟨_, rfl, ?_, ?_⟩
    · rw [List.length_append]
      split
      · simp; omega
      · unfold holdL; split <;> simp <;> omega
    · have ea := eap (acc.map pairD) (.tuple [.tuple [.str "hold"], .tuple [.tuple [wD g.w, wD g.w, .tuple (g.vs.map wD)], msD g.ms, saidD g.n g.y, .int g.c]]) (by rw [List.length_map]; omega)
      have hD : acc.map pairD ++ [.tuple [.tuple [.str "hold"], .tuple [.tuple [wD g.w, wD g.w, .tuple (g.vs.map wD)], msD g.ms, saidD g.n g.y, .int g.c]]] = (acc ++ [(sHold, { g with s := g.w })]).map pairD := by
        rw [List.map_append]; rfl
      unfold law_rest
      rw [ev_seq]
      by_cases hw : g.w = .e
      · rw [if_pos hw, List.append_nil]
        unfold e14
        simp only [hw]
        generalize acc.map pairD = A at *
        simp [lit_e]
      · rw [if_neg hw]
        by_cases hs : g.s = g.w
        · have hh : holdL g = [] := if_pos hs
          rw [hh, List.append_nil]
          unfold e14
          simp only [hs]
          generalize acc.map pairD = A at *
          simp [lit_e, hw]
        · have hh : holdL g = [(sHold, { g with s := g.w })] := if_neg hs
          rw [hh]
          unfold e14
          rw [← hD]
          generalize acc.map pairD = A at *
          generalize g.vs.map wD = V at *
          generalize msD g.ms = M at *
          generalize saidD g.n g.y = S at *
          simp [lit_e, hw, hs, ea]
  rw [← hacc1, h1]
  clear h1
  have ea := fun d => eap (acc1.map pairD) d (by rw [List.length_map]; omega)
  by_cases hc : 0 < g.c
  · have hcl : crashL o g = [(sCrash, crashG o g)] := if_pos hc
    have hD : acc1.map pairD ++ [.tuple [.tuple [.str "crash"], stD (crashG o g)]] = (acc1 ++ crashL o g).map pairD := by
      rw [List.map_append, hcl]; rfl
    by_cases hq : g.s = .e ∧ o.c = true
    · have hG : crashG o g = dec o (crashT g) false := if_pos hq
      rw [hG] at hD
      obtain ⟨q1, q2⟩ := hq
      unfold e14
      rw [← hD]
      simp only [q1] at *
      generalize acc1.map pairD = A at *
      generalize stD (dec o (crashT g) false) = S3 at *
      generalize stD g = S0 at *
      generalize List.replicate g.vs.length (wD .e) = R at *
      generalize g.vs.map wD = V at *
      generalize msD g.ms = M at *
      generalize saidD g.n g.y = S at *
      unfold opD at *
      simp only [q2] at *
      refine ⟨_, by simp [lit_e, lit_no, hc, hrep, truth, hdec, ea]; rfl, _, rfl⟩
    · have hG : crashG o g = crashT g := if_neg hq
      rw [hG, hT] at hD
      unfold e14
      rw [← hD]
      generalize acc1.map pairD = A at *
      generalize stD g = S0 at *
      generalize List.replicate g.vs.length (wD .e) = R at *
      generalize g.vs.map wD = V at *
      generalize msD g.ms = M at *
      generalize saidD g.n g.y = S at *
      unfold opD at *
      by_cases q1 : g.s = .e
      · have q2 : o.c = false := by
          cases h : o.c with
          | false => rfl
          | true => exact absurd ⟨q1, h⟩ hq
        simp only [q1, q2] at *
        refine ⟨_, by simp [lit_e, lit_no, hc, hrep, truth, ea]; rfl, _, rfl⟩
      · refine ⟨_, by simp [lit_e, lit_no, hc, hrep, truth, ea, q1]; rfl, _, rfl⟩
  · have hcl : crashL o g = [] := if_neg hc
    rw [hcl, List.append_nil]
    unfold e14
    generalize acc1.map pairD = A at *
    refine ⟨_, by simp [hc]; rfl, _, rfl⟩
end K24


namespace K24
open PySem PySem.Spec L2 DL
theorem sh_w (a : Wd) : Sh 0 (wD a) := by cases a <;> exact ⟨by decide +kernel, by decide +kernel⟩
theorem sh_ws (l : List Wd) : Sh 1 (.list (l.map wD)) := Sh.list fun d h => by
  obtain ⟨a, _, rfl⟩ := List.mem_map.mp h
  exact sh_w a
def law_open : DenS := ySeq (yExpr (xMut 8 oAppend (xCons (xTup (xCons (xTup (xCons (xC (.str "no")) (xNil))) (xCons (xFn 3 d__law_decided (xCons (xName 0) (xCons (xName 1) (xCons (xC (.str "no")) (xNil))))) (xNil)))) (xNil))))
    (ySeq (yIf (xTest (xOp gEqA (xNew (xLc (xItems (xName 4)) [13] (gSet 13) (xTest (xOp gNeA (xName 13) (xC (.str "yes")))) (xName 13))) (xNew (xLst (xNil))))) (yExpr (xMut 8 oAppend (xCons (xTup (xCons (xTup (xCons (xC (.str "yes")) (xNil))) (xCons (xFn 3 d__law_decided (xCons (xName 0) (xCons (xName 1) (xCons (xC (.str "yes")) (xNil))))) (xNil)))) (xNil)))) (yNext))
    (yFor (xWalk gEnum1 (xCons (xName 5) (xNil))) (gTupD 2 (gsCons (gSet 9) (gsCons (gSet 10) (gsNil)))) (p__law_leader_steps_1)))
theorem law_open_is {o : Op} {g : G} (k : Ok g) : ∃ c9 c10 c11, Cl c9 ∧ Cl c10 ∧ Cl c11 ∧ law_open (e14 o g [] none none none none none) = .next (e14 o g (openL o g) c9 c10 c11 none none) := by
  obtain ⟨c9, c10, c11, h9, h10, h11, hloop⟩ := law_loop k (o := o) (acc := [(sNo, dec o g false)] ++ yesL o g) (by unfold yesL; split <;> simp)
  refine ⟨c9, c10, c11, h9, h10, h11, ?_⟩
  have hd1 : d__law_decided [some (.dat (opD o)), some (.dat (stD g)), some (.dat (wD .no))] = .ret (.dat (stD (dec o g false))) [none, none, none] := law_decided_is o g false
  have hd2 : d__law_decided [some (.dat (opD o)), some (.dat (stD g)), some (.dat (wD .yes))] = .ret (.dat (stD (dec o g true))) [none, none, none] := law_decided_is o g true
  have ea1 : oAppend [] [.tuple [.tuple [wD .no], stD (dec o g false)]] = some ([pairD (sNo, dec o g false)], .none) := oAppend_ok (by decide)
  have ea2 : oAppend [pairD (sNo, dec o g false)] [.tuple [.tuple [wD .yes], stD (dec o g true)]] = some ([pairD (sNo, dec o g false)] ++ [pairD (sYes, dec o g true)], .none) := oAppend_ok (by simp)
  have hen := enum_ms g.ms
  have hlc : lcD [13] (gSet 13) (xTest (xOp gNeA (xName 13) (xC (.str "yes")))) (xName 13) (g.vs.map wD) (e14 o g [(sNo, dec o g false)] none none none none none) = .ok ((g.vs.filter fun v => !decide (v = .yes)).map wD) (e14 o g [(sNo, dec o g false)] none none none none none) := by
    refine lcD_filter (g := wD) (f := wD) (P := fun v => !decide (v = .yes)) fun v _ => ⟨(e14 o g [(sNo, dec o g false)] none none none none none).set 13 (some (.dat (wD v))), ?_, by simp [wipeE, e14]⟩
    by_cases q : v = .yes <;> simp [lcTurn, e14, lit_yes, q]
  have heq := eqA_nil (sh_ws (g.vs.filter fun v => !decide (v = .yes))) (by decide)
  have hz : (g.vs.map wD).length ≤ 16777216 := by rw [List.length_map]; have := k.ml; have := k.vl; omega
  have hall : ((g.vs.filter fun v => !decide (v = .yes)).map wD).isEmpty = g.vs.all fun v => decide (v = .yes) := by
    rw [List.isEmpty_map, Bool.eq_iff_iff, List.isEmpty_iff, List.filter_eq_nil_iff, List.all_eq_true]
    simp
  rw [hall] at heq
  generalize hL : (g.vs.filter fun v => !decide (v = .yes)).map wD = L at *
  unfold openL
  cases hy : g.vs.all fun v => decide (v = .yes) with
  | true =>
    have hyl : yesL o g = [(sYes, dec o g true)] := if_pos hy
    rw [hy] at heq
    rw [hyl] at hloop ⊢
    generalize [(sNo, dec o g false)] ++ [(sYes, dec o g true)] ++ (numL g.ms).flatMap (hearF g) = A3 at hloop ⊢
    have hm : ([(sNo, dec o g false)] ++ [(sYes, dec o g true)]).map pairD = [pairD (sNo, dec o g false)] ++ [pairD (sYes, dec o g true)] := rfl
    have hm0 : ([] : List (D × G)).map pairD = [] := rfl
    have hm1 : [(sNo, dec o g false)].map pairD = [pairD (sNo, dec o g false)] := rfl
    unfold e14 at *
    rw [hm] at hloop
    rw [hm1] at hlc
    rw [hm0]
    generalize [pairD (sNo, dec o g false)] ++ [pairD (sYes, dec o g true)] = A2 at *
    generalize pairD (sNo, dec o g false) = p1 at *
    generalize stD (dec o g false) = s1 at *
    generalize stD (dec o g true) = s2 at *
    generalize A3.map pairD = A4 at *
    generalize g.vs.map wD = V at *
    generalize msD g.ms = M at *
    generalize saidD g.n g.y = S at *
    generalize (numL g.ms).map numD = N at *
    unfold law_open
    simp [lit_no, lit_yes, hd1, hd2, ea1, ea2, hz, wipeE, unwipe, datOnly] at hlc ⊢
    simp [hlc, heq, hen, hloop, lit_no, lit_yes, hd1, hd2, ea1, ea2, hz, wipeE, unwipe, datOnly]
  | false =>
    have hyl : yesL o g = [] := if_neg (by rw [hy]; exact Bool.false_ne_true)
    rw [hy] at heq
    rw [hyl, List.append_nil] at hloop ⊢
    generalize [(sNo, dec o g false)] ++ (numL g.ms).flatMap (hearF g) = A3 at hloop ⊢
    have hm0 : ([] : List (D × G)).map pairD = [] := rfl
    have hm1 : [(sNo, dec o g false)].map pairD = [pairD (sNo, dec o g false)] := rfl
    unfold e14 at *
    rw [hm1] at hlc hloop
    rw [hm0]
    generalize pairD (sNo, dec o g false) = p1 at *
    generalize stD (dec o g false) = s1 at *
    generalize A3.map pairD = A4 at *
    generalize g.vs.map wD = V at *
    generalize msD g.ms = M at *
    generalize saidD g.n g.y = S at *
    generalize (numL g.ms).map numD = N at *
    unfold law_open
    simp [lit_no, lit_yes, hd1, ea1, hz, wipeE, unwipe, datOnly] at hlc ⊢
    simp [hlc, heq, hen, hloop, lit_no, lit_yes, hd1, ea1, hz, wipeE, unwipe, datOnly]
theorem open_len {o : Op} {g : G} (k : Ok g) : (openL o g).length ≤ 6 := by
  have h1 := hear_len g (numL g.ms)
  have h2 := len_num g.ms
  have h3 := k.ml
  have h4 : (yesL o g).length ≤ 1 := by unfold yesL; split <;> simp
  unfold openL
  generalize (numL g.ms).flatMap (hearF g) = L at *
  rw [List.length_append, List.length_append, List.length_singleton]
  omega
theorem law_leader_is {o : Op} {g : G} (k : Ok g) : d__law_leader_steps [some (.dat (opD o)), some (.dat (stD g))] = .ret (.own (.list ((leadL o g).map pairD))) [none, none] := by
  have hdef : d__law_leader_steps = fnD 14 (
    ySeq (ySet (gTupD 4 (gsCons (gTupD 3 (gsCons (gSet 2) (gsCons (gSet 3) (gsCons (gSet 4) (gsNil))))) (gsCons (gSet 5) (gsCons (gSet 6) (gsCons (gSet 7) (gsNil)))))) (xName 1))
    (ySeq (ySetNew 8 (xLst (xNil)))
    (ySeq (yIf (xTest (xOp gEqA (xName 2) (xC (.str "")))) law_open (yNext)) law_rest))) := rfl
  rw [hdef, ev_fnD]
  by_cases hw : g.w = .e
  · obtain ⟨c9, c10, c11, h9, h10, h11, h1⟩ := law_open_is k (o := o)
    obtain ⟨ρ, h2, r, rfl⟩ := law_rest_is k (o := o) (acc := openL o g) (by have := open_len k (o := o); omega) (c9 := c9) (c10 := c10) (c11 := c11)
    rw [if_pos hw, List.append_nil] at h2
    have hl : leadL o g = openL o g ++ crashL o g := by unfold leadL; rw [if_pos hw]
    rw [hl]
    unfold e14 at *
    generalize (openL o g ++ crashL o g).map pairD = R at *
    generalize (openL o g).map pairD = R2 at *
    have e0 : ([] : List (D × G)).map pairD = [] := rfl
    rw [e0] at h1
    unfold stD leadD at *
    simp only [hw] at *
    generalize law_open = LO at *
    generalize law_rest = LR at *
    simp [gTupD, gsCons, gsNil, lit_e, h1, h2]
  · obtain ⟨ρ, h2, r, rfl⟩ := law_rest_is k (o := o) (acc := []) (by simp) (c9 := none) (c10 := none) (c11 := none)
    rw [if_neg hw, List.nil_append] at h2
    have hl : leadL o g = holdL g ++ crashL o g := by unfold leadL; rw [if_neg hw]
    rw [hl]
    unfold e14 at *
    generalize (holdL g ++ crashL o g).map pairD = R at *
    have e0 : ([] : List (D × G)).map pairD = [] := rfl
    rw [e0] at h2
    unfold stD leadD at *
    generalize law_open = LO at *
    generalize law_rest = LR at *
    simp [gTupD, gsCons, gsNil, lit_e, hw, h2]
end K24


namespace K24
open PySem PySem.Spec L2 DL
/-! k24: the leader's steps, by the program -/
def p_open : DenS := ySeq (yExpr (xMut 8 oAppend (xCons (xTup (xCons (xTup (xCons (xC c_NO) (xNil))) (xCons (xFn 3 d_decided (xCons (xName 0) (xCons (xName 1) (xCons (xC c_NO) (xNil))))) (xNil)))) (xNil))))
    (ySeq (yIf (xTruth (xCall (lk gAll) (xCons (xNew (xLc (xItems (xName 4)) [12] (gSet 12) (xYes) (xOp gEqA (xName 12) (xC c_YES)))) (xNil)))) (yExpr (xMut 8 oAppend (xCons (xTup (xCons (xTup (xCons (xC c_YES) (xNil))) (xCons (xFn 3 d_decided (xCons (xName 0) (xCons (xName 1) (xCons (xC c_YES) (xNil))))) (xNil)))) (xNil)))) (yNext))
    (yFor (xWalk gEnum1 (xCons (xName 5) (xNil))) (gTupD 2 (gsCons (gSet 9) (gsCons (gSet 10) (gsNil)))) (p_leader_steps_1)))
def p_hold : DenS := yIf (xTest (xOp gNeA (xName 3) (xName 2))) (yExpr (xMut 8 oAppend (xCons (xTup (xCons (xTup (xCons (xC (.str "hold")) (xNil))) (xCons (xTup (xCons (xTup (xCons (xName 2) (xCons (xName 2) (xCons (xName 4) (xNil))))) (xCons (xName 5) (xCons (xName 6) (xCons (xName 7) (xNil)))))) (xNil)))) (xNil)))) (yNext)
def p_rest : DenS :=
    ySeq (yIf (xTest (xOp gGt (xName 7) (xC (.int 0)))) (ySeq (ySet (gSet 11) (xTup (xCons (xTup (xCons (xName 3) (xCons (xName 3) (xCons (xOp gMulB (xTup (xCons (xC (.str "")) (xNil))) (xCall (lk gLen) (xCons (xName 4) (xNil)))) (xNil))))) (xCons (xName 5) (xCons (xName 6) (xCons (xOp gSub (xName 7) (xC (.int 1))) (xNil)))))))
    (yExpr (xMut 8 oAppend (xCons (xTup (xCons (xTup (xCons (xC (.str "crash")) (xNil))) (xCons (xIf (xAnd (xTest (xOp gEqA (xName 3) (xC (.str "")))) (xTruth (xOp gIx (xName 0) (xC (.int 2))))) (xFn 3 d_decided (xCons (xName 0) (xCons (xName 11) (xCons (xC c_NO) (xNil))))) (xName 11)) (xNil)))) (xNil))))) (yNext))
    (yRetOwn 8)
theorem p_open_is {o : Op} {g : G} (k : Ok g) : ∃ c9 c10, Cl c9 ∧ Cl c10 ∧ p_open (e13 o g [] none none none none) = .next (e13 o g (openL o g) c9 c10 none none) := by
  obtain ⟨c9, c10, h9, h10, hloop⟩ := loop_is k (o := o) (acc := [(sNo, dec o g false)] ++ yesL o g) (by unfold yesL; split <;> simp)
  refine ⟨c9, c10, h9, h10, ?_⟩
  have hd1 : d_decided [some (.dat (opD o)), some (.dat (stD g)), some (.dat (wD .no))] = .ret (.dat (stD (dec o g false))) [none, none, none] := decided_is o g false
  have hd2 : d_decided [some (.dat (opD o)), some (.dat (stD g)), some (.dat (wD .yes))] = .ret (.dat (stD (dec o g true))) [none, none, none] := decided_is o g true
  have ea1 : oAppend [] [.tuple [.tuple [wD .no], stD (dec o g false)]] = some ([pairD (sNo, dec o g false)], .none) := oAppend_ok (by decide)
  have ea2 : oAppend [pairD (sNo, dec o g false)] [.tuple [.tuple [wD .yes], stD (dec o g true)]] = some ([pairD (sNo, dec o g false)] ++ [pairD (sYes, dec o g true)], .none) := oAppend_ok (by simp)
  have hen := enum_ms g.ms
  have hlc : lcD [12] (gSet 12) xYes (xOp gEqA (xName 12) (xC c_YES)) (g.vs.map wD) (e13 o g [(sNo, dec o g false)] none none none none) = .ok ((g.vs.map fun v => decide (v = .yes)).map .bool) (e13 o g [(sNo, dec o g false)] none none none none) := by
    rw [List.map_map]
    refine lcD_gen (g := wD) (f := fun v => .bool (decide (v = .yes))) fun v _ => ⟨(e13 o g [(sNo, dec o g false)] none none none none).set 12 (some (.dat (wD v))), ?_, by simp [wipeE, e13]⟩
    simp [lcTurn, e13, c_YES, lit_yes]
  have hall : gAll [.list ((g.vs.map fun v => decide (v = .yes)).map .bool)] = some (.bool (g.vs.all fun v => decide (v = .yes))) := by
    rw [gAll_bools, List.all_map]
    rfl
  have hz : (g.vs.map wD).length ≤ 16777216 := by rw [List.length_map]; have := k.ml; have := k.vl; omega
  generalize (g.vs.map fun v => decide (v = .yes)).map PyData.bool = L at *
  unfold openL
  cases hy : g.vs.all fun v => decide (v = .yes) with
  | true =>
    have hyl : yesL o g = [(sYes, dec o g true)] := if_pos hy
    rw [hy] at hall
    rw [hyl] at hloop ⊢
    generalize [(sNo, dec o g false)] ++ [(sYes, dec o g true)] ++ (numL g.ms).flatMap (hearF g) = A3 at hloop ⊢
    have hm : ([(sNo, dec o g false)] ++ [(sYes, dec o g true)]).map pairD = [pairD (sNo, dec o g false)] ++ [pairD (sYes, dec o g true)] := rfl
    have hm0 : ([] : List (D × G)).map pairD = [] := rfl
    have hm1 : [(sNo, dec o g false)].map pairD = [pairD (sNo, dec o g false)] := rfl
    unfold e13 at *
    rw [hm] at hloop
    rw [hm1] at hlc
    rw [hm0]
    generalize [pairD (sNo, dec o g false)] ++ [pairD (sYes, dec o g true)] = A2 at *
    generalize pairD (sNo, dec o g false) = p1 at *
    generalize stD (dec o g false) = s1 at *
    generalize stD (dec o g true) = s2 at *
    generalize A3.map pairD = A4 at *
    generalize g.vs.map wD = V at *
    generalize msD g.ms = M at *
    generalize saidD g.n g.y = S at *
    generalize (numL g.ms).map numD = N at *
    unfold p_open
    simp [c_NO, c_YES, lit_no, lit_yes] at hlc ⊢
    simp [hlc, hall, hen, hloop, hd1, hd2, ea1, ea2, hz, wipeE, unwipe, datOnly, truth]
  | false =>
    have hyl : yesL o g = [] := if_neg (by rw [hy]; exact Bool.false_ne_true)
    rw [hy] at hall
    rw [hyl, List.append_nil] at hloop ⊢
    generalize [(sNo, dec o g false)] ++ (numL g.ms).flatMap (hearF g) = A3 at hloop ⊢
    have hm0 : ([] : List (D × G)).map pairD = [] := rfl
    have hm1 : [(sNo, dec o g false)].map pairD = [pairD (sNo, dec o g false)] := rfl
    unfold e13 at *
    rw [hm1] at hlc hloop
    rw [hm0]
    generalize pairD (sNo, dec o g false) = p1 at *
    generalize stD (dec o g false) = s1 at *
    generalize A3.map pairD = A4 at *
    generalize g.vs.map wD = V at *
    generalize msD g.ms = M at *
    generalize saidD g.n g.y = S at *
    generalize (numL g.ms).map numD = N at *
    unfold p_open
    simp [c_NO, c_YES, lit_no, lit_yes] at hlc ⊢
    simp [hlc, hall, hen, hloop, hd1, ea1, hz, wipeE, unwipe, datOnly, truth]
theorem p_hold_is {o : Op} {g : G} : p_hold (e13 o g [] none none none none) = .next (e13 o g (holdL g) none none none none) := by
  have ea : oAppend [] [.tuple [.tuple [.str "hold"], .tuple [.tuple [wD g.w, wD g.w, .tuple (g.vs.map wD)], msD g.ms, saidD g.n g.y, .int g.c]]] = some ([(sHold, { g with s := g.w })].map pairD, .none) := oAppend_ok (by decide)
  by_cases hs : g.s = g.w
  · have hh : holdL g = [] := if_pos hs
    rw [hh]
    unfold e13 p_hold
    simp [hs]
  · have hh : holdL g = [(sHold, { g with s := g.w })] := if_neg hs
    rw [hh]
    unfold e13 p_hold
    generalize [(sHold, { g with s := g.w })].map pairD = A at *
    have e0 : ([] : List (D × G)).map pairD = [] := rfl
    rw [e0]
    generalize g.vs.map wD = V at *
    generalize msD g.ms = M at *
    generalize saidD g.n g.y = S at *
    simp [hs, ea]
theorem p_rest_is {o : Op} {g : G} (k : Ok g) {acc1 : List (D × G)} (hl1 : acc1.length ≤ 100) {c9 c10 : Option Cell} : ∃ ρ, p_rest (e13 o g acc1 c9 c10 none none) = .ret (.own (.list ((acc1 ++ crashL o g).map pairD))) ρ ∧ ∃ r, ρ = some (.dat (opD o)) :: some (.dat (stD g)) :: r := by
  have hrep : gMulB (.tuple [wD .e]) (.int (g.vs.map wD).length) = some (.tuple (List.replicate g.vs.length (wD .e))) := by
    rw [List.length_map, gMulB_one (by have := k.ml; have := k.vl; omega)]
    rfl
  have hdec : d_decided [some (.dat (opD o)), some (.dat (.tuple [.tuple [wD g.s, wD g.s, .tuple (List.replicate g.vs.length (wD .e))], msD g.ms, saidD g.n g.y, .int (g.c - 1)])), some (.dat (wD .no))] = .ret (.dat (stD (dec o (crashT g) false))) [none, none, none] := by
    have := decided_is o (crashT g) false
    unfold stD leadD crashT at this ⊢
    simp only [List.map_replicate] at this
    exact this
  have hT : stD (crashT g) = .tuple [.tuple [wD g.s, wD g.s, .tuple (List.replicate g.vs.length (wD .e))], msD g.ms, saidD g.n g.y, .int (g.c - 1)] := by
    unfold stD leadD crashT
    simp only [List.map_replicate]
  have ea : ∀ d, oAppend (acc1.map pairD) [d] = some (acc1.map pairD ++ [d], .none) := fun d => oAppend_ok (by rw [List.length_map]; omega)
  unfold p_rest
  by_cases hc : 0 < g.c
  · have hcl : crashL o g = [(sCrash, crashG o g)] := if_pos hc
    have hD : acc1.map pairD ++ [.tuple [.tuple [.str "crash"], stD (crashG o g)]] = (acc1 ++ crashL o g).map pairD := by
      rw [List.map_append, hcl]; rfl
    by_cases hq : g.s = .e ∧ o.c = true
    · have hG : crashG o g = dec o (crashT g) false := if_pos hq
      rw [hG] at hD
      obtain ⟨q1, q2⟩ := hq
      unfold e13
      rw [← hD]
      simp only [q1] at *
      generalize acc1.map pairD = A at *
      generalize stD (dec o (crashT g) false) = S3 at *
      generalize stD g = S0 at *
      generalize List.replicate g.vs.length (wD .e) = R at *
      generalize g.vs.map wD = V at *
      generalize msD g.ms = M at *
      generalize saidD g.n g.y = S at *
      unfold opD at *
      simp only [q2] at *
      refine ⟨_, by simp [c_NO, lit_e, lit_no, hc, hrep, truth, hdec, ea]; rfl, _, rfl⟩
    · have hG : crashG o g = crashT g := if_neg hq
      rw [hG, hT] at hD
      unfold e13
      rw [← hD]
      generalize acc1.map pairD = A at *
      generalize stD g = S0 at *
      generalize List.replicate g.vs.length (wD .e) = R at *
      generalize g.vs.map wD = V at *
      generalize msD g.ms = M at *
      generalize saidD g.n g.y = S at *
      unfold opD at *
      by_cases q1 : g.s = .e
      · have q2 : o.c = false := by
          cases h : o.c with
          | false => rfl
          | true => exact absurd ⟨q1, h⟩ hq
        simp only [q1, q2] at *
        refine ⟨_, by simp [c_NO, lit_e, lit_no, hc, hrep, truth, ea]; rfl, _, rfl⟩
      · refine ⟨_, by simp [c_NO, lit_e, lit_no, hc, hrep, truth, ea, q1]; rfl, _, rfl⟩
  · have hcl : crashL o g = [] := if_neg hc
    rw [hcl, List.append_nil]
    unfold e13
    generalize acc1.map pairD = A at *
    refine ⟨_, by simp [hc]; rfl, _, rfl⟩
theorem leader_is {o : Op} {g : G} (k : Ok g) : d_leader_steps [some (.dat (opD o)), some (.dat (stD g))] = .ret (.own (.list ((leadL o g).map pairD))) [none, none] := by
  have hdef : d_leader_steps = fnD 13 (
    ySeq (ySet (gTupD 4 (gsCons (gTupD 3 (gsCons (gSet 2) (gsCons (gSet 3) (gsCons (gSet 4) (gsNil))))) (gsCons (gSet 5) (gsCons (gSet 6) (gsCons (gSet 7) (gsNil)))))) (xName 1))
    (ySeq (ySetNew 8 (xLst (xNil)))
    (ySeq (yIf (xTest (xOp gEqA (xName 2) (xC (.str "")))) p_open p_hold) p_rest))) := rfl
  have e0 : ([] : List (D × G)).map pairD = [] := rfl
  rw [hdef, ev_fnD]
  by_cases hw : g.w = .e
  · obtain ⟨c9, c10, h9, h10, h1⟩ := p_open_is k (o := o)
    obtain ⟨ρ, h2, r, rfl⟩ := p_rest_is k (o := o) (acc1 := openL o g) (by have := open_len k (o := o); omega) (c9 := c9) (c10 := c10)
    have hl : leadL o g = openL o g ++ crashL o g := by unfold leadL; rw [if_pos hw]
    rw [hl]
    unfold e13 at *
    generalize (openL o g ++ crashL o g).map pairD = R at *
    generalize (openL o g).map pairD = R2 at *
    rw [e0] at h1
    unfold stD leadD at *
    simp only [hw] at *
    generalize p_open = LO at *
    generalize p_hold = LH at *
    generalize p_rest = LR at *
    simp [gTupD, gsCons, gsNil, lit_e, h1, h2]
  · have h1 := p_hold_is (o := o) (g := g)
    obtain ⟨ρ, h2, r, rfl⟩ := p_rest_is k (o := o) (acc1 := holdL g) (by unfold holdL; split <;> simp) (c9 := none) (c10 := none)
    have hl : leadL o g = holdL g ++ crashL o g := by unfold leadL; rw [if_neg hw]
    rw [hl]
    unfold e13 at *
    generalize (holdL g ++ crashL o g).map pairD = R at *
    generalize (holdL g).map pairD = R2 at *
    rw [e0] at h1
    unfold stD leadD at *
    generalize p_open = LO at *
    generalize p_hold = LH at *
    generalize p_rest = LR at *
    simp [gTupD, gsCons, gsNil, lit_e, hw, h1, h2]
end K24


namespace K24
open PySem PySem.Spec L2 DL
/-! k24: a member's steps -/
def sVote (i : Nat) : D := .tuple [.str "vote", .int i]
def sRefuse (i : Nat) : D := .tuple [.str "refuse", .int i]
def sLearn (i : Nat) (t : Wd) : D := .tuple [.str "learn", .int i, wD t]
def sHoldM (i : Nat) : D := .tuple [.str "hold", .int i]
def sCrashM (i : Nat) : D := .tuple [.str "crash", .int i]
abbrev T3 := D × Mem × Int
def triD (t : T3) : D := .tuple [t.1, memD t.2.1, .int t.2.2]
def leadTo (g : G) (i : Nat) (t : T3) : D × G := (t.1, { g with ms := g.ms.set i t.2.1, c := g.c - t.2.2 })
def endW (t : Wd) : Wd := if t = .yes then .done else .lost
def learnT (i : Nat) (m : Mem) (t : Wd) : T3 := (sLearn i t, ⟨endW t, endW t, m.v⟩, 0)
def startT (o : Op) (i : Nat) (m : Mem) : List T3 := [(sVote i, ⟨.ready, if o.a = true then .ready else m.s, .yes⟩, 0), (sRefuse i, ⟨.lost, .lost, .no⟩, 0)]
def keepT (i : Nat) (m : Mem) : List T3 := if m.s = .ready then [] else [(sHoldM i, ⟨.ready, .ready, m.v⟩, 0)]
def dieT (g : G) (i : Nat) (m : Mem) : List T3 := if 0 < g.c then [(sCrashM i, ⟨m.s, m.s, m.v⟩, 1)] else []
def readyT (g : G) (i : Nat) (m : Mem) : List T3 := (saidL g.n g.y).map (learnT i m) ++ keepT i m ++ dieT g i m
def memT (o : Op) (g : G) (i : Nat) (m : Mem) : List T3 := (if m.w = .e then startT o i m else []) ++ if m.w = .ready then readyT g i m else []
theorem memT_len (o : Op) (g : G) (i : Nat) (m : Mem) : (memT o g i m).length ≤ 6 := by
  have h1 := said_len g.n g.y
  have h2 : (keepT i m).length ≤ 1 := by unfold keepT; split <;> simp
  have h3 : (dieT g i m).length ≤ 1 := by unfold dieT; split <;> simp
  have h4 : (readyT g i m).length ≤ 4 := by
    unfold readyT
    rw [List.length_append, List.length_append, List.length_map]
    omega
  unfold memT
  rw [List.length_append]
  have h5 : (if m.w = .e then startT o i m else []).length ≤ 2 := by split <;> simp [startT]
  have h6 : (if m.w = .ready then readyT g i m else []).length ≤ 4 := by
    split
    · exact h4
    · simp
  omega
theorem fm_one {α β : Type} (f : α → β) : ∀ l : List α, l.flatMap (fun t => [f t]) = l.map f
  | [] => rfl
  | x :: l => by rw [List.flatMap_cons, fm_one f l]; rfl
def h13 (o : Op) (g : G) (i : Nat) (m : Mem) (acc : List T3) (c7 c8 : Option Cell) (acc2 : Option Cell) (c10 c11 c12 : Option Cell) : DL.Env := [some (.dat (opD o)), some (.dat (stD g)), some (.dat (.int i)), some (.dat (wD m.w)), some (.dat (wD m.s)), some (.dat (wD m.v)), some (.dat (.list (acc.map triD))), c7, c8, acc2, c10, c11, c12]
/-! the law's -/
def f13 (o : Op) (g : G) (i : Nat) (m : Mem) (acc : List T3) (c7 c8 : Option Cell) (acc2 : Option Cell) (c10 c11 c12 : Option Cell) : DL.Env := [some (.dat (opD o)), some (.dat (stD g)), some (.dat (.int i)), some (.dat (wD m.w)), some (.dat (wD m.s)), some (.dat (wD m.v)), some (.own true (.list (acc.map triD))), c7, c8, acc2, c10, c11, c12]
theorem learn_loop {o : Op} {g : G} {i : Nat} {m : Mem} {acc : List T3} (ha : acc.length ≤ 100) : ∃ c7 c8, Cl c7 ∧ Cl c8 ∧
    forD (gSet 7) p__law_member_steps_1 ((saidL g.n g.y).map wD) (f13 o g i m acc none none none none none none) = .next (f13 o g i m (acc ++ (saidL g.n g.y).map (learnT i m)) c7 c8 none none none none) := by
  have hfm : ∀ l : List Wd, l.flatMap (fun t => [learnT i m t]) = l.map (learnT i m) := fm_one _
  obtain ⟨ρ', h1, c7, c8, rfl, h7, h8⟩ := forD_col (γ := gSet 7) (ψ := p__law_member_steps_1) (g := wD) (f := fun t => [learnT i m t]) (E := fun acc ρ => ∃ c7 c8, ρ = f13 o g i m acc c7 c8 none none none none ∧ Cl c7 ∧ Cl c8)
    (bs := saidL g.n g.y) (acc := acc) (ρ := f13 o g i m acc none none none none none none) (N := 1000) ⟨none, none, rfl, .none, .none⟩ (by rw [hfm, List.length_map]; have := said_len g.n g.y; omega)
    (by
      rintro t ht acc ρ ⟨c7, c8, rfl, h7, h8⟩ hN
      rw [List.length_singleton] at hN
      have ea : ∀ d, oAppend (acc.map triD) [d] = some (acc.map triD ++ [d], .none) := fun d => oAppend_ok (by rw [List.length_map]; omega)
      have hD : acc.map triD ++ [.tuple [.tuple [.str "learn", .int i, wD t], .tuple [wD (endW t), wD (endW t), wD m.v], .int 0]] = (acc ++ [learnT i m t]).map triD := by rw [List.map_append]; rfl
      refine ⟨f13 o g i m acc (some (.dat (wD t))) c8 none none none none, f13 o g i m (acc ++ [learnT i m t]) (some (.dat (wD t))) (some (.dat (wD (endW t)))) none none none none, by simp [f13, h7.cs], .inl ?_, _, _, rfl, .dat _, .dat _⟩
      unfold f13 p__law_member_steps_1
      rw [← hD]
      generalize acc.map triD = A at *
      by_cases q : t = .yes
      · have : endW t = .done := if_pos q
        simp [lit_yes, lit_done, lit_lost, q, this, h8.cs, ea]
        rw [← q, this]
      · have : endW t = .lost := if_neg q
        simp [lit_yes, lit_done, lit_lost, q, this, h8.cs, ea])
  rw [hfm] at h1
  exact ⟨c7, c8, h7, h8, h1⟩
theorem at_ms {g : G} {i : Nat} {m : Mem} (h : g.ms[i]? = some m) : L2.atI (g.ms.map memD) (i : Int) = some (memD m) := by
  rw [atI_pos _ (by omega)]
  simp [h]
theorem set_ms (g : G) (i : Nat) (m : Mem) : (g.ms.map memD).set i (memD m) = (g.ms.set i m).map memD := by rw [List.map_set]
theorem lead_loop {o : Op} {g : G} (k : Ok g) {i : Nat} {m : Mem} (hi : g.ms[i]? = some m) (ts : List T3) (hts : ts.length ≤ 100) {c7 c8 : Option Cell} : ∃ c10 c11 c12, Cl c10 ∧ Cl c11 ∧ Cl c12 ∧
    forD (gTupD 3 (gsCons (gSet 10) (gsCons (gSet 11) (gsCons (gSet 12) (gsNil))))) p__law_member_steps_2 (ts.map triD) (h13 o g i m ts c7 c8 (some (.own true (.list []))) none none none) = .next (h13 o g i m ts c7 c8 (some (.own true (.list ((ts.map (leadTo g i)).map pairD)))) c10 c11 c12) := by
  have hlt : i < g.ms.length := (List.getElem?_eq_some_iff.mp hi).1
  have hfm : ts.flatMap (fun t => [leadTo g i t]) = ts.map (leadTo g i) := fm_one _ _
  obtain ⟨ρ', h1, c10, c11, c12, rfl, h10, h11, h12⟩ := forD_col (γ := gTupD 3 (gsCons (gSet 10) (gsCons (gSet 11) (gsCons (gSet 12) (gsNil))))) (ψ := p__law_member_steps_2) (g := triD) (f := fun t => [leadTo g i t])
    (E := fun acc ρ => ∃ c10 c11 c12, ρ = h13 o g i m ts c7 c8 (some (.own true (.list (acc.map pairD)))) c10 c11 c12 ∧ Cl c10 ∧ Cl c11 ∧ Cl c12)
    (bs := ts) (acc := []) (ρ := h13 o g i m ts c7 c8 (some (.own true (.list []))) none none none) (N := 1000) ⟨none, none, none, rfl, .none, .none, .none⟩ (by rw [hfm, List.length_map, List.length_nil]; omega)
    (by
      rintro ⟨s, m2, less⟩ ht acc ρ ⟨c10, c11, c12, rfl, h10, h11, h12⟩ hN
      rw [List.length_singleton] at hN
      have hput := law_put_is (xs := g.ms.map memD) (i := i) (memD m2) (by simpa using hlt) (by have := k.ml; simp; omega)
      rw [set_ms] at hput
      have ea : ∀ d, oAppend (acc.map pairD) [d] = some (acc.map pairD ++ [d], .none) := fun d => oAppend_ok (by rw [List.length_map]; omega)
      have hD : acc.map pairD ++ [.tuple [s, .tuple [leadD g.w g.s g.vs, msD (g.ms.set i m2), saidD g.n g.y, .int (g.c - less)]]] = (acc ++ [leadTo g i (s, m2, less)]).map pairD := by rw [List.map_append]; rfl
      refine ⟨h13 o g i m ts c7 c8 (some (.own true (.list (acc.map pairD)))) (some (.dat s)) (some (.dat (memD m2))) (some (.dat (.int less))), h13 o g i m ts c7 c8 (some (.own true (.list ((acc ++ [leadTo g i (s, m2, less)]).map pairD)))) (some (.dat s)) (some (.dat (memD m2))) (some (.dat (.int less))), by simp [h13, triD, gTupD, gsCons, gsNil, h10.cs, h11.cs, h12.cs], .inl ?_, _, _, _, rfl, .dat _, .dat _, .dat _⟩
      unfold h13 p__law_member_steps_2
      rw [← hD]
      unfold stD msD at *
      generalize acc.map pairD = A at *
      generalize (g.ms.set i m2).map memD = M2 at *
      generalize g.ms.map memD = M at *
      generalize ts.map triD = TT at *
      generalize leadD g.w g.s g.vs = LL at *
      generalize saidD g.n g.y = S at *
      simp [hput, ea])
  rw [hfm, List.nil_append] at h1
  exact ⟨c10, c11, c12, h10, h11, h12, h1⟩
def lm_a : DenS := yIf (xTest (xOp gEqA (xName 3) (xC (.str "")))) (ySeq (yExpr (xMut 6 oAppend (xCons (xTup (xCons (xTup (xCons (xC (.str "vote")) (xCons (xName 2) (xNil)))) (xCons (xTup (xCons (xC (.str "ready")) (xCons (xIf (xTruth (xOp gIx (xName 0) (xC (.int 0)))) (xC (.str "ready")) (xName 4)) (xCons (xC (.str "yes")) (xNil))))) (xCons (xC (.int 0)) (xNil))))) (xNil))))
    (yExpr (xMut 6 oAppend (xCons (xTup (xCons (xTup (xCons (xC (.str "refuse")) (xCons (xName 2) (xNil)))) (xCons (xTup (xCons (xC (.str "lost")) (xCons (xC (.str "lost")) (xCons (xC (.str "no")) (xNil))))) (xCons (xC (.int 0)) (xNil))))) (xNil))))) (yNext)
def lm_c : DenS := yIf (xTest (xOp gNeA (xName 4) (xC (.str "ready")))) (yExpr (xMut 6 oAppend (xCons (xTup (xCons (xTup (xCons (xC (.str "hold")) (xCons (xName 2) (xNil)))) (xCons (xTup (xCons (xC (.str "ready")) (xCons (xC (.str "ready")) (xCons (xName 5) (xNil))))) (xCons (xC (.int 0)) (xNil))))) (xNil)))) (yNext)
def lm_d : DenS := yIf (xTest (xOp gGt (xOp gIx (xName 1) (xC (.int 3))) (xC (.int 0)))) (yExpr (xMut 6 oAppend (xCons (xTup (xCons (xTup (xCons (xC (.str "crash")) (xCons (xName 2) (xNil)))) (xCons (xTup (xCons (xName 4) (xCons (xName 4) (xCons (xName 5) (xNil))))) (xCons (xC (.int 1)) (xNil))))) (xNil)))) (yNext)
def lm_b : DenS := yIf (xTest (xOp gEqA (xName 3) (xC (.str "ready")))) (ySeq (yFor (xItems (xOp gIx (xName 1) (xC (.int 2)))) (gSet 7) (p__law_member_steps_1)) (ySeq lm_c lm_d)) (yNext)
theorem lm_a_is (o : Op) (g : G) (i : Nat) (m : Mem) : lm_a (f13 o g i m [] none none none none none none) = .next (f13 o g i m (if m.w = .e then startT o i m else []) none none none none none none) := by
  by_cases hw : m.w = .e
  · rw [if_pos hw]
    have ea1 : ∀ d, oAppend [] [d] = some ([d], .none) := fun d => oAppend_ok (by decide)
    have ea2 : ∀ d e, oAppend [d] [e] = some ([d, e], .none) := fun d e => oAppend_ok (by simp)
    unfold f13 lm_a opD startT
    simp only [List.map_cons, List.map_nil, triD, memD]
    cases ho : o.a <;> simp [lit_e, lit_ready, lit_yes, lit_lost, lit_no, hw, truth, ea1, ea2, ho, sVote, sRefuse]
  · rw [if_neg hw]
    unfold f13 lm_a
    simp [lit_e, hw]
theorem lm_c_is (o : Op) (g : G) (i : Nat) (m : Mem) {acc : List T3} (ha : acc.length ≤ 100) (c7 c8 : Option Cell) : lm_c (f13 o g i m acc c7 c8 none none none none) = .next (f13 o g i m (acc ++ keepT i m) c7 c8 none none none none) := by
  have ea : ∀ d, oAppend (acc.map triD) [d] = some (acc.map triD ++ [d], .none) := fun d => oAppend_ok (by rw [List.length_map]; omega)
  by_cases q : m.s = .ready
  · have h : keepT i m = [] := if_pos q
    rw [h, List.append_nil]
    unfold f13 lm_c
    simp [lit_ready, q]
  · have h : keepT i m = [(sHoldM i, ⟨.ready, .ready, m.v⟩, 0)] := if_neg q
    rw [h]
    have hD : acc.map triD ++ [.tuple [.tuple [.str "hold", .int i], .tuple [wD .ready, wD .ready, wD m.v], .int 0]] = (acc ++ [((sHoldM i, ⟨.ready, .ready, m.v⟩, 0) : T3)]).map triD := by rw [List.map_append]; rfl
    unfold f13 lm_c
    rw [← hD]
    generalize acc.map triD = A at *
    simp [lit_ready, q, ea]
theorem lm_d_is (o : Op) (g : G) (i : Nat) (m : Mem) {acc : List T3} (ha : acc.length ≤ 100) (c7 c8 : Option Cell) : lm_d (f13 o g i m acc c7 c8 none none none none) = .next (f13 o g i m (acc ++ dieT g i m) c7 c8 none none none none) := by
  have ea : ∀ d, oAppend (acc.map triD) [d] = some (acc.map triD ++ [d], .none) := fun d => oAppend_ok (by rw [List.length_map]; omega)
  by_cases q : 0 < g.c
  · have h : dieT g i m = [(sCrashM i, ⟨m.s, m.s, m.v⟩, 1)] := if_pos q
    rw [h]
    have hD : acc.map triD ++ [.tuple [.tuple [.str "crash", .int i], .tuple [wD m.s, wD m.s, wD m.v], .int 1]] = (acc ++ [((sCrashM i, ⟨m.s, m.s, m.v⟩, 1) : T3)]).map triD := by rw [List.map_append]; rfl
    unfold f13 lm_d stD
    rw [← hD]
    generalize acc.map triD = A at *
    generalize leadD g.w g.s g.vs = LL at *
    generalize saidD g.n g.y = S at *
    generalize msD g.ms = M at *
    simp [q, ea]
  · have h : dieT g i m = [] := if_neg q
    rw [h, List.append_nil]
    unfold f13 lm_d stD
    generalize leadD g.w g.s g.vs = LL at *
    generalize saidD g.n g.y = S at *
    generalize msD g.ms = M at *
    simp [q]
theorem law_member_is {o : Op} {g : G} (k : Ok g) {i : Nat} {m : Mem} (hi : g.ms[i]? = some m) : d__law_member_steps [some (.dat (opD o)), some (.dat (stD g)), some (.dat (.int i))] = .ret (.dat (.list (((memT o g i m).map (leadTo g i)).map pairD))) [none, none, none] := by
  have hdef : d__law_member_steps = fnD 13 (
    ySeq (ySet (gTupD 3 (gsCons (gSet 3) (gsCons (gSet 4) (gsCons (gSet 5) (gsNil))))) (xOp gIx (xOp gIx (xName 1) (xC (.int 1))) (xName 2)))
    (ySeq (ySetNew 6 (xLst (xNil)))
    (ySeq lm_a (ySeq lm_b
    (ySeq (ySetNew 9 (xLst (xNil)))
    (ySeq (yFor (xItems (xName 6)) (gTupD 3 (gsCons (gSet 10) (gsCons (gSet 11) (gsCons (gSet 12) (gsNil))))) (p__law_member_steps_2))
    (yRet (xName 9)))))))) := rfl
  have hat := at_ms hi
  have h1 := lm_a_is o g i m
  obtain ⟨c7, c8, h7, h8, h2⟩ : ∃ c7 c8, Cl c7 ∧ Cl c8 ∧ lm_b (f13 o g i m (if m.w = .e then startT o i m else []) none none none none none none) = .next (f13 o g i m (memT o g i m) c7 c8 none none none none) := by
    unfold memT
    by_cases q : m.w = .ready
    · have qe : ¬ m.w = .e := by rw [q]; decide
      rw [if_neg qe, if_pos q, List.nil_append]
      obtain ⟨c7, c8, h7, h8, hl⟩ := learn_loop (o := o) (g := g) (i := i) (m := m) (acc := []) (by simp)
      refine ⟨c7, c8, h7, h8, ?_⟩
      rw [List.nil_append] at hl
      have hc := lm_c_is o g i m (acc := (saidL g.n g.y).map (learnT i m)) (by rw [List.length_map]; have := said_len g.n g.y; omega) c7 c8
      have hd := lm_d_is o g i m (acc := (saidL g.n g.y).map (learnT i m) ++ keepT i m) (by rw [List.length_append, List.length_map]; have := said_len g.n g.y; unfold keepT; split <;> simp <;> omega) c7 c8
      have hr : readyT g i m = (saidL g.n g.y).map (learnT i m) ++ keepT i m ++ dieT g i m := rfl
      rw [hr]
      generalize (saidL g.n g.y).map (learnT i m) ++ keepT i m ++ dieT g i m = A3 at *
      generalize (saidL g.n g.y).map (learnT i m) ++ keepT i m = A2 at *
      generalize (saidL g.n g.y).map (learnT i m) = A1 at *
      unfold lm_b
      generalize lm_c = LC at *
      generalize lm_d = LD at *
      unfold f13 stD saidD at *
      generalize (saidL g.n g.y).map wD = SL at *
      generalize A3.map triD = B3 at *
      generalize A2.map triD = B2 at *
      generalize A1.map triD = B1 at *
      have e0 : ([] : List T3).map triD = [] := rfl
      rw [e0] at hl ⊢
      generalize leadD g.w g.s g.vs = LL at *
      generalize msD g.ms = M at *
      simp only [q] at *
      simp [lit_ready, hl, hc, hd]
    · rw [if_neg q, List.append_nil]
      refine ⟨none, none, .none, .none, ?_⟩
      unfold lm_b f13
      simp [lit_ready, q]
  obtain ⟨c10, c11, c12, h10, h11, h12, h3⟩ := lead_loop k (o := o) hi (memT o g i m) (by have := memT_len o g i m; omega) (c7 := c7) (c8 := c8)
  rw [hdef, ev_fnD]
  generalize (if m.w = .e then startT o i m else []) = A1 at *
  generalize hT : memT o g i m = TT at *
  generalize (TT.map (leadTo g i)).map pairD = R at *
  have e0 : ([] : List T3).map triD = [] := rfl
  generalize lm_a = LA at *
  generalize lm_b = LB at *
  unfold f13 at *
  unfold h13 at *
  generalize A1.map triD = B1 at *
  generalize TT.map triD = B2 at *
  rw [e0] at h1
  unfold stD msD memD at *
  generalize leadD g.w g.s g.vs = LL at *
  generalize saidD g.n g.y = S at *
  simp [gTupD, gsCons, gsNil, hat, h1, h2, h3]
end K24


namespace K24
open PySem PySem.Spec L2 DL
/-! k24: a member's steps, by the program -/
theorem with_member_is {g : G} (k : Ok g) {i : Nat} {m : Mem} (hi : g.ms[i]? = some m) (m2 : Mem) : d_with_member [some (.dat (stD g)), some (.dat (.int i)), some (.dat (memD m2))] = .ret (.dat (.tuple [leadD g.w g.s g.vs, msD (g.ms.set i m2), saidD g.n g.y, .int g.c])) [none, none, none] := by
  have hlt : i < g.ms.length := (List.getElem?_eq_some_iff.mp hi).1
  have hput := put_at_is (xs := g.ms.map memD) (i := i) (memD m2) (by simpa using hlt) (by have := k.ml; simp; omega)
  rw [set_ms] at hput
  unfold d_with_member
  rw [ev_fnD]
  unfold stD msD at *
  generalize (g.ms.set i m2).map memD = M2 at *
  generalize g.ms.map memD = M at *
  generalize leadD g.w g.s g.vs = LL at *
  generalize saidD g.n g.y = S at *
  simp [hput]
def f10 (o : Op) (g : G) (i : Nat) (m : Mem) (acc : List (D × G)) (c7 c8 c9 : Option Cell) : DL.Env := [some (.dat (opD o)), some (.dat (stD g)), some (.dat (.int i)), some (.dat (wD m.w)), some (.dat (wD m.s)), some (.dat (wD m.v)), some (.own true (.list (acc.map pairD))), c7, c8, c9]
theorem lead0 (g : G) (i : Nat) (s : D) (m2 : Mem) : pairD (leadTo g i (s, m2, 0)) = .tuple [s, .tuple [leadD g.w g.s g.vs, msD (g.ms.set i m2), saidD g.n g.y, .int g.c]] := by
  unfold pairD leadTo stD
  simp only [Int.sub_zero]
theorem lead1 (g : G) (i : Nat) (s : D) (m2 : Mem) : pairD (leadTo g i (s, m2, 1)) = .tuple [s, .tuple [leadD g.w g.s g.vs, msD (g.ms.set i m2), saidD g.n g.y, .int (g.c - 1)]] := rfl
theorem snoc_lead (acc : List (D × G)) (g : G) (i : Nat) (t : T3) : acc.map pairD ++ [pairD (leadTo g i t)] = (acc ++ [leadTo g i t]).map pairD := by rw [List.map_append]; rfl
theorem p_learn_loop {o : Op} {g : G} (k : Ok g) {i : Nat} {m : Mem} (hi : g.ms[i]? = some m) : ∃ c7 c8, Cl c7 ∧ Cl c8 ∧
    forD (gSet 7) p_member_steps_1 ((saidL g.n g.y).map wD) (f10 o g i m [] none none none) = .next (f10 o g i m (((saidL g.n g.y).map (learnT i m)).map (leadTo g i)) c7 c8 none) := by
  have hfm : ∀ l : List Wd, l.flatMap (fun t => [leadTo g i (learnT i m t)]) = (l.map (learnT i m)).map (leadTo g i) := fun l => by rw [List.map_map]; exact fm_one _ l
  obtain ⟨ρ', h1, c7, c8, rfl, h7, h8⟩ := forD_col (γ := gSet 7) (ψ := p_member_steps_1) (g := wD) (f := fun t => [leadTo g i (learnT i m t)]) (E := fun acc ρ => ∃ c7 c8, ρ = f10 o g i m acc c7 c8 none ∧ Cl c7 ∧ Cl c8)
    (bs := saidL g.n g.y) (acc := []) (ρ := f10 o g i m [] none none none) (N := 1000) ⟨none, none, rfl, .none, .none⟩ (by rw [hfm, List.length_map, List.length_map]; have := said_len g.n g.y; simp; omega)
    (by
      rintro t ht acc ρ ⟨c7, c8, rfl, h7, h8⟩ hN
      rw [List.length_singleton] at hN
      have ea : ∀ d, oAppend (acc.map pairD) [d] = some (acc.map pairD ++ [d], .none) := fun d => oAppend_ok (by rw [List.length_map]; omega)
      have hD := snoc_lead acc g i (learnT i m t)
      have h0 := lead0 g i (sLearn i t) ⟨endW t, endW t, m.v⟩
      have hw := with_member_is k hi ⟨endW t, endW t, m.v⟩
      have e1 : (sLearn i t, (⟨endW t, endW t, m.v⟩ : Mem), (0 : Int)) = learnT i m t := rfl
      rw [e1] at h0
      rw [h0] at hD
      refine ⟨f10 o g i m acc (some (.dat (wD t))) c8 none, f10 o g i m (acc ++ [leadTo g i (learnT i m t)]) (some (.dat (wD t))) (some (.dat (wD (endW t)))) none, by simp [f10, h7.cs], .inl ?_, _, _, rfl, .dat _, .dat _⟩
      unfold f10 p_member_steps_1
      rw [← hD]
      unfold memD sLearn at *
      generalize acc.map pairD = A at *
      generalize stD g = S0 at *
      generalize leadD g.w g.s g.vs = LL at *
      generalize msD (g.ms.set i ⟨endW t, endW t, m.v⟩) = M2 at *
      generalize saidD g.n g.y = S at *
      by_cases q : t = .yes
      · have : endW t = .done := if_pos q
        rw [this] at hw ⊢
        subst q
        simp [c_YES, c_DONE, c_LOST, lit_yes, lit_done, lit_lost, h8.cs, ea, hw]
      · have : endW t = .lost := if_neg q
        rw [this] at hw ⊢
        simp [c_YES, c_DONE, c_LOST, lit_yes, lit_done, lit_lost, q, h8.cs, ea, hw])
  rw [hfm, List.nil_append] at h1
  exact ⟨c7, c8, h7, h8, h1⟩
def pm_a : DenS := yIf (xTest (xOp gEqA (xName 3) (xC (.str "")))) (ySeq (yExpr (xMut 6 oAppend (xCons (xTup (xCons (xTup (xCons (xC (.str "vote")) (xCons (xName 2) (xNil)))) (xCons (xFn 3 d_with_member (xCons (xName 1) (xCons (xName 2) (xCons (xTup (xCons (xC c_READY) (xCons (xIf (xTruth (xOp gIx (xName 0) (xC (.int 0)))) (xC c_READY) (xName 4)) (xCons (xC c_YES) (xNil))))) (xNil))))) (xNil)))) (xNil))))
    (yExpr (xMut 6 oAppend (xCons (xTup (xCons (xTup (xCons (xC (.str "refuse")) (xCons (xName 2) (xNil)))) (xCons (xFn 3 d_with_member (xCons (xName 1) (xCons (xName 2) (xCons (xTup (xCons (xC c_LOST) (xCons (xC c_LOST) (xCons (xC c_NO) (xNil))))) (xNil))))) (xNil)))) (xNil))))) (yNext)
def pm_c : DenS := yIf (xTest (xOp gNeA (xName 4) (xC c_READY))) (yExpr (xMut 6 oAppend (xCons (xTup (xCons (xTup (xCons (xC (.str "hold")) (xCons (xName 2) (xNil)))) (xCons (xFn 3 d_with_member (xCons (xName 1) (xCons (xName 2) (xCons (xTup (xCons (xC c_READY) (xCons (xC c_READY) (xCons (xName 5) (xNil))))) (xNil))))) (xNil)))) (xNil)))) (yNext)
def pm_d : DenS := yIf (xTest (xOp gGt (xOp gIx (xName 1) (xC (.int 3))) (xC (.int 0)))) (ySeq (ySet (gSet 9) (xFn 3 d_with_member (xCons (xName 1) (xCons (xName 2) (xCons (xTup (xCons (xName 4) (xCons (xName 4) (xCons (xName 5) (xNil))))) (xNil))))))
    (yExpr (xMut 6 oAppend (xCons (xTup (xCons (xTup (xCons (xC (.str "crash")) (xCons (xName 2) (xNil)))) (xCons (xTup (xCons (xOp gIx (xName 9) (xC (.int 0))) (xCons (xOp gIx (xName 9) (xC (.int 1))) (xCons (xOp gIx (xName 9) (xC (.int 2))) (xCons (xOp gSub (xOp gIx (xName 9) (xC (.int 3))) (xC (.int 1))) (xNil)))))) (xNil)))) (xNil))))) (yNext)
def pm_b : DenS := yIf (xTest (xOp gEqA (xName 3) (xC c_READY))) (ySeq (yFor (xItems (xOp gIx (xName 1) (xC (.int 2)))) (gSet 7) (p_member_steps_1)) (ySeq pm_c pm_d)) (yNext)
theorem pm_a_is (o : Op) {g : G} (k : Ok g) {i : Nat} {m : Mem} (hi : g.ms[i]? = some m) : pm_a (f10 o g i m [] none none none) = .next (f10 o g i m ((if m.w = .e then startT o i m else []).map (leadTo g i)) none none none) := by
  by_cases hw : m.w = .e
  · rw [if_pos hw]
    have ea1 : ∀ d, oAppend [] [d] = some ([d], .none) := fun d => oAppend_ok (by decide)
    have ea2 : ∀ d e, oAppend [d] [e] = some ([d, e], .none) := fun d e => oAppend_ok (by simp)
    have hw1 := with_member_is k hi ⟨.ready, if o.a = true then .ready else m.s, .yes⟩
    have hw2 := with_member_is k hi ⟨.lost, .lost, .no⟩
    have hD : ((startT o i m).map (leadTo g i)).map pairD = [.tuple [sVote i, .tuple [leadD g.w g.s g.vs, msD (g.ms.set i ⟨.ready, if o.a = true then .ready else m.s, .yes⟩), saidD g.n g.y, .int g.c]], .tuple [sRefuse i, .tuple [leadD g.w g.s g.vs, msD (g.ms.set i ⟨.lost, .lost, .no⟩), saidD g.n g.y, .int g.c]]] := by
      unfold startT
      simp only [List.map_cons, List.map_nil, lead0]
    unfold f10
    rw [hD]
    unfold pm_a opD
    simp only [List.map_nil]
    unfold memD sVote sRefuse at *
    dsimp only at *
    generalize stD g = S0 at *
    generalize leadD g.w g.s g.vs = LL at *
    generalize saidD g.n g.y = S at *
    cases ho : o.a <;> simp [ho] at hw1 hw2 ⊢ <;> simp [c_READY, c_YES, c_LOST, c_NO, lit_e, lit_ready, lit_yes, lit_lost, lit_no, hw, truth, ea1, ea2, hw1, hw2]
  · rw [if_neg hw]
    unfold f10 pm_a
    simp [lit_e, hw]
theorem pm_c_is (o : Op) {g : G} (k : Ok g) {i : Nat} {m : Mem} (hi : g.ms[i]? = some m) {acc : List T3} (ha : acc.length ≤ 100) (c7 c8 : Option Cell) : pm_c (f10 o g i m (acc.map (leadTo g i)) c7 c8 none) = .next (f10 o g i m ((acc ++ keepT i m).map (leadTo g i)) c7 c8 none) := by
  have ea : ∀ d, oAppend ((acc.map (leadTo g i)).map pairD) [d] = some ((acc.map (leadTo g i)).map pairD ++ [d], .none) := fun d => oAppend_ok (by rw [List.length_map, List.length_map]; omega)
  by_cases q : m.s = .ready
  · have h : keepT i m = [] := if_pos q
    rw [h, List.append_nil]
    unfold f10 pm_c
    simp [c_READY, lit_ready, q]
  · have h : keepT i m = [(sHoldM i, ⟨.ready, .ready, m.v⟩, 0)] := if_neg q
    have hw := with_member_is k hi ⟨.ready, .ready, m.v⟩
    have hD := snoc_lead (acc.map (leadTo g i)) g i (sHoldM i, ⟨.ready, .ready, m.v⟩, 0)
    rw [lead0] at hD
    rw [h, List.map_append, List.map_cons, List.map_nil]
    unfold f10 pm_c
    rw [← hD]
    unfold memD sHoldM at *
    dsimp only at *
    generalize (acc.map (leadTo g i)).map pairD = A at *
    generalize stD g = S0 at *
    generalize leadD g.w g.s g.vs = LL at *
    generalize saidD g.n g.y = S at *
    generalize msD (g.ms.set i ⟨.ready, .ready, m.v⟩) = M2 at *
    simp [c_READY, lit_ready, q, ea, hw]
theorem pm_d_is (o : Op) {g : G} (k : Ok g) {i : Nat} {m : Mem} (hi : g.ms[i]? = some m) {acc : List T3} (ha : acc.length ≤ 100) (c7 c8 : Option Cell) : ∃ c9, pm_d (f10 o g i m (acc.map (leadTo g i)) c7 c8 none) = .next (f10 o g i m ((acc ++ dieT g i m).map (leadTo g i)) c7 c8 c9) := by
  have ea : ∀ d, oAppend ((acc.map (leadTo g i)).map pairD) [d] = some ((acc.map (leadTo g i)).map pairD ++ [d], .none) := fun d => oAppend_ok (by rw [List.length_map, List.length_map]; omega)
  by_cases q : 0 < g.c
  · have h : dieT g i m = [(sCrashM i, ⟨m.s, m.s, m.v⟩, 1)] := if_pos q
    have hw := with_member_is k hi ⟨m.s, m.s, m.v⟩
    have hD := snoc_lead (acc.map (leadTo g i)) g i (sCrashM i, ⟨m.s, m.s, m.v⟩, 1)
    rw [lead1] at hD
    rw [h, List.map_append, List.map_cons, List.map_nil]
    refine ⟨some (.dat (.tuple [leadD g.w g.s g.vs, msD (g.ms.set i ⟨m.s, m.s, m.v⟩), saidD g.n g.y, .int g.c])), ?_⟩
    unfold f10 pm_d
    rw [← hD]
    unfold memD sCrashM stD at *
    dsimp only at *
    generalize (acc.map (leadTo g i)).map pairD = A at *
    generalize leadD g.w g.s g.vs = LL at *
    generalize saidD g.n g.y = S at *
    generalize msD (g.ms.set i ⟨m.s, m.s, m.v⟩) = M2 at *
    generalize msD g.ms = M at *
    simp [q, ea, hw]
  · have h : dieT g i m = [] := if_neg q
    rw [h, List.append_nil]
    refine ⟨none, ?_⟩
    unfold f10 pm_d stD
    generalize leadD g.w g.s g.vs = LL at *
    generalize saidD g.n g.y = S at *
    generalize msD g.ms = M at *
    simp [q]
theorem member_is {o : Op} {g : G} (k : Ok g) {i : Nat} {m : Mem} (hi : g.ms[i]? = some m) : d_member_steps [some (.dat (opD o)), some (.dat (stD g)), some (.dat (.int i))] = .ret (.dat (.list (((memT o g i m).map (leadTo g i)).map pairD))) [none, none, none] := by
  have hdef : d_member_steps = fnD 10 (
    ySeq (ySet (gTupD 3 (gsCons (gSet 3) (gsCons (gSet 4) (gsCons (gSet 5) (gsNil))))) (xOp gIx (xOp gIx (xName 1) (xC (.int 1))) (xName 2)))
    (ySeq (ySetNew 6 (xLst (xNil)))
    (ySeq pm_a (ySeq pm_b (yRet (xName 6)))))) := rfl
  have hat := at_ms hi
  have h1 := pm_a_is o k hi
  obtain ⟨c7, c8, c9, h2⟩ : ∃ c7 c8 c9, pm_b (f10 o g i m ((if m.w = .e then startT o i m else []).map (leadTo g i)) none none none) = .next (f10 o g i m ((memT o g i m).map (leadTo g i)) c7 c8 c9) := by
    unfold memT
    by_cases q : m.w = .ready
    · have qe : ¬ m.w = .e := by rw [q]; decide
      rw [if_neg qe, if_pos q, List.nil_append]
      obtain ⟨c7, c8, h7, h8, hl⟩ := p_learn_loop (o := o) k hi
      have hc := pm_c_is o k hi (acc := (saidL g.n g.y).map (learnT i m)) (by rw [List.length_map]; have := said_len g.n g.y; omega) c7 c8
      obtain ⟨c9, hd⟩ := pm_d_is o k hi (acc := (saidL g.n g.y).map (learnT i m) ++ keepT i m) (by rw [List.length_append, List.length_map]; have := said_len g.n g.y; unfold keepT; split <;> simp <;> omega) c7 c8
      refine ⟨c7, c8, c9, ?_⟩
      have hr : readyT g i m = (saidL g.n g.y).map (learnT i m) ++ keepT i m ++ dieT g i m := rfl
      rw [hr]
      generalize ((saidL g.n g.y).map (learnT i m) ++ keepT i m ++ dieT g i m).map (leadTo g i) = A3 at *
      generalize ((saidL g.n g.y).map (learnT i m) ++ keepT i m).map (leadTo g i) = A2 at *
      generalize ((saidL g.n g.y).map (learnT i m)).map (leadTo g i) = A1 at *
      unfold pm_b
      generalize pm_c = LC at *
      generalize pm_d = LD at *
      unfold f10 stD saidD at *
      generalize (saidL g.n g.y).map wD = SL at *
      generalize A3.map pairD = B3 at *
      generalize A2.map pairD = B2 at *
      generalize A1.map pairD = B1 at *
      have e0 : ([] : List (D × G)).map pairD = [] := rfl
      simp only [List.map_nil] at hl ⊢
      generalize leadD g.w g.s g.vs = LL at *
      generalize msD g.ms = M at *
      simp only [q] at *
      simp [c_READY, lit_ready, hl, hc, hd]
    · rw [if_neg q, List.append_nil]
      refine ⟨none, none, none, ?_⟩
      unfold pm_b f10
      simp [c_READY, lit_ready, q]
  rw [hdef, ev_fnD]
  generalize (if m.w = .e then startT o i m else []).map (leadTo g i) = A1 at *
  generalize (memT o g i m).map (leadTo g i) = TT at *
  generalize pm_a = LA at *
  generalize pm_b = LB at *
  unfold f10 at *
  generalize A1.map pairD = B1 at *
  generalize TT.map pairD = B2 at *
  have e0 : ([] : List (D × G)).map pairD = [] := rfl
  rw [e0] at h1
  unfold stD msD memD at *
  generalize leadD g.w g.s g.vs = LL at *
  generalize saidD g.n g.y = S at *
  simp [gTupD, gsCons, gsNil, hat, h1, h2]
end K24


namespace K24
open PySem PySem.Spec L2 DL
/-! k24: all steps, in order -/
def memL (o : Op) (g : G) (p : Nat × Mem) : List (D × G) := (memT o g p.1 p.2).map (leadTo g p.1)
def allL (o : Op) (g : G) : List (D × G) := if splitB g = true then [] else leadL o g ++ (numL g.ms).flatMap (memL o g)
theorem memL_len (o : Op) (g : G) (l : List (Nat × Mem)) : (l.flatMap (memL o g)).length ≤ 6 * l.length := by
  induction l with
  | nil => simp
  | cons p l ih =>
    rw [List.flatMap_cons, List.length_append, List.length_cons]
    have : (memL o g p).length ≤ 6 := by unfold memL; rw [List.length_map]; exact memT_len o g p.1 p.2
    omega
theorem lead_len {o : Op} {g : G} (k : Ok g) : (leadL o g).length ≤ 7 := by
  have h1 := open_len k (o := o)
  have h2 : (holdL g).length ≤ 1 := by unfold holdL; split <;> simp
  have h3 : (crashL o g).length ≤ 1 := by unfold crashL; split <;> simp
  unfold leadL
  rw [List.length_append]
  split <;> omega
theorem all_len {o : Op} {g : G} (k : Ok g) : (allL o g).length ≤ 31 := by
  unfold allL
  split
  · simp
  · rw [List.length_append]
    have := lead_len k (o := o)
    have := memL_len o g (numL g.ms)
    have := len_num g.ms
    have := k.ml
    omega
theorem range_num (ms : List Mem) : rangeL 0 ms.length = (numL ms).map fun p => PyData.int p.1 := by
  apply List.ext_getElem
  · simp [rangeL, numL]
  · intro i h1 h2
    simp [rangeL, numL]
theorem oExtend_ok {xs ys : List D} (h : xs.length + ys.length ≤ 16777216) : oExtend xs [.list ys] = some (xs ++ ys, .none) := if_pos h
def e4 (o : Op) (g : G) (acc : List (D × G)) (c3 : Option Cell) : DL.Env := [some (.dat (opD o)), some (.dat (stD g)), some (.own true (.list (acc.map pairD))), c3]
theorem all_loop {o : Op} {g : G} (k : Ok g) (ψ : DenS) (hψ : ∀ p ∈ numL g.ms, ∀ acc : List (D × G), acc.length ≤ 100 → ψ (e4 o g acc (some (.dat (.int p.1)))) = .next (e4 o g (acc ++ memL o g p) (some (.dat (.int p.1))))) :
    ∃ c3, Cl c3 ∧ forD (gSet 3) ψ (rangeL 0 g.ms.length) (e4 o g (leadL o g) none) = .next (e4 o g (leadL o g ++ (numL g.ms).flatMap (memL o g)) c3) := by
  obtain ⟨ρ', h1, c3, rfl, h3⟩ := forD_col (γ := gSet 3) (ψ := ψ) (g := fun p : Nat × Mem => PyData.int p.1) (f := memL o g) (E := fun acc ρ => ∃ c3, ρ = e4 o g acc c3 ∧ Cl c3)
    (bs := numL g.ms) (acc := leadL o g) (ρ := e4 o g (leadL o g) none) (N := 60) ⟨none, rfl, .none⟩ (by
      have := lead_len k (o := o)
      have := memL_len o g (numL g.ms)
      have := len_num g.ms
      have := k.ml
      omega)
    (by
      rintro p hp acc ρ ⟨c3, rfl, h3⟩ hN
      exact ⟨e4 o g acc (some (.dat (.int p.1))), _, by simp [e4, h3.cs], .inl (hψ p hp acc (by omega)), _, rfl, .dat _⟩)
  rw [← range_num] at h1
  exact ⟨c3, h3, h1⟩
theorem law_turn {o : Op} {g : G} (k : Ok g) (p : Nat × Mem) (hp : p ∈ numL g.ms) (acc : List (D × G)) (ha : acc.length ≤ 100) : p__law_group_steps_1 (e4 o g acc (some (.dat (.int p.1)))) = .next (e4 o g (acc ++ memL o g p) (some (.dat (.int p.1)))) := by
  have hm := law_member_is k (o := o) (mem_num hp)
  have hx : oExtend (acc.map pairD) [.list (((memT o g p.1 p.2).map (leadTo g p.1)).map pairD)] = some ((acc ++ memL o g p).map pairD, .none) := by
    rw [oExtend_ok (by simp only [List.length_map]; have := memT_len o g p.1 p.2; omega), List.map_append]
    rfl
  unfold e4 p__law_group_steps_1
  generalize (acc ++ memL o g p).map pairD = A2 at *
  generalize acc.map pairD = A at *
  generalize ((memT o g p.1 p.2).map (leadTo g p.1)).map pairD = B at *
  generalize stD g = S at *
  simp [hm, hx]
theorem p_turn {o : Op} {g : G} (k : Ok g) (p : Nat × Mem) (hp : p ∈ numL g.ms) (acc : List (D × G)) (ha : acc.length ≤ 100) : p_all_steps_1 (e4 o g acc (some (.dat (.int p.1)))) = .next (e4 o g (acc ++ memL o g p) (some (.dat (.int p.1)))) := by
  have hm := member_is k (o := o) (mem_num hp)
  have hx : oExtend (acc.map pairD) [.list (((memT o g p.1 p.2).map (leadTo g p.1)).map pairD)] = some ((acc ++ memL o g p).map pairD, .none) := by
    rw [oExtend_ok (by simp only [List.length_map]; have := memT_len o g p.1 p.2; omega), List.map_append]
    rfl
  unfold e4 p_all_steps_1
  generalize (acc ++ memL o g p).map pairD = A2 at *
  generalize acc.map pairD = A at *
  generalize ((memT o g p.1 p.2).map (leadTo g p.1)).map pairD = B at *
  generalize stD g = S at *
  simp [hm, hx]
theorem all_steps_is {o : Op} {g : G} (k : Ok g) : d_all_steps [some (.dat (opD o)), some (.dat (stD g))] = .ret (.dat (.list ((allL o g).map pairD))) [none, none] := by
  have hs := split_is g k.ml
  have hl := leader_is k (o := o)
  obtain ⟨c3, h3, hloop⟩ := all_loop k (o := o) _ (p_turn k)
  have hlen : gLen [msD g.ms] = some (.int g.ms.length) := by unfold msD; rw [gLen_tuple, List.length_map]
  have hrg : gRange1 [.int g.ms.length] = some (rangeL 0 g.ms.length) := by rw [gRange1_ok (by have := k.ml; omega)]; rfl
  unfold d_all_steps
  rw [ev_fnD]
  unfold allL
  cases hb : splitB g with
  | true =>
    rw [hb] at hs
    simp [hs, truth]
  | false =>
    rw [hb] at hs
    rw [if_neg Bool.false_ne_true]
    unfold e4 stD at *
    generalize (leadL o g ++ (numL g.ms).flatMap (memL o g)).map pairD = A2 at *
    generalize (leadL o g).map pairD = A1 at *
    generalize msD g.ms = M at *
    generalize rangeL 0 g.ms.length = R at *
    simp [hs, truth, hl, hlen, hrg, hloop]
end K24


namespace K24
open PySem PySem.Spec L2 DL
/-! k24: steps and states can be sorted -/
inductive Nm where | no | yes | hear | hold | crash | vote | refuse | learn
  deriving DecidableEq
def Nm.s : Nm → Str
  | .no => "no"
  | .yes => "yes"
  | .hear => "hear"
  | .hold => "hold"
  | .crash => "crash"
  | .vote => "vote"
  | .refuse => "refuse"
  | .learn => "learn"
inductive IsStep : D → Prop
  | one (n : Nm) : IsStep (.tuple [.str n.s])
  | two (n : Nm) (i : Nat) : IsStep (.tuple [.str n.s, .int i])
  | three (n : Nm) (i : Nat) (t : Wd) : IsStep (.tuple [.str n.s, .int i, wD t])
theorem IsStep.alike {a b : D} (ha : IsStep a) (hb : IsStep b) : PySem.W.alike a b = true := by
  cases ha <;> cases hb <;> simp [PySem.W.alike, PySem.W.alikeAll, wD]
theorem alike_ws : ∀ l m : List Wd, PySem.W.alikeAll (l.map wD) (m.map wD) = true
  | [], _ => by simp [PySem.W.alikeAll]
  | _ :: _, [] => by simp [PySem.W.alikeAll]
  | a :: l, b :: m => by
    have := alike_ws l m
    simp only [List.map_cons, PySem.W.alikeAll, this, Bool.and_true]
    simp [wD, PySem.W.alike]
theorem alike_ms : ∀ l m : List Mem, PySem.W.alikeAll (l.map memD) (m.map memD) = true
  | [], _ => by simp [PySem.W.alikeAll]
  | _ :: _, [] => by simp [PySem.W.alikeAll]
  | a :: l, b :: m => by
    have := alike_ms l m
    simp only [List.map_cons, PySem.W.alikeAll, this, Bool.and_true]
    simp [memD, wD, PySem.W.alike, PySem.W.alikeAll]
theorem alike_st (g h : G) : PySem.W.alike (stD g) (stD h) = true := by
  have h1 := alike_ws g.vs h.vs
  have h2 := alike_ms g.ms h.ms
  have h3 := alike_ws (saidL g.n g.y) (saidL h.n h.y)
  simp [stD, leadD, msD, saidD, PySem.W.alike, PySem.W.alikeAll, h1, h2, h3, wD]
theorem sh_nm (n : Nm) : Sh 0 (.str n.s) := by cases n <;> exact ⟨by decide +kernel, by decide +kernel⟩
theorem IsStep.sh {a : D} (ha : IsStep a) : Sh 1 a := by
  cases ha with
  | one n => exact Sh.tuple (n := 0) fun d hd => by rw [List.mem_singleton.mp hd]; exact sh_nm n
  | two n i =>
    exact Sh.tuple (n := 0) fun d hd => by
      simp only [List.mem_cons, List.not_mem_nil, or_false] at hd
      rcases hd with rfl | rfl
      · exact sh_nm n
      · exact Sh.int _
  | three n i t =>
    exact Sh.tuple (n := 0) fun d hd => by
      simp only [List.mem_cons, List.not_mem_nil, or_false] at hd
      rcases hd with rfl | rfl | rfl
      · exact sh_nm n
      · exact Sh.int _
      · exact sh_w t
theorem sh_tw (l : List Wd) : Sh 1 (.tuple (l.map wD)) := Sh.tuple fun d h => by
  obtain ⟨a, _, rfl⟩ := List.mem_map.mp h
  exact sh_w a
theorem sh_mem (m : Mem) : Sh 1 (memD m) := Sh.tuple (n := 0) fun d hd => by
  simp only [List.mem_cons, List.not_mem_nil, or_false] at hd
  rcases hd with rfl | rfl | rfl <;> exact sh_w _
theorem sh_st (g : G) : Sh 3 (stD g) := Sh.tuple (n := 2) fun d hd => by
  simp only [List.mem_cons, List.not_mem_nil, or_false] at hd
  rcases hd with rfl | rfl | rfl | rfl
  · exact Sh.tuple (n := 1) fun d hd => by
      simp only [List.mem_cons, List.not_mem_nil, or_false] at hd
      rcases hd with rfl | rfl | rfl
      · exact (sh_w _).mono (by decide)
      · exact (sh_w _).mono (by decide)
      · exact sh_tw _
  · exact Sh.tuple (n := 1) fun d hd => by
      obtain ⟨m, _, rfl⟩ := List.mem_map.mp hd
      exact sh_mem m
  · exact (sh_tw _).mono (by decide)
  · exact (Sh.int _).mono (by decide)
theorem sh_pair {p : D × G} (h : IsStep p.1) : Sh 4 (pairD p) := Sh.tuple (n := 3) fun d hd => by
  simp only [List.mem_cons, List.not_mem_nil, or_false] at hd
  rcases hd with rfl | rfl
  · exact h.sh.mono (by decide)
  · exact sh_st _
theorem canSort_of {ds : List D} {n : Nat} (hn : n ≤ 64) (h1 : ∀ d ∈ ds, Sh n d) (h2 : ∀ a ∈ ds, ∀ b ∈ ds, PySem.W.alike a b = true) (h3 : ∀ d ∈ ds, ∃ x r, d = .tuple (x :: r)) : canSort ds = true := by
  unfold canSort alikeB sortB
  simp only [Bool.and_eq_true, Bool.or_eq_true, List.all_eq_true]
  refine ⟨fun d hd => (h1 d hd).shaped hn, h2, .inl fun d hd => ?_⟩
  obtain ⟨x, r, rfl⟩ := h3 d hd
  rfl
theorem IsStep.tup {a : D} (h : IsStep a) : ∃ x r, a = .tuple (x :: r) := by cases h <;> exact ⟨_, _, rfl⟩
theorem sort_steps {ds : List D} (h : ∀ d ∈ ds, IsStep d) : canSort ds = true := canSort_of (n := 1) (by decide) (fun d hd => (h d hd).sh) (fun a ha b hb => (h a ha).alike (h b hb)) fun d hd => (h d hd).tup
theorem sort_pairs {L : List (D × G)} (h : ∀ p ∈ L, IsStep p.1) : canSort (L.map pairD) = true := canSort_of (n := 4) (by decide) (fun d hd => by
  obtain ⟨p, hp, rfl⟩ := List.mem_map.mp hd
  exact sh_pair (h p hp)) (fun a ha b hb => by
  obtain ⟨p, hp, rfl⟩ := List.mem_map.mp ha
  obtain ⟨q, hq, rfl⟩ := List.mem_map.mp hb
  simp [pairD, PySem.W.alike, PySem.W.alikeAll, (h p hp).alike (h q hq), alike_st]) fun d hd => by
  obtain ⟨p, hp, rfl⟩ := List.mem_map.mp hd
  exact ⟨_, _, rfl⟩
/-! what the steps are -/
def ixD : D → Option Int
  | .tuple (_ :: .int i :: _) => some i
  | _ => none
def nmD : D → Option D
  | .tuple (x :: _) => some x
  | _ => none
theorem hear_step {g : G} {p : Nat × Mem} {q : D × G} (h : q ∈ hearF g p) : q = (sHear p.1, { g with vs := g.vs.set p.1 p.2.v }) := by
  unfold hearF at h
  split at h
  · exact List.mem_singleton.mp h
  · cases h
theorem lead_step {o : Op} {g : G} {q : D × G} (h : q ∈ leadL o g) : IsStep q.1 ∧ (ixD q.1 = none ∨ nmD q.1 = some (.str Nm.hear.s)) := by
  unfold leadL at h
  rcases List.mem_append.mp h with h | h
  · by_cases hw : g.w = .e
    · rw [if_pos hw] at h
      unfold openL at h
      rcases List.mem_append.mp h with h | h
      · rcases List.mem_append.mp h with h | h
        · rw [List.mem_singleton.mp h]; exact ⟨.one .no, .inl rfl⟩
        · unfold yesL at h
          split at h
          · rw [List.mem_singleton.mp h]; exact ⟨.one .yes, .inl rfl⟩
          · cases h
      · obtain ⟨p, hp, hq⟩ := List.mem_flatMap.mp h
        rw [hear_step hq]
        exact ⟨.two .hear _, .inr rfl⟩
    · rw [if_neg hw] at h
      unfold holdL at h
      split at h
      · cases h
      · rw [List.mem_singleton.mp h]; exact ⟨.one .hold, .inl rfl⟩
  · unfold crashL at h
    split at h
    · rw [List.mem_singleton.mp h]; exact ⟨.one .crash, .inl rfl⟩
    · cases h
theorem memT_step {o : Op} {g : G} {i : Nat} {m : Mem} {t : T3} (h : t ∈ memT o g i m) : IsStep t.1 ∧ ixD t.1 = some (i : Int) ∧ nmD t.1 ≠ some (.str Nm.hear.s) := by
  have hne : ∀ n : Nm, n ≠ .hear → some (PyData.str n.s) ≠ some (.str Nm.hear.s) := fun n hn e => by
    have e : n.s = Nm.hear.s := by simpa using e
    cases n <;> first | exact hn rfl | exact absurd e (by decide +kernel)
  unfold memT at h
  rcases List.mem_append.mp h with h | h
  · split at h
    · simp only [startT, List.mem_cons, List.not_mem_nil, or_false] at h
      rcases h with rfl | rfl
      · exact ⟨.two .vote i, rfl, hne .vote (by decide)⟩
      · exact ⟨.two .refuse i, rfl, hne .refuse (by decide)⟩
    · cases h
  · split at h
    · unfold readyT at h
      rcases List.mem_append.mp h with h | h
      · rcases List.mem_append.mp h with h | h
        · obtain ⟨w, _, rfl⟩ := List.mem_map.mp h
          exact ⟨.three .learn i w, rfl, hne .learn (by decide)⟩
        · unfold keepT at h
          split at h
          · cases h
          · rw [List.mem_singleton.mp h]; exact ⟨.two .hold i, rfl, hne .hold (by decide)⟩
      · unfold dieT at h
        split at h
        · rw [List.mem_singleton.mp h]; exact ⟨.two .crash i, rfl, hne .crash (by decide)⟩
        · cases h
    · cases h
theorem memL_step {o : Op} {g : G} {p : Nat × Mem} {q : D × G} (h : q ∈ memL o g p) : IsStep q.1 ∧ ixD q.1 = some (p.1 : Int) ∧ nmD q.1 ≠ some (.str Nm.hear.s) := by
  obtain ⟨t, ht, rfl⟩ := List.mem_map.mp h
  exact memT_step ht
theorem all_step {o : Op} {g : G} {q : D × G} (h : q ∈ allL o g) : IsStep q.1 := by
  unfold allL at h
  split at h
  · cases h
  · rcases List.mem_append.mp h with h | h
    · exact (lead_step h).1
    · obtain ⟨p, _, hq⟩ := List.mem_flatMap.mp h
      exact (memL_step hq).1
end K24


namespace K24
open PySem PySem.Spec L2 DL
/-! k24: no step twice -/
theorem two_inj {a b : Nm} {i j : Nat} (h : PyData.tuple [.str a.s, .int i] = .tuple [.str b.s, .int j]) : i = j := by
  simp only [PyData.tuple.injEq, List.cons.injEq, PyData.int.injEq, and_true] at h
  omega
theorem nm_ne {a b : Nm} (h : a ≠ b) : a.s ≠ b.s := fun e => by
  cases a <;> cases b <;> first | exact h rfl | exact absurd e (by decide +kernel)
theorem firsts_ne {a b : Nm} (h : a ≠ b) {r t : List D} : PyData.tuple (.str a.s :: r) ≠ .tuple (.str b.s :: t) := fun e => by
  simp only [PyData.tuple.injEq, List.cons.injEq, PyData.str.injEq] at e
  exact nm_ne h e.1
theorem len_ne {a b : D} {r : List D} : PyData.tuple [a] ≠ .tuple (b :: a2 :: r) := fun e => by
  simp at e
theorem num_pw {α : Type} (ms : List α) : (numL ms).Pairwise fun p q => p.1 ≠ q.1 := by
  unfold numL
  rw [List.pairwise_map]
  have : (ms.zipIdx.map (·.2)).Nodup := by
    have e : ms.zipIdx.map (·.2) = List.range ms.length := by
      apply List.ext_getElem <;> simp
    rw [e]
    exact List.nodup_range
  rw [List.Nodup, List.pairwise_map] at this
  exact this
abbrev Apart (p q : D × G) : Prop := p.1 ≠ q.1
theorem open_apart (o : Op) (g : G) : (openL o g).Pairwise Apart := by
  unfold openL
  have hl : ((numL g.ms).flatMap (hearF g)).Pairwise Apart := by
    rw [List.pairwise_flatMap]
    refine ⟨fun p _ => by unfold hearF; split <;> simp, (num_pw g.ms).imp fun {p q} hpq x hx y hy => ?_⟩
    rw [hear_step hx, hear_step hy]
    exact fun e => hpq (two_inj (a := .hear) (b := .hear) e)
  have hh : ∀ q ∈ (numL g.ms).flatMap (hearF g), ∃ i : Nat, q.1 = sHear i := fun q hq => by
    obtain ⟨p, _, h⟩ := List.mem_flatMap.mp hq
    rw [hear_step h]
    exact ⟨_, rfl⟩
  have hy : ∀ q ∈ yesL o g, q.1 = sYes := fun q hq => by
    unfold yesL at hq
    split at hq
    · rw [List.mem_singleton.mp hq]
    · cases hq
  rw [List.pairwise_append]
  refine ⟨?_, hl, ?_⟩
  · rw [List.pairwise_append]
    refine ⟨List.pairwise_singleton _ _, by unfold yesL; split <;> simp, fun a ha b hb => ?_⟩
    rw [List.mem_singleton.mp ha, Apart, hy b hb]
    exact firsts_ne (a := .no) (b := .yes) (by decide)
  · intro a ha b hb
    obtain ⟨i, hi⟩ := hh b hb
    rw [Apart, hi]
    rcases List.mem_append.mp ha with ha | ha
    · rw [List.mem_singleton.mp ha]
      exact firsts_ne (a := .no) (b := .hear) (by decide)
    · rw [hy a ha]
      exact firsts_ne (a := .yes) (b := .hear) (by decide)
theorem lead_apart (o : Op) (g : G) : (leadL o g).Pairwise Apart := by
  have hc : ∀ q ∈ crashL o g, q.1 = sCrash := fun q hq => by
    unfold crashL at hq
    split at hq
    · rw [List.mem_singleton.mp hq]
    · cases hq
  unfold leadL
  rw [List.pairwise_append]
  refine ⟨?_, by unfold crashL; split <;> simp, fun a ha b hb => ?_⟩
  · split
    · exact open_apart o g
    · unfold holdL; split <;> simp
  · rw [Apart, hc b hb]
    split at ha
    · unfold openL at ha
      rcases List.mem_append.mp ha with ha | ha
      · rcases List.mem_append.mp ha with ha | ha
        · rw [List.mem_singleton.mp ha]
          exact firsts_ne (a := .no) (b := .crash) (by decide)
        · unfold yesL at ha
          split at ha
          · rw [List.mem_singleton.mp ha]
            exact firsts_ne (a := .yes) (b := .crash) (by decide)
          · cases ha
      · obtain ⟨p, _, h⟩ := List.mem_flatMap.mp ha
        rw [hear_step h]
        exact firsts_ne (a := .hear) (b := .crash) (by decide)
    · unfold holdL at ha
      split at ha
      · cases ha
      · rw [List.mem_singleton.mp ha]
        exact firsts_ne (a := .hold) (b := .crash) (by decide)
theorem memT_apart (o : Op) (g : G) (i : Nat) (m : Mem) : (memT o g i m).Pairwise fun p q => p.1 ≠ q.1 := by
  have h1 : (startT o i m).Pairwise fun p q => p.1 ≠ q.1 := by
    unfold startT
    rw [List.pairwise_cons]
    refine ⟨fun b hb => ?_, List.pairwise_singleton _ _⟩
    rw [List.mem_singleton.mp hb]
    exact firsts_ne (a := .vote) (b := .refuse) (by decide)
  have hl : ∀ t ∈ (saidL g.n g.y).map (learnT i m), ∃ w, t.1 = sLearn i w := fun t ht => by
    obtain ⟨w, _, rfl⟩ := List.mem_map.mp ht
    exact ⟨w, rfl⟩
  have hk : ∀ t ∈ keepT i m, t.1 = sHoldM i := fun t ht => by
    unfold keepT at ht
    split at ht
    · cases ht
    · rw [List.mem_singleton.mp ht]
  have hd : ∀ t ∈ dieT g i m, t.1 = sCrashM i := fun t ht => by
    unfold dieT at ht
    split at ht
    · rw [List.mem_singleton.mp ht]
    · cases ht
  have h2 : (readyT g i m).Pairwise fun p q => p.1 ≠ q.1 := by
    unfold readyT
    rw [List.pairwise_append, List.pairwise_append]
    refine ⟨⟨?_, by unfold keepT; split <;> simp, fun a ha b hb => ?_⟩, by unfold dieT; split <;> simp, fun a ha b hb => ?_⟩
    · rw [List.pairwise_map]
      have : (saidL g.n g.y).Nodup := by cases g.n <;> cases g.y <;> decide
      refine List.Pairwise.imp (fun {a b} h e => h ?_) this
      have e : sLearn i a = sLearn i b := e
      unfold sLearn at e
      simp only [PyData.tuple.injEq, List.cons.injEq, and_true, true_and] at e
      exact wD_inj.mp e
    · obtain ⟨w, hw⟩ := hl a ha
      rw [hw, hk b hb]
      exact firsts_ne (a := .learn) (b := .hold) (by decide)
    · rw [hd b hb]
      rcases List.mem_append.mp ha with ha | ha
      · obtain ⟨w, hw⟩ := hl a ha
        rw [hw]
        exact firsts_ne (a := .learn) (b := .crash) (by decide)
      · rw [hk a ha]
        exact firsts_ne (a := .hold) (b := .crash) (by decide)
  unfold memT
  by_cases q : m.w = .e
  · rw [if_pos q, if_neg (by rw [q]; decide), List.append_nil]
    exact h1
  · rw [if_neg q, List.nil_append]
    split
    · exact h2
    · exact List.Pairwise.nil
theorem all_apart (o : Op) (g : G) : (allL o g).Pairwise Apart := by
  unfold allL
  split
  · exact List.Pairwise.nil
  · rw [List.pairwise_append]
    refine ⟨lead_apart o g, ?_, fun a ha b hb e => ?_⟩
    · rw [List.pairwise_flatMap]
      refine ⟨fun p _ => ?_, (num_pw g.ms).imp fun {p q} hpq x hx y hy e => ?_⟩
      · unfold memL
        rw [List.pairwise_map]
        exact memT_apart o g p.1 p.2
      · have e : x.1 = y.1 := e
        have h1 := (memL_step hx).2.1
        have h2 := (memL_step hy).2.1
        rw [e, h2] at h1
        simp only [Option.some.injEq] at h1
        omega
    · obtain ⟨p, _, hq⟩ := List.mem_flatMap.mp hb
      have e : a.1 = b.1 := e
      have h1 := (lead_step ha).2
      obtain ⟨_, h2, h3⟩ := memL_step hq
      rw [e] at h1
      rcases h1 with h1 | h1
      · rw [h1] at h2; cases h2
      · exact h3 h1
/-- the state behind a step is the only one -/
theorem find_step {o : Op} {g : G} {q : D × G} (h : q ∈ allL o g) {P : D × G → Bool} (hP : ∀ p ∈ allL o g, P p = true ↔ p.1 = q.1) : (allL o g).find? P = some q := by
  have ha := all_apart o g
  revert h hP ha
  generalize allL o g = L
  intro h hP ha
  induction L with
  | nil => cases h
  | cons p L ih =>
    rw [List.pairwise_cons] at ha
    rcases List.mem_cons.mp h with e | e
    · subst e
      have : P q = true := (hP q List.mem_cons_self).mpr rfl
      rw [List.find?_cons, this]
    · have : P p = false := by
        cases hp : P p with
        | false => rfl
        | true => exact absurd ((hP p List.mem_cons_self).mp hp) (ha.1 q e)
      rw [List.find?_cons, this]
      exact ih e (fun p hp => hP p (List.mem_cons_of_mem _ hp)) ha.2
end K24


namespace K24
open PySem PySem.Spec L2 DL
/-! k24: steps told, the state behind a step -/
theorem group_parts {o : Op} {g : G} : ∃ L' : List (D × G), L'.Perm (allL o g) ∧ sortD ((allL o g).map pairD) = L'.map pairD ∧ sortD ((allL o g).map (·.1)) = L'.map (·.1) :=
  sort_fst (f := stD) (L := allL o g) (sort_pairs fun p hp => all_step hp) (sort_steps fun d hd => by
    obtain ⟨p, hp, rfl⟩ := List.mem_map.mp hd
    exact all_step hp)
theorem law_group_is {o : Op} {g : G} (k : Ok g) : d__law_group_steps [some (.dat (opD o)), some (.dat (stD g))] = .ret (.dat (.list (sortD ((allL o g).map pairD)))) [none, none] := by
  have hs := law_split_is g k.ml
  have hl := law_leader_is k (o := o)
  obtain ⟨c3, h3, hloop⟩ := all_loop k (o := o) _ (law_turn k)
  have hlen : gLen [msD g.ms] = some (.int g.ms.length) := by unfold msD; rw [gLen_tuple, List.length_map]
  have hrg : gRange1 [.int g.ms.length] = some (rangeL 0 g.ms.length) := by rw [gRange1_ok (by have := k.ml; omega)]; rfl
  have hsort : gSorted (.list ((allL o g).map pairD)) = some (.list (sortD ((allL o g).map pairD))) := if_pos (sort_pairs fun p hp => all_step hp)
  unfold d__law_group_steps
  rw [ev_fnD]
  unfold allL at *
  cases hb : splitB g with
  | true =>
    rw [hb] at hs
    have e : sortD (([] : List (D × G)).map pairD) = [] := by simp [sortD]
    rw [if_pos rfl, e]
    simp [hs, truth]
  | false =>
    rw [hb] at hs hsort
    rw [if_neg Bool.false_ne_true] at hsort ⊢
    unfold e4 stD at *
    generalize (leadL o g ++ (numL g.ms).flatMap (memL o g)).map pairD = A2 at *
    generalize (leadL o g).map pairD = A1 at *
    generalize msD g.ms = M at *
    generalize rangeL 0 g.ms.length = R at *
    simp [hs, truth, hl, hlen, hrg, hloop, hsort]
theorem group_is {o : Op} {g : G} (k : Ok g) : d_group_steps [some (.dat (opD o)), some (.dat (stD g))] = .ret (.dat (.tuple (sortD ((allL o g).map (·.1))))) [none, none] := by
  have ha := all_steps_is k (o := o)
  have hlc : lcD [2, 3] (gTupD 2 (gsCons (gSet 2) (gsCons (gSet 3) (gsNil)))) xYes (xName 2) ((allL o g).map pairD) [some (.dat (opD o)), some (.dat (stD g)), none, none] = .ok ((allL o g).map (·.1)) [some (.dat (opD o)), some (.dat (stD g)), none, none] := by
    refine lcD_gen (g := pairD) (f := fun p => p.1) fun p _ => ⟨[some (.dat (opD o)), some (.dat (stD g)), some (.dat p.1), some (.dat (stD p.2))], ?_, by simp [wipeE]⟩
    simp [lcTurn, pairD, gTupD, gsCons, gsNil]
  have hsort : gSorted (.list ((allL o g).map (·.1))) = some (.list (sortD ((allL o g).map (·.1)))) := if_pos (sort_steps fun d hd => by
    obtain ⟨p, hp, rfl⟩ := List.mem_map.mp hd
    exact all_step hp)
  have ht : ∀ L : List D, gTuple [.list L] = some (.tuple L) := fun _ => rfl
  have hz : ((allL o g).map pairD).length ≤ 16777216 := by rw [List.length_map]; have := all_len k (o := o); omega
  unfold d_group_steps
  rw [ev_fnD]
  generalize sortD ((allL o g).map (·.1)) = S2 at *
  generalize (allL o g).map (·.1) = S1 at *
  generalize (allL o g).map pairD = A at *
  generalize stD g = S at *
  simp [ha, hlc, hsort, ht, hz, wipeE, unwipe, datOnly]
/-! is this the step? -/
def stepParts (d : D) : List D := match d with | .tuple ds => ds | _ => []
def sameB (one thing : D) : Bool := match thing with
  | .tuple ts => PyData.eqvAll (stepParts one) ts && ts.all fun t => !isBoolD t
  | _ => false
theorem step_key {one : D} (h : IsStep one) : ∃ ds, one = .tuple ds ∧ ds.all isKeyD = true := by
  cases h <;> exact ⟨_, rfl, rfl⟩
theorem sameB_iff {one thing : D} (h : IsStep one) : sameB one thing = true → thing = one := by
  obtain ⟨ds, rfl, hk⟩ := step_key h
  cases thing <;> simp only [sameB, Bool.false_eq_true, false_implies, stepParts]
  intro e
  rw [Bool.and_eq_true] at e
  rw [eqvAll_atoms hk e.2 e.1]
theorem sameB_self {one : D} (h : IsStep one) : sameB one one = true := by
  obtain ⟨ds, rfl, hk⟩ := step_key h
  simp only [sameB, stepParts, eqvAll_self hk, Bool.true_and, List.all_eq_true]
  intro d hd
  have := List.all_eq_true.mp hk d hd
  cases d <;> first | rfl | cases this
theorem is_step_is {one thing : D} (h : IsStep one) {n : Nat} (ht : Sh n thing) (hn : n ≤ 64) (hl : ∀ ts, thing = .tuple ts → ts.length ≤ 1000) : d_is_step [some (.dat one), some (.dat thing)] = .ret (.dat (.bool (sameB one thing))) [none, none] := by
  have hne := neA_sh h.sh ht (by decide) hn
  unfold d_is_step
  rw [ev_fnD]
  obtain ⟨ds, rfl, hk⟩ := step_key h
  cases thing with
  | tuple ts =>
    have e1 : PyData.eqv (.tuple ds) (.tuple ts) = PyData.eqvAll ds ts := rfl
    have hz : ts.length ≤ 16777216 := by have := hl ts rfl; omega
    have hlc : lcD [2] (gSet 2) xYes (xNotV (xIsi "bool" (xName 2))) ts [some (.dat (.tuple ds)), some (.dat (.tuple ts)), none] = .ok ((ts.map fun t => !isBoolD t).map .bool) [some (.dat (.tuple ds)), some (.dat (.tuple ts)), none] := by
      rw [List.map_map]
      refine lcD_map (f := fun t => .bool (!isBoolD t)) fun t _ => ⟨[some (.dat (.tuple ds)), some (.dat (.tuple ts)), some (.dat t)], ?_, by simp [wipeE]⟩
      cases t <;> simp [lcTurn, isiD, tyN, truth, isBoolD]
    have hall : gAll [.list ((ts.map fun t => !isBoolD t).map .bool)] = some (.bool (ts.all fun t => !isBoolD t)) := by
      rw [gAll_bools, List.all_map]; rfl
    rw [e1] at hne
    simp only [sameB, stepParts]
    generalize (ts.map fun t => !isBoolD t).map PyData.bool = B at *
    cases he : PyData.eqvAll ds ts with
    | true =>
      rw [he] at hne
      generalize (ts.all fun t => !isBoolD t) = b at *
      simp [isiD, tyN, truth, hne, hlc, hall, hz, wipeE, unwipe, datOnly]
    | false =>
      rw [he] at hne
      simp [isiD, tyN, truth, hne]
  | _ => simp [isiD, tyN, truth, sameB]
/-! the state behind -/
theorem behind_loop {o : Op} {g : G} (k : Ok g) {thing : D} {n : Nat} (ht : Sh n thing) (hn : n ≤ 64) (hl : ∀ ts, thing = .tuple ts → ts.length ≤ 1000) (S0 : D) :
    (((allL o g).find? fun p => sameB p.1 thing) = none → ∃ c3 c4, forD (gTupD 2 (gsCons (gSet 3) (gsCons (gSet 4) (gsNil)))) p_group_behind_1 ((allL o g).map pairD) [some (.dat (opD o)), some (.dat S0), some (.dat thing), none, none] = .next [some (.dat (opD o)), some (.dat S0), some (.dat thing), c3, c4]) ∧
    (∀ q, ((allL o g).find? fun p => sameB p.1 thing) = some q → ∃ c3 c4, forD (gTupD 2 (gsCons (gSet 3) (gsCons (gSet 4) (gsNil)))) p_group_behind_1 ((allL o g).map pairD) [some (.dat (opD o)), some (.dat S0), some (.dat thing), none, none] = .ret (.dat (stD q.2)) [some (.dat (opD o)), some (.dat S0), some (.dat thing), c3, c4]) := by
  obtain ⟨h1, h2⟩ := forD_first (γ := gTupD 2 (gsCons (gSet 3) (gsCons (gSet 4) (gsNil)))) (ψ := p_group_behind_1) (g := pairD) (P := fun p => sameB p.1 thing) (E := fun ρ => ∃ c3 c4, ρ = [some (.dat (opD o)), some (.dat S0), some (.dat thing), c3, c4] ∧ Cl c3 ∧ Cl c4) (R := fun q r => r = .dat (stD q.2)) (bs := allL o g) (ρ := [some (.dat (opD o)), some (.dat S0), some (.dat thing), none, none]) ⟨none, none, rfl, .none, .none⟩
    (by
      rintro ⟨one, h⟩ hp ρ ⟨c3, c4, rfl, h3, h4⟩
      have hs := is_step_is (all_step hp) ht hn hl
      dsimp only at hs ⊢
      refine ⟨[some (.dat (opD o)), some (.dat S0), some (.dat thing), some (.dat one), some (.dat (stD h))], by simp [pairD, gTupD, gsCons, gsNil, h3.cs, h4.cs], fun e => ?_, fun e => ?_⟩
      · rw [e] at hs
        refine ⟨_, .inl (show p_group_behind_1 _ = .next [some (.dat (opD o)), some (.dat S0), some (.dat thing), some (.dat one), some (.dat (stD h))] from ?_), _, _, rfl, .dat _, .dat _⟩
        unfold p_group_behind_1
        simp [hs, truth]
      · rw [e] at hs
        refine ⟨.dat (stD h), [some (.dat (opD o)), some (.dat S0), some (.dat thing), some (.dat one), some (.dat (stD h))], ?_, rfl, _, _, rfl, .dat _, .dat _⟩
        unfold p_group_behind_1
        simp [hs, truth])
  refine ⟨fun e => ?_, fun q e => ?_⟩
  · obtain ⟨ρ', e1, c3, c4, rfl, _⟩ := h1 e
    exact ⟨c3, c4, e1⟩
  · obtain ⟨r, ρ', e1, rfl, c3, c4, rfl, _⟩ := h2 q e
    exact ⟨c3, c4, e1⟩
theorem IsStep.short {a : D} (h : IsStep a) : ∀ ts, a = .tuple ts → ts.length ≤ 1000 := by
  cases h <;> intro ts e <;> cases e <;> simp
theorem heard_told {o : Op} {g : G} (k : Ok g) {q : D × G} (hq : q ∈ allL o g) : d__law_heard [some (.dat (opD o)), some (.dat (stD g)), some (.dat q.1)] = .ret (.dat (.tuple [.str "told", stD q.2])) [none, none, none] := by
  have hst := all_step hq
  have hfind := find_step hq (P := fun p => sameB p.1 q.1) fun p hp => ⟨fun e => (sameB_iff (all_step hp) e).symm, fun e => by rw [e]; exact sameB_self hst⟩
  obtain ⟨c3, c4, e1⟩ := (behind_loop k (o := o) hst.sh (by decide) hst.short (stD g)).2 q hfind
  have ha := all_steps_is k (o := o)
  have hb : d_group_behind [some (.dat (opD o)), some (.dat (stD g)), some (.dat q.1)] = .ret (.dat (stD q.2)) [none, none, none] := by
    unfold d_group_behind
    rw [ev_fnD]
    generalize (allL o g).map pairD = A at *
    generalize stD g = S at *
    generalize stD q.2 = S2 at *
    generalize q.1 = T at *
    simp [ha, e1]
  unfold d__law_heard
  rw [ev_fnD]
  generalize stD g = S at *
  generalize stD q.2 = S2 at *
  generalize q.1 = T at *
  simp [hb]
theorem heard_refused {o : Op} {g : G} (k : Ok g) {thing : D} {n : Nat} (ht : Sh n thing) (hn : n ≤ 64) (hl : ∀ ts, thing = .tuple ts → ts.length ≤ 1000) (hno : ∀ p ∈ allL o g, thing ≠ p.1) : d__law_heard [some (.dat (opD o)), some (.dat (stD g)), some (.dat thing)] = .ret (.dat (.tuple [.str "refused", .str "step"])) [none, none, none] := by
  have hfind : ((allL o g).find? fun p => sameB p.1 thing) = none := List.find?_eq_none.mpr fun p hp e => hno p hp (sameB_iff (all_step hp) e)
  obtain ⟨c3, c4, e1⟩ := (behind_loop k (o := o) ht hn hl (stD g)).1 hfind
  have ha := all_steps_is k (o := o)
  have hb : d_group_behind [some (.dat (opD o)), some (.dat (stD g)), some (.dat thing)] = .exc ⟨"Refused", [("why", .str "step")]⟩ [none, none, none] := by
    unfold d_group_behind
    rw [ev_fnD]
    generalize (allL o g).map pairD = A at *
    generalize stD g = S at *
    simp [ha, e1]
  unfold d__law_heard
  rw [ev_fnD]
  generalize stD g = S at *
  simp [hb, gFld]
end K24


namespace K24
open PySem PySem.Spec L2 DL
/-! k24: what is shown; odd steps -/
theorem nc_lit {s : String} (h : (Str.ofString s).length ≤ 20 := by decide +kernel) (h2 : ∀ c ∈ (Str.ofString s).cps.toList, c < 0x110000 := by decide +kernel) : Nc 0 41 (.str (Str.ofString s)) := by
  have e : Str.ofString s = Z (Str.ofString s).cps.toList := by
    generalize Str.ofString s = x
    cases x
    simp [Z]
  rw [e]
  refine (Nc.str (n := 20) ⟨?_, h2⟩).mono (by decide) (by decide)
  rw [Array.length_toList]
  exact h
theorem nc_w (a : Wd) : Nc 0 41 (wD a) := by cases a <;> exact nc_lit
theorem nc_nm (n : Nm) : Nc 0 41 (.str n.s) := by cases n <;> exact nc_lit
theorem nc_i {i : Nat} (h : i ≤ 1000) : Nc 0 41 (.int i) := nc_int (by omega)
theorem nc_tup {ds : List D} {n w k : Nat} (hk : ds.length ≤ k) (h : ∀ d ∈ ds, Nc n w d) : Nc (n + 1) (k * (w + 1)) (.tuple ds) := Nc.tuple h hk
theorem nc_mem (m : Mem) : Nc 1 126 (memD m) := nc_tup (ds := [wD m.w, wD m.s, wD m.v]) (n := 0) (w := 41) (k := 3) (by simp) fun d hd => by
  simp only [List.mem_cons, List.not_mem_nil, or_false] at hd
  rcases hd with rfl | rfl | rfl <;> exact nc_w _
theorem nc_ws {l : List Wd} (h : l.length ≤ 4) : Nc 1 168 (.tuple (l.map wD)) := nc_tup (ds := l.map wD) (n := 0) (w := 41) (k := 4) (by simpa using h) fun d hd => by
  obtain ⟨a, _, rfl⟩ := List.mem_map.mp hd
  exact nc_w a
structure Fit (g : G) : Prop extends Ok g where
  c0 : 0 ≤ g.c
  c3 : g.c ≤ 3
theorem nc_st {g : G} (f : Fit g) : Nc 3 2036 (stD g) := nc_tup (ds := [leadD g.w g.s g.vs, msD g.ms, saidD g.n g.y, .int g.c]) (n := 2) (k := 4) (w := 508) (by simp) fun d hd => by
  simp only [List.mem_cons, List.not_mem_nil, or_false] at hd
  rcases hd with rfl | rfl | rfl | rfl
  · refine (nc_tup (ds := [wD g.w, wD g.s, .tuple (g.vs.map wD)]) (n := 1) (w := 168) (k := 3) (by simp) fun d hd => ?_).mono (by decide) (by decide)
    simp only [List.mem_cons, List.not_mem_nil, or_false] at hd
    rcases hd with rfl | rfl | rfl
    · exact (nc_w _).mono (by decide) (by decide)
    · exact (nc_w _).mono (by decide) (by decide)
    · exact nc_ws (by rw [f.vl]; exact f.ml)
  · exact nc_tup (ds := g.ms.map memD) (n := 1) (w := 126) (k := 4) (by simpa using f.ml) fun d hd => by
      obtain ⟨m, _, rfl⟩ := List.mem_map.mp hd
      exact nc_mem m
  · exact (nc_ws (by have := said_len g.n g.y; omega)).mono (by decide) (by decide)
  · exact (nc_int (by have := f.c0; have := f.c3; omega)).mono (by decide) (by decide)
inductive SmStep : D → Prop
  | one (n : Nm) : SmStep (.tuple [.str n.s])
  | two (n : Nm) {i : Nat} (h : i ≤ 1000) : SmStep (.tuple [.str n.s, .int i])
  | three (n : Nm) {i : Nat} (h : i ≤ 1000) (t : Wd) : SmStep (.tuple [.str n.s, .int i, wD t])
theorem SmStep.nc {d : D} (h : SmStep d) : Nc 1 126 d := by
  cases h with
  | one n =>
    refine (nc_tup (n := 0) (w := 41) (k := 3) (by simp) fun d hd => ?_)
    rw [List.mem_singleton.mp hd]; exact nc_nm n
  | two n h =>
    refine (nc_tup (n := 0) (w := 41) (k := 3) (by simp) fun d hd => ?_)
    simp only [List.mem_cons, List.not_mem_nil, or_false] at hd
    rcases hd with rfl | rfl
    · exact nc_nm n
    · exact nc_i h
  | three n h t =>
    refine (nc_tup (n := 0) (w := 41) (k := 3) (by simp) fun d hd => ?_)
    simp only [List.mem_cons, List.not_mem_nil, or_false] at hd
    rcases hd with rfl | rfl | rfl
    · exact nc_nm n
    · exact nc_i h
    · exact nc_w t
theorem IsStep.sm {d : D} (h : IsStep d) (hi : ∀ i, ixD d = some i → i ≤ 1000) : SmStep d := by
  cases h with
  | one n => exact .one n
  | two n i => exact .two n (by have := hi i rfl; omega)
  | three n i t => exact .three n (by have := hi i rfl; omega) t
theorem all_sm {o : Op} {g : G} (k : Ok g) {q : D × G} (h : q ∈ allL o g) : SmStep q.1 := by
  have hs := all_step h
  refine hs.sm fun i hi => ?_
  unfold allL at h
  split at h
  · cases h
  · rcases List.mem_append.mp h with h | h
    · have h2 := (lead_step h).2
      unfold leadL at h
      rcases List.mem_append.mp h with h | h
      · split at h
        · unfold openL at h
          rcases List.mem_append.mp h with h | h
          · rcases List.mem_append.mp h with h | h
            · rw [List.mem_singleton.mp h] at hi; cases hi
            · unfold yesL at h
              split at h
              · rw [List.mem_singleton.mp h] at hi; cases hi
              · cases h
          · obtain ⟨p, hp, hq⟩ := List.mem_flatMap.mp h
            rw [hear_step hq] at hi
            have hlt := (List.getElem?_eq_some_iff.mp (mem_num hp)).1
            have := k.ml
            have : (p.1 : Int) = i := by simpa [sHear, ixD] using hi
            omega
        · unfold holdL at h
          split at h
          · cases h
          · rw [List.mem_singleton.mp h] at hi; cases hi
      · unfold crashL at h
        split at h
        · rw [List.mem_singleton.mp h] at hi; cases hi
        · cases h
    · obtain ⟨p, hp, hq⟩ := List.mem_flatMap.mp h
      rw [(memL_step hq).2.1] at hi
      have hlt := (List.getElem?_eq_some_iff.mp (mem_num hp)).1
      have := k.ml
      have : (p.1 : Int) = i := by simpa using hi
      omega
/-! the odd steps -/
def oddL (many v : Int) : List D := [.tuple [.str "vote", .int v], .tuple [.str "refuse", .int v], .tuple [.str "hear", .int v], .tuple [.str "hold", .int v], .tuple [.str "crash", .int v], .tuple [.str "learn", .int v, .str "yes"]] ++
  [.tuple [.str "learn", .int v, .str "no"], .tuple [.str "yes"], .tuple [.str "no"], .tuple [.str "hold"], .tuple [.str "crash"], .tuple [.str "vote", .int many], .tuple [.str "vote", .int (-1)]] ++
  [.tuple [.str "vote", .bool true], .tuple [.str "vote", .bool false], .list [.str "no"], .str "no", .tuple [.str "no", .int 0], .tuple [.str "learn", .int v], .tuple [.str "crash", .none]] ++ [.int 0, .none, .tuple []]
inductive Atom : D → Prop
  | str {s : String} (h : (Str.ofString s).length ≤ 20) (h2 : ∀ c ∈ (Str.ofString s).cps.toList, c < 0x110000) : Atom (.str (Str.ofString s))
  | int {i : Int} (h : -10 < i ∧ i < 1000) : Atom (.int i)
  | bool (b : Bool) : Atom (.bool b)
  | none : Atom .none
theorem Atom.nc {d : D} (h : Atom d) : Nc 0 41 d := by
  cases h with
  | str h h2 => exact nc_lit h h2
  | int h => exact nc_int (by omega)
  | bool b => exact (Nc.bool b).mono (by decide) (by decide)
  | none => exact Nc.none.mono (by decide) (by decide)
structure OddD (d : D) : Prop where
  nc : Nc 1 126 d
  few : ∀ ts, d = .tuple ts → ts.length ≤ 1000
theorem odd_tup {ds : List D} (h : ∀ d ∈ ds, Atom d) (hl : ds.length ≤ 3) : OddD (.tuple ds) := ⟨nc_tup (k := 3) hl fun d hd => (h d hd).nc, fun ts e => by cases e; omega⟩
theorem atoms_nil : ∀ d ∈ ([] : List D), Atom d := fun d h => by cases h
theorem atoms_cons {a : D} {l : List D} (h : Atom a) (t : ∀ d ∈ l, Atom d) : ∀ d ∈ a :: l, Atom d := fun d hd => by
  rcases List.mem_cons.mp hd with e | e
  · rw [e]; exact h
  · exact t d e
theorem odd_ok {many v : Int} (hm : 0 ≤ many ∧ many ≤ 100) (hv : 0 ≤ v ∧ v ≤ 100) : ∀ d ∈ oddL many v, OddD d := by
  have a1 : Atom (.int v) := .int (by omega)
  have a2 : Atom (.int many) := .int (by omega)
  have a3 : Atom (.int (-1)) := .int (by decide)
  have a4 : Atom (.int 0) := .int (by decide)
  intro d hd
  unfold oddL at hd
  simp only [List.cons_append, List.nil_append, List.mem_cons, List.not_mem_nil, or_false] at hd
  rcases hd with rfl | rfl | rfl | rfl | rfl | rfl | rfl | rfl | rfl | rfl | rfl | rfl | rfl | rfl | rfl | rfl | rfl | rfl | rfl | rfl | rfl | rfl | rfl
  all_goals first
    | exact odd_tup (atoms_cons (.str (by decide +kernel) (by decide +kernel)) (atoms_cons (by first | assumption | exact .bool _ | exact .none) (atoms_cons (.str (by decide +kernel) (by decide +kernel)) atoms_nil))) (by simp)
    | exact odd_tup (atoms_cons (.str (by decide +kernel) (by decide +kernel)) (atoms_cons (by first | assumption | exact .bool _ | exact .none) atoms_nil)) (by simp)
    | exact odd_tup (atoms_cons (.str (by decide +kernel) (by decide +kernel)) atoms_nil) (by simp)
    | exact odd_tup atoms_nil (by simp)
    | exact ⟨(Nc.list (k := 3) (n := 0) (w := 41) (fun d hd => by rw [List.mem_singleton.mp hd]; exact (Atom.str (by decide +kernel) (by decide +kernel)).nc) (by simp)), fun ts e => by cases e⟩
    | exact ⟨((Atom.str (by decide +kernel) (by decide +kernel)).nc).mono (by decide) (by decide), fun ts e => by cases e⟩
    | exact ⟨a4.nc.mono (by decide) (by decide), fun ts e => by cases e⟩
    | exact ⟨Atom.none.nc.mono (by decide) (by decide), fun ts e => by cases e⟩
theorem tk_ok {bag : D} (h : BagOk bag) {m : Int} (hm : 0 < m) (hm2 : m < 1073741824) : ∃ v bag', d__law_take [some (.own false bag), some (.dat (.int m))] = .ret (.dat (.int v)) [some (.own false bag'), none] ∧ 0 ≤ v ∧ v < m ∧ BagOk bag' := h.take hm hm2
theorem some_ok {bag : D} (h : BagOk bag) {ds : List D} (hd : ds ≠ []) (hl : ds.length < 1073741824) : ∃ x bag', d__law_some [some (.own false bag), some (.dat (.list ds))] = .ret (.dat x) [some (.own false bag'), none] ∧ x ∈ ds ∧ BagOk bag' := h.some hd hl
theorem law_alike_val {n w m v : Nat} {a b : D} (ha : Nc n w a) (hb : Nc m v b) (hn : n ≤ 64 := by decide) (hw : w ≤ 1048576 := by decide) (hm : m ≤ 64 := by decide) (hv : v ≤ 1048576 := by decide) : d__law_alike [some (.dat a), some (.dat b)] = .ret (.dat (.bool (alikeV a b))) [none, none] := alike_val ha hb hn hw hm hv
theorem law_mixed_ok {bag : D} (h : BagOk bag) {n : Nat} {ds : List D} (hl : ds.length < 1000000) (hs : ∀ d ∈ ds, Sh n d) (hn : n ≤ 63) :
    ∃ es bag', d__law_mixed [some (.own false bag), some (.dat (.list ds))] = .ret (.dat (.list es)) [some (.own false bag'), none] ∧ es.Perm ds ∧ BagOk bag' := mixed_ok h hl hs hn
theorem odd_is {bag : D} (hb : BagOk bag) {many : Int} (h1 : 0 < many) (h2 : many ≤ 4) {steps : List D} (hs : ∀ s ∈ steps, SmStep s) (hl : steps.length ≤ 31) :
    ∃ es bag', d__law_odd_steps [some (.own false bag), some (.dat (.int many)), some (.dat (.list steps))] = .ret (.dat (.list es)) [some (.own false bag'), none, none] ∧ BagOk bag' ∧ es.length ≤ 23 ∧ ∀ e ∈ es, OddD e ∧ ∀ s ∈ steps, e ≠ s := by
  obtain ⟨v, bag1, e1, v0, v1, hb1⟩ := tk_ok hb h1 (by omega)
  have hod := odd_ok (many := many) (v := v) (by omega) (by omega)
  have hlc : lcD [5] (gSet 5) p__law_odd_steps_2 (xName 5) (oddL many v) [some (.own false bag1), some (.dat (.int many)), some (.dat (.list steps)), some (.dat (.int v)), some (.dat (.list (oddL many v))), none, none] = .ok ((oddL many v).filterMap fun d => if (steps.filter fun s => alikeV s d).isEmpty = true then some d else none) [some (.own false bag1), some (.dat (.int many)), some (.dat (.list steps)), some (.dat (.int v)), some (.dat (.list (oddL many v))), none, none] := by
    refine lcD_pure fun d hd => ⟨[some (.own false bag1), some (.dat (.int many)), some (.dat (.list steps)), some (.dat (.int v)), some (.dat (.list (oddL many v))), some (.dat d), none], ?_, by simp [wipeE]⟩
    have hin : lcD [6] (gSet 6) p__law_odd_steps_1 (xC (.int 1)) steps [some (.own false bag1), some (.dat (.int many)), some (.dat (.list steps)), some (.dat (.int v)), some (.dat (.list (oddL many v))), some (.dat d), none] = .ok ((steps.filter fun s => alikeV s d).map fun _ => .int 1) [some (.own false bag1), some (.dat (.int many)), some (.dat (.list steps)), some (.dat (.int v)), some (.dat (.list (oddL many v))), some (.dat d), none] := by
      have := lcD_filter (vs := [6]) (γ := gSet 6) (τ := p__law_odd_steps_1) (φ := xC (.int 1)) (ρ := [some (.own false bag1), some (.dat (.int many)), some (.dat (.list steps)), some (.dat (.int v)), some (.dat (.list (oddL many v))), some (.dat d), none]) (g := id) (f := fun _ => .int 1) (P := fun s => alikeV s d) (bs := steps) fun s hs' => ⟨[some (.own false bag1), some (.dat (.int many)), some (.dat (.list steps)), some (.dat (.int v)), some (.dat (.list (oddL many v))), some (.dat d), some (.dat s)], by
        have ha := law_alike_val (hs s hs').nc (hod d hd).nc
        generalize oddL many v = OL at *
        cases hq : alikeV s d <;> rw [hq] at ha <;> simp [lcTurn, p__law_odd_steps_1, ha, truth, hq], by simp [wipeE]⟩
      rwa [List.map_id] at this
    have heq := eqA_ones (steps.filter fun s => alikeV s d)
    have hz : steps.length ≤ 16777216 := by omega
    generalize oddL many v = OL at *
    generalize (steps.filter fun s => alikeV s d).map (fun _ => PyData.int 1) = L1 at *
    cases hq : (steps.filter fun s => alikeV s d).isEmpty <;> rw [hq] at heq <;> simp [lcTurn, p__law_odd_steps_2, hin, heq, hz, wipeE, unwipe, datOnly]
  refine ⟨(oddL many v).filterMap fun d => if (steps.filter fun s => alikeV s d).isEmpty = true then some d else none, bag1, ?_, hb1, ?_, ?_⟩
  · have hz : (oddL many v).length ≤ 16777216 := by unfold oddL; simp
    have a1 : gAddA (.list [.tuple [.str "vote", .int v], .tuple [.str "refuse", .int v], .tuple [.str "hear", .int v], .tuple [.str "hold", .int v], .tuple [.str "crash", .int v], .tuple [.str "learn", .int v, .str "yes"]]) (.list [.tuple [.str "learn", .int v, .str "no"], .tuple [.str "yes"], .tuple [.str "no"], .tuple [.str "hold"], .tuple [.str "crash"], .tuple [.str "vote", .int many], .tuple [.str "vote", .int (-1)]]) = some (.list ([.tuple [.str "vote", .int v], .tuple [.str "refuse", .int v], .tuple [.str "hear", .int v], .tuple [.str "hold", .int v], .tuple [.str "crash", .int v], .tuple [.str "learn", .int v, .str "yes"]] ++ [.tuple [.str "learn", .int v, .str "no"], .tuple [.str "yes"], .tuple [.str "no"], .tuple [.str "hold"], .tuple [.str "crash"], .tuple [.str "vote", .int many], .tuple [.str "vote", .int (-1)]])) := gAddA_list (by simp)
    have a2 : gAddA (.list ([.tuple [.str "vote", .int v], .tuple [.str "refuse", .int v], .tuple [.str "hear", .int v], .tuple [.str "hold", .int v], .tuple [.str "crash", .int v], .tuple [.str "learn", .int v, .str "yes"]] ++ [.tuple [.str "learn", .int v, .str "no"], .tuple [.str "yes"], .tuple [.str "no"], .tuple [.str "hold"], .tuple [.str "crash"], .tuple [.str "vote", .int many], .tuple [.str "vote", .int (-1)]])) (.list [.tuple [.str "vote", .bool true], .tuple [.str "vote", .bool false], .list [.str "no"], .str "no", .tuple [.str "no", .int 0], .tuple [.str "learn", .int v], .tuple [.str "crash", .none]]) = some (.list ([.tuple [.str "vote", .int v], .tuple [.str "refuse", .int v], .tuple [.str "hear", .int v], .tuple [.str "hold", .int v], .tuple [.str "crash", .int v], .tuple [.str "learn", .int v, .str "yes"]] ++ [.tuple [.str "learn", .int v, .str "no"], .tuple [.str "yes"], .tuple [.str "no"], .tuple [.str "hold"], .tuple [.str "crash"], .tuple [.str "vote", .int many], .tuple [.str "vote", .int (-1)]] ++ [.tuple [.str "vote", .bool true], .tuple [.str "vote", .bool false], .list [.str "no"], .str "no", .tuple [.str "no", .int 0], .tuple [.str "learn", .int v], .tuple [.str "crash", .none]])) := gAddA_list (by simp)
    have a3 : gAddA (.list ([.tuple [.str "vote", .int v], .tuple [.str "refuse", .int v], .tuple [.str "hear", .int v], .tuple [.str "hold", .int v], .tuple [.str "crash", .int v], .tuple [.str "learn", .int v, .str "yes"]] ++ [.tuple [.str "learn", .int v, .str "no"], .tuple [.str "yes"], .tuple [.str "no"], .tuple [.str "hold"], .tuple [.str "crash"], .tuple [.str "vote", .int many], .tuple [.str "vote", .int (-1)]] ++ [.tuple [.str "vote", .bool true], .tuple [.str "vote", .bool false], .list [.str "no"], .str "no", .tuple [.str "no", .int 0], .tuple [.str "learn", .int v], .tuple [.str "crash", .none]])) (.list [.int 0, .none, .tuple []]) = some (.list (oddL many v)) := gAddA_list (by simp)
    generalize ((oddL many v).filterMap fun d => if (steps.filter fun s => alikeV s d).isEmpty = true then some d else none) = OUT at *
    generalize oddL many v = OL at *
    generalize ([PyData.tuple [.str "vote", .int v], .tuple [.str "refuse", .int v], .tuple [.str "hear", .int v], .tuple [.str "hold", .int v], .tuple [.str "crash", .int v], .tuple [.str "learn", .int v, .str "yes"]] ++ [.tuple [.str "learn", .int v, .str "no"], .tuple [.str "yes"], .tuple [.str "no"], .tuple [.str "hold"], .tuple [.str "crash"], .tuple [.str "vote", .int many], .tuple [.str "vote", .int (-1)]] ++ [.tuple [.str "vote", .bool true], .tuple [.str "vote", .bool false], .list [.str "no"], .str "no", .tuple [.str "no", .int 0], .tuple [.str "learn", .int v], .tuple [.str "crash", .none]]) = Q2 at *
    generalize ([PyData.tuple [.str "vote", .int v], .tuple [.str "refuse", .int v], .tuple [.str "hear", .int v], .tuple [.str "hold", .int v], .tuple [.str "crash", .int v], .tuple [.str "learn", .int v, .str "yes"]] ++ [.tuple [.str "learn", .int v, .str "no"], .tuple [.str "yes"], .tuple [.str "no"], .tuple [.str "hold"], .tuple [.str "crash"], .tuple [.str "vote", .int many], .tuple [.str "vote", .int (-1)]]) = Q1 at *
    unfold d__law_odd_steps
    rw [ev_fnD]
    simp [e1, a1, a2, a3, hlc, hz, wipeE, unwipe, datOnly]
  · refine Nat.le_trans (List.length_filterMap_le _ _) ?_
    unfold oddL
    simp
  · intro e he
    obtain ⟨d, hd, h3⟩ := List.mem_filterMap.mp he
    split at h3
    · rename_i hq
      cases h3
      refine ⟨hod e hd, fun s hs' eq => ?_⟩
      have hmem : s ∈ steps.filter fun s => alikeV s e := List.mem_filter.mpr ⟨hs', by rw [eq]; exact alikeV_self (hs s hs').nc⟩
      rw [List.isEmpty_iff] at hq
      rw [hq] at hmem
      cases hmem
    · cases h3
end K24


namespace K24
open PySem PySem.Spec L2 DL
/-! k24: what fits stays so -/
theorem Fit.dec {o : Op} {g : G} (f : Fit g) (b : Bool) : Fit (dec o g b) := ⟨⟨f.vl, f.ml⟩, f.c0, f.c3⟩
theorem Fit.crashT {g : G} (f : Fit g) (h : 0 < g.c) : Fit (crashT g) := ⟨⟨by show (List.replicate _ _).length = _; rw [List.length_replicate]; exact f.vl, f.ml⟩, by show 0 ≤ g.c - 1; omega, by show g.c - 1 ≤ 3; have := f.c3; omega⟩
theorem fit_all {o : Op} {g : G} (f : Fit g) {q : D × G} (h : q ∈ allL o g) : Fit q.2 ∧ q.2.ms.length = g.ms.length := by
  unfold allL at h
  split at h
  · cases h
  · rcases List.mem_append.mp h with h | h
    · unfold leadL at h
      rcases List.mem_append.mp h with h | h
      · split at h
        · unfold openL at h
          rcases List.mem_append.mp h with h | h
          · rcases List.mem_append.mp h with h | h
            · rw [List.mem_singleton.mp h]; exact ⟨f.dec false, rfl⟩
            · unfold yesL at h
              split at h
              · rw [List.mem_singleton.mp h]; exact ⟨f.dec true, rfl⟩
              · cases h
          · obtain ⟨p, hp, hq⟩ := List.mem_flatMap.mp h
            rw [hear_step hq]
            exact ⟨⟨⟨by show (List.set _ _ _).length = _; rw [List.length_set]; exact f.vl, f.ml⟩, f.c0, f.c3⟩, rfl⟩
        · unfold holdL at h
          split at h
          · cases h
          · rw [List.mem_singleton.mp h]; exact ⟨⟨⟨f.vl, f.ml⟩, f.c0, f.c3⟩, rfl⟩
      · unfold crashL at h
        split at h
        · rename_i hc
          rw [List.mem_singleton.mp h]
          show Fit (crashG o g) ∧ (crashG o g).ms.length = _
          unfold crashG
          split
          · exact ⟨(f.crashT hc).dec false, rfl⟩
          · exact ⟨f.crashT hc, rfl⟩
        · cases h
    · obtain ⟨p, hp, hq⟩ := List.mem_flatMap.mp h
      obtain ⟨t, ht, rfl⟩ := List.mem_map.mp hq
      have hls : (g.ms.set p.1 t.2.1).length = g.ms.length := List.length_set
      have hc : t.2.2 = 0 ∨ (t.2.2 = 1 ∧ 0 < g.c) := by
        unfold memT at ht
        rcases List.mem_append.mp ht with ht | ht
        · split at ht
          · simp only [startT, List.mem_cons, List.not_mem_nil, or_false] at ht
            rcases ht with rfl | rfl <;> exact .inl rfl
          · cases ht
        · split at ht
          · unfold readyT at ht
            rcases List.mem_append.mp ht with ht | ht
            · rcases List.mem_append.mp ht with ht | ht
              · obtain ⟨w, _, rfl⟩ := List.mem_map.mp ht; exact .inl rfl
              · unfold keepT at ht
                split at ht
                · cases ht
                · rw [List.mem_singleton.mp ht]; exact .inl rfl
            · unfold dieT at ht
              split at ht
              · rename_i hc
                rw [List.mem_singleton.mp ht]; exact .inr ⟨rfl, hc⟩
              · cases ht
          · cases ht
      refine ⟨⟨⟨?_, ?_⟩, ?_, ?_⟩, hls⟩
      · show g.vs.length = (g.ms.set p.1 t.2.1).length; rw [hls]; exact f.vl
      · show (g.ms.set p.1 t.2.1).length ≤ 4; rw [hls]; exact f.ml
      · show 0 ≤ g.c - t.2.2; have := f.c0; omega
      · show g.c - t.2.2 ≤ 3; have := f.c3; omega
theorem fit_first {n : Nat} (hn : n ≤ 4) {c : Int} (h0 : 0 ≤ c) (h3 : c ≤ 3) : Fit (firstG n c) := ⟨⟨by simp [firstG], by simpa [firstG] using hn⟩, h0, h3⟩
/-! the law's loops -/
def e19 (S bag : D) (c2 : Option Cell) (o : Op) (n : Nat) (c0 : Int) (st : D) (c7 c8 c9 c10 c11 c12 c13 c14 c15 c16 : Option Cell) : DL.Env :=
  [some (.dat S), some (.own true bag), c2, some (.dat (opD o)), some (.dat (.int n)), some (.dat (.int c0)), some (.dat st), c7, c8, c9, c10, c11, c12, c13, c14, c15, c16, none, none]
theorem nc_told {g : G} (f : Fit g) : Nc 4 4074 (.tuple [.str "told", stD g]) := nc_tup (ds := [.str "told", stD g]) (n := 3) (w := 2036) (k := 2) (by simp) fun d hd => by
  simp only [List.mem_cons, List.not_mem_nil, or_false] at hd
  rcases hd with rfl | rfl
  · exact (nc_lit).mono (by decide) (by decide)
  · exact nc_st f
theorem law2_is {o : Op} {g : G} (f : Fit g) {q : D × G} (hq : q ∈ allL o g) (S bag : D) (n : Nat) (c0 : Int) (c2 c7 c8 c10 c11 c12 c13 c16 : Option Cell) :
    p_law_2 (e19 S bag c2 o n c0 (stD g) c7 c8 (some (.dat (.str (stD g).shown))) c10 c11 c12 c13 (some (.dat q.1)) (some (.dat (stD q.2))) c16) = .next (e19 S bag c2 o n c0 (stD g) c7 c8 (some (.dat (.str (stD g).shown))) c10 c11 c12 c13 (some (.dat q.1)) (some (.dat (stD q.2))) c16) := by
  have hh := heard_told f.toOk hq
  have hn := nc_told (fit_all f hq).1
  have ha := law_alike_val hn hn
  rw [alikeV_self hn] at ha
  have hr := (nc_st f).reprA
  unfold e19 p_law_2
  generalize stD g = S1 at *
  generalize stD q.2 = S2 at *
  generalize q.1 = T at *
  simp [hh, ha, hr, truth]
theorem law3_is {o : Op} {g : G} (f : Fit g) {q : D × G} (hq : q ∈ allL o g) (S bag : D) (n : Nat) (c0 : Int) (c2 c7 c8 c10 c11 c12 c13 : Option Cell) {c16 : Option Cell} (h16 : Cl c16) : ∃ y16, Cl y16 ∧
    p_law_3 (e19 S bag c2 o n c0 (stD g) c7 c8 (some (.dat (.str (stD g).shown))) c10 c11 c12 c13 (some (.dat q.1)) (some (.dat (stD q.2))) c16) = .next (e19 S bag c2 o n c0 (stD g) c7 c8 (some (.dat (.str (stD g).shown))) c10 c11 c12 c13 (some (.dat q.1)) (some (.dat (stD q.2))) y16) := by
  have r2 : gRange1 [.int 2] = some (rangeL 0 2) := gRange1_ok (by decide)
  obtain ⟨ρ', h1, y16, rfl, hy⟩ := forD_all (γ := gSet 16) (ψ := p_law_2) (E := fun ρ => ∃ c16, ρ = e19 S bag c2 o n c0 (stD g) c7 c8 (some (.dat (.str (stD g).shown))) c10 c11 c12 c13 (some (.dat q.1)) (some (.dat (stD q.2))) c16 ∧ Cl c16) (ds := rangeL 0 2)
    (ρ := e19 S bag c2 o n c0 (stD g) c7 c8 (some (.dat (.str (stD g).shown))) c10 c11 c12 c13 (some (.dat q.1)) (some (.dat (stD q.2))) c16) ⟨c16, rfl, h16⟩ (by
      rintro d _ ρ ⟨c16, rfl, h16⟩
      exact ⟨e19 S bag c2 o n c0 (stD g) c7 c8 (some (.dat (.str (stD g).shown))) c10 c11 c12 c13 (some (.dat q.1)) (some (.dat (stD q.2))) (some (.dat d)), _, by simp [e19, h16.cs], .inl (law2_is f hq S bag n c0 c2 c7 c8 c10 c11 c12 c13 _), _, rfl, .dat _⟩)
  refine ⟨y16, hy, ?_⟩
  unfold p_law_3
  unfold e19 at *
  generalize rangeL 0 2 = R at *
  generalize (stD g).shown = SS at *
  generalize stD g = S1 at *
  generalize stD q.2 = S2 at *
  generalize q.1 = T at *
  simp [r2, h1]
theorem due_loop {o : Op} {g : G} (f : Fit g) {L' : List (D × G)} (hL : ∀ q ∈ L', q ∈ allL o g) (S bag : D) (n : Nat) (c0 : Int) (c2 c7 c8 c10 c11 c12 c13 : Option Cell) {c14 c15 c16 : Option Cell} (h14 : Cl c14) (h15 : Cl c15) (h16 : Cl c16) : ∃ y14 y15 y16, Cl y14 ∧ Cl y15 ∧ Cl y16 ∧
    forD (gTupD 2 (gsCons (gSet 14) (gsCons (gSet 15) (gsNil)))) p_law_3 (L'.map pairD) (e19 S bag c2 o n c0 (stD g) c7 c8 (some (.dat (.str (stD g).shown))) c10 c11 c12 c13 c14 c15 c16) = .next (e19 S bag c2 o n c0 (stD g) c7 c8 (some (.dat (.str (stD g).shown))) c10 c11 c12 c13 y14 y15 y16) := by
  obtain ⟨ρ', h1, y14, y15, y16, rfl, a, b, c⟩ := forD_all (γ := gTupD 2 (gsCons (gSet 14) (gsCons (gSet 15) (gsNil)))) (ψ := p_law_3) (E := fun ρ => ∃ c14 c15 c16, ρ = e19 S bag c2 o n c0 (stD g) c7 c8 (some (.dat (.str (stD g).shown))) c10 c11 c12 c13 c14 c15 c16 ∧ Cl c14 ∧ Cl c15 ∧ Cl c16) (ds := L'.map pairD)
    (ρ := e19 S bag c2 o n c0 (stD g) c7 c8 (some (.dat (.str (stD g).shown))) c10 c11 c12 c13 c14 c15 c16) ⟨c14, c15, c16, rfl, h14, h15, h16⟩ (by
      rintro d hd ρ ⟨c14, c15, c16, rfl, h14, h15, h16⟩
      obtain ⟨q, hq, rfl⟩ := List.mem_map.mp hd
      obtain ⟨y16, hy, e⟩ := law3_is f (hL q hq) S bag n c0 c2 c7 c8 c10 c11 c12 c13 h16
      refine ⟨e19 S bag c2 o n c0 (stD g) c7 c8 (some (.dat (.str (stD g).shown))) c10 c11 c12 c13 (some (.dat q.1)) (some (.dat (stD q.2))) c16, _, ?_, .inl e, _, _, _, rfl, .dat _, .dat _, hy⟩
      unfold pairD e19
      simp [gTupD, gsCons, gsNil, h14.cs, h15.cs])
  exact ⟨y14, y15, y16, a, b, c, h1⟩
theorem ne_refused : gNeA (.tuple [.str "refused", .str "step"]) (.tuple [.str "refused", .str "step"]) = some (.bool false) := by
  have h : Nc 1 84 (.tuple [.str "refused", .str "step"]) := nc_tup (ds := [.str "refused", .str "step"]) (n := 0) (w := 41) (k := 2) (by simp) fun d hd => by
    simp only [List.mem_cons, List.not_mem_nil, or_false] at hd
    rcases hd with rfl | rfl <;> exact nc_lit
  rw [neA_sh h.sh h.sh (by decide) (by decide), PySem.SeqAt.eqv_refl _ (SeqAt.canLay_of_shaped (h.sh.shaped (by decide)))]
  rfl
theorem odd_loop {o : Op} {g : G} (f : Fit g) {es : List D} (hes : ∀ e ∈ es, OddD e ∧ ∀ p ∈ allL o g, e ≠ p.1) (S bag : D) (n : Nat) (c0 : Int) (c2 c7 c8 c9 c10 c11 c12 c13 : Option Cell) {c14 : Option Cell} (c15 c16 : Option Cell) (h14 : Cl c14) : ∃ y14, Cl y14 ∧
    forD (gSet 14) p_law_4 es (e19 S bag c2 o n c0 (stD g) c7 c8 c9 c10 c11 c12 c13 c14 c15 c16) = .next (e19 S bag c2 o n c0 (stD g) c7 c8 c9 c10 c11 c12 c13 y14 c15 c16) := by
  obtain ⟨ρ', h1, y14, rfl, a⟩ := forD_all (γ := gSet 14) (ψ := p_law_4) (E := fun ρ => ∃ c14, ρ = e19 S bag c2 o n c0 (stD g) c7 c8 c9 c10 c11 c12 c13 c14 c15 c16 ∧ Cl c14) (ds := es)
    (ρ := e19 S bag c2 o n c0 (stD g) c7 c8 c9 c10 c11 c12 c13 c14 c15 c16) ⟨c14, rfl, h14⟩ (by
      rintro d hd ρ ⟨c14, rfl, h14⟩
      obtain ⟨ho, hno⟩ := hes d hd
      have hh := heard_refused f.toOk (o := o) ho.nc.sh (by decide) ho.few hno
      have hne := ne_refused
      refine ⟨e19 S bag c2 o n c0 (stD g) c7 c8 c9 c10 c11 c12 c13 (some (.dat d)) c15 c16, _, by simp [e19, h14.cs], .inl (show p_law_4 _ = .next (e19 S bag c2 o n c0 (stD g) c7 c8 c9 c10 c11 c12 c13 (some (.dat d)) c15 c16) from ?_), _, rfl, .dat _⟩
      unfold p_law_4 e19
      generalize stD g = S1 at *
      simp [hh, hne])
  exact ⟨y14, a, h1⟩
end K24


namespace K24
open PySem PySem.Spec L2 DL
/-! k24: a turn of the law -/
theorem nc_steps {L' : List (D × G)} (h : ∀ q ∈ L', SmStep q.1) (hl : L'.length ≤ 31) : Nc 2 3937 (.tuple (L'.map (·.1))) := nc_tup (ds := L'.map (·.1)) (n := 1) (w := 126) (k := 31) (by simpa using hl) fun d hd => by
  obtain ⟨q, hq, rfl⟩ := List.mem_map.mp hd
  exact (h q hq).nc
theorem nc_list3 {a b c : D} (ha : Nc 2 3937 a) (hb : Nc 0 41 b) (hc : Nc 0 41 c) : Nc 3 11814 (.list [a, b, c]) := Nc.list (n := 2) (w := 3937) (k := 3) (fun d hd => by
  simp only [List.mem_cons, List.not_mem_nil, or_false] at hd
  rcases hd with rfl | rfl | rfl
  · exact ha
  · exact hb.mono (by decide) (by decide)
  · exact hc.mono (by decide) (by decide)) (by simp)
structure Cs10 (c7 c8 c9 c10 c11 c12 c13 c14 c15 c16 : Option Cell) : Prop where
  h7 : Cl c7
  h8 : Cl c8
  h9 : Cl c9
  h10 : Cl c10
  h11 : Cl c11
  h12 : Cl c12
  h13 : Cl c13
  h14 : Cl c14
  h15 : Cl c15
  h16 : Cl c16
theorem Cl.get {x : Option Cell} (h : Cl x) : x = none ∨ ∃ d, x = some (.dat d) := h
theorem turn_ok {o : Op} {g : G} (f : Fit g) {bag : D} (hb : BagOk bag) {n : Nat} (hn : 0 < n ∧ n ≤ 4) (S : D) (c0 : Int) (c2 : Option Cell) {c7 c8 c9 c10 c11 c12 c13 c14 c15 c16 : Option Cell} (hc : Cs10 c7 c8 c9 c10 c11 c12 c13 c14 c15 c16) :
    ∃ bag' g' y7 y8 y9 y10 y11 y12 y13 y14 y15 y16, (p_law_5 (e19 S bag c2 o n c0 (stD g) c7 c8 c9 c10 c11 c12 c13 c14 c15 c16) = .next (e19 S bag' c2 o n c0 (stD g') y7 y8 y9 y10 y11 y12 y13 y14 y15 y16) ∨
      p_law_5 (e19 S bag c2 o n c0 (stD g) c7 c8 c9 c10 c11 c12 c13 c14 c15 c16) = .brk (e19 S bag' c2 o n c0 (stD g') y7 y8 y9 y10 y11 y12 y13 y14 y15 y16)) ∧ BagOk bag' ∧ Fit g' ∧ Cs10 y7 y8 y9 y10 y11 y12 y13 y14 y15 y16 := by
  obtain ⟨L', hp, s1, s2⟩ := group_parts (o := o) (g := g)
  have hmem : ∀ q ∈ L', q ∈ allL o g := fun q hq => hp.mem_iff.mp hq
  have hlen : L'.length ≤ 31 := by rw [hp.length_eq]; exact all_len f.toOk
  have hsm : ∀ q ∈ L', SmStep q.1 := fun q hq => all_sm f.toOk (hmem q hq)
  have e1 := law_group_is f.toOk (o := o)
  have e2 := group_is f.toOk (o := o)
  rw [s1] at e1
  rw [s2] at e2
  have hr := (nc_st f).reprA
  have e3 := split_is g f.ml
  have e4 := law_split_is g f.ml
  have e5 := ended_is g f.ml
  have nck := nc_list3 (nc_steps hsm hlen) ((Nc.bool (splitB g)).mono (by decide) (by decide)) ((Nc.bool (endedB g)).mono (by decide) (by decide))
  have ha := law_alike_val nck nck
  rw [alikeV_self nck] at ha
  -- the comprehensions
  have l1 : lcD [14, 15] (gTupD 2 (gsCons (gSet 14) (gsCons (gSet 15) (gsNil)))) xYes (xName 14) (L'.map pairD) (e19 S bag c2 o n c0 (stD g) c7 (some (.dat (.list (L'.map pairD)))) (some (.dat (.str (stD g).shown))) c10 c11 c12 c13 none none c16) = .ok (L'.map (·.1)) (e19 S bag c2 o n c0 (stD g) c7 (some (.dat (.list (L'.map pairD)))) (some (.dat (.str (stD g).shown))) c10 c11 c12 c13 none none c16) := by
    refine lcD_gen (g := pairD) (f := fun p => p.1) fun p _ => ⟨e19 S bag c2 o n c0 (stD g) c7 (some (.dat (.list (L'.map pairD)))) (some (.dat (.str (stD g).shown))) c10 c11 c12 c13 (some (.dat p.1)) (some (.dat (stD p.2))) c16, ?_, by simp [wipeE, e19]⟩
    unfold pairD e19
    simp [lcTurn, gTupD, gsCons, gsNil]
  have l2 : lcD [17] (gSet 17) xYes (xOp gIx (xName 17) (xC (.int 0))) (g.ms.map memD) (e19 S bag c2 o n c0 (stD g) c7 (some (.dat (.list (L'.map pairD)))) (some (.dat (.str (stD g).shown))) c10 c11 c12 c13 c14 c15 c16) = .ok ((ws g).map wD) (e19 S bag c2 o n c0 (stD g) c7 (some (.dat (.list (L'.map pairD)))) (some (.dat (.str (stD g).shown))) c10 c11 c12 c13 c14 c15 c16) := by
    unfold ws
    rw [List.map_map]
    refine lcD_gen (g := memD) (f := fun m => wD m.w) fun m _ => ⟨(e19 S bag c2 o n c0 (stD g) c7 (some (.dat (.list (L'.map pairD)))) (some (.dat (.str (stD g).shown))) c10 c11 c12 c13 c14 c15 c16).set 17 (some (.dat (memD m))), ?_, by simp [wipeE, e19]⟩
    unfold memD e19
    simp [lcTurn]
  have l3 : lcD [18] (gSet 18) p_law_1 (xName 18) ((ws g).map wD) (e19 S bag c2 o n c0 (stD g) c7 (some (.dat (.list (L'.map pairD)))) (some (.dat (.str (stD g).shown))) (some (.dat (.list (L'.map (·.1))))) (some (.dat (.list ((ws g).map wD)))) (some (.dat (.list [.tuple (L'.map (·.1)), .bool (splitB g), .bool (endedB g)]))) c13 c14 c15 c16) = .ok (((ws g).filter fun w => !decide (w = .done ∨ w = .lost)).map wD) (e19 S bag c2 o n c0 (stD g) c7 (some (.dat (.list (L'.map pairD)))) (some (.dat (.str (stD g).shown))) (some (.dat (.list (L'.map (·.1))))) (some (.dat (.list ((ws g).map wD)))) (some (.dat (.list [.tuple (L'.map (·.1)), .bool (splitB g), .bool (endedB g)]))) c13 c14 c15 c16) := by
    refine lcD_filter (g := wD) (f := wD) (P := fun w => !decide (w = .done ∨ w = .lost)) fun w _ => ⟨(e19 S bag c2 o n c0 (stD g) c7 (some (.dat (.list (L'.map pairD)))) (some (.dat (.str (stD g).shown))) (some (.dat (.list (L'.map (·.1))))) (some (.dat (.list ((ws g).map wD)))) (some (.dat (.list [.tuple (L'.map (·.1)), .bool (splitB g), .bool (endedB g)]))) c13 c14 c15 c16).set 18 (some (.dat (wD w))), ?_, by simp [wipeE, e19]⟩
    have h := in_wt true w [.done, .lost]
    have hd : decide (w ∈ [Wd.done, Wd.lost]) = decide (w = .done ∨ w = .lost) := by simp
    rw [hd] at h
    simp only [List.map_cons, List.map_nil, if_true] at h
    cases hq : decide (w = .done ∨ w = .lost) <;> rw [hq] at h <;> simp [lcTurn, p_law_1, e19, lit_done, lit_lost, h]
  have hend : gEqA (.list (((ws g).filter fun w => !decide (w = .done ∨ w = .lost)).map wD)) (.list []) = some (.bool (endedB g)) := by
    rw [eqA_nil (sh_ws _) (by decide)]
    congr 2
    rw [List.isEmpty_map, Bool.eq_iff_iff, List.isEmpty_iff, List.filter_eq_nil_iff]
    unfold endedB
    rw [List.all_eq_true]
    simp only [Bool.not_eq_true', decide_eq_false_iff_not, Decidable.not_not, decide_eq_true_eq]
  -- the loops
  obtain ⟨y14, y15, y16, h14, h15, h16, f1⟩ := due_loop f hmem S bag n c0 c2 c7 (some (.dat (.list (L'.map pairD)))) (some (.dat (.list (L'.map (·.1))))) (some (.dat (.list ((ws g).map wD)))) (some (.dat (.list [.tuple (L'.map (·.1)), .bool (splitB g), .bool (endedB g)]))) (some (.dat (.bool (endedB g)))) hc.h14 hc.h15 hc.h16
  obtain ⟨es, bag1, o1, hb1, hel, hes⟩ := odd_is hb (many := n) (by omega) (by omega) (steps := L'.map (·.1)) (fun s hs => by
    obtain ⟨q, hq, rfl⟩ := List.mem_map.mp hs
    exact hsm q hq) (by simpa using hlen)
  obtain ⟨xs, bag2, m1, hpx, hb2⟩ := law_mixed_ok hb1 (n := 1) (ds := es) (by omega) (fun d hd => (hes d hd).1.nc.sh) (by decide)
  have hcut : cutD xs none (some 6) = xs.take 6 := by rw [cutD_to xs (by decide)]; rfl
  obtain ⟨z14, k14, f2⟩ := odd_loop f (es := xs.take 6) (fun e he => by
    obtain ⟨q1, q2⟩ := hes e (hpx.mem_iff.mp (List.mem_of_mem_take he))
    exact ⟨q1, fun p hp' => q2 p.1 (List.mem_map_of_mem (hp.mem_iff.mpr hp'))⟩) S bag2 n c0 c2 c7 (some (.dat (.list (L'.map pairD)))) (some (.dat (.str (stD g).shown))) (some (.dat (.list (L'.map (·.1))))) (some (.dat (.list ((ws g).map wD)))) (some (.dat (.list [.tuple (L'.map (·.1)), .bool (splitB g), .bool (endedB g)]))) (some (.dat (.bool (endedB g)))) y15 y16 h14
  have hdue : gEqA (.list (L'.map pairD)) (.list []) = some (.bool L'.isEmpty) := by
    rw [eqA_nil (n := 5) (Sh.list fun d hd => by
      obtain ⟨q, hq, rfl⟩ := List.mem_map.mp hd
      exact sh_pair (all_step (hmem q hq))) (by decide), List.isEmpty_map]
  have ht : gTuple [.list (L'.map (·.1))] = some (.tuple (L'.map (·.1))) := rfl
  have z1 : (L'.map pairD).length ≤ 16777216 := by rw [List.length_map]; omega
  have z2 : (g.ms.map memD).length ≤ 16777216 := by rw [List.length_map]; have := f.ml; omega
  have z3 : ((ws g).map wD).length ≤ 16777216 := by unfold ws; simp only [List.length_map]; have := f.ml; omega
  have hix : gIx (stD g) (.int 1) = some (.tuple (g.ms.map memD)) := rfl
  cases hem : L'.isEmpty with
  | true =>
    rw [hem] at hdue
    refine ⟨bag2, g, c7, some (.dat (.list (L'.map pairD))), some (.dat (.str (stD g).shown)), some (.dat (.list (L'.map (·.1)))), some (.dat (.list ((ws g).map wD))), some (.dat (.list [.tuple (L'.map (·.1)), .bool (splitB g), .bool (endedB g)])), some (.dat (.bool (endedB g))), z14, y15, y16, .inr ?_, hb2, f, ⟨hc.h7, .dat _, .dat _, .dat _, .dat _, .dat _, .dat _, k14, h15, h16⟩⟩
    generalize (ws g).filter (fun w => !decide (w = .done ∨ w = .lost)) = W2 at *
    generalize xs.take 6 = X6 at *
    generalize (ws g).map wD = W at *
    generalize W2.map wD = W3 at *
    generalize g.ms.map memD = M at *
    generalize L'.map pairD = D1 at *
    generalize L'.map (·.1) = D2 at *
    generalize (stD g).shown = SS at *
    generalize stD g = S1 at *
    generalize splitB g = b1 at *
    generalize endedB g = b2 at *
    unfold e19 at *
    unfold p_law_5
    simp [e1, hr, hc.h8.cs, hc.h9.cs, hc.h10.cs, hc.h11.cs, hc.h12.cs, hc.h13.cs, l1, l2, z1, z2, z3, hix, e2, e3, e5, l3, hend, ht, e4, ha, f1, o1, m1, hcut, f2, hdue, wipeE, unwipe, hc.h14.unw, hc.h15.unw, truth]
  | false =>
    rw [hem] at hdue
    obtain ⟨x, bag3, p1, hx, hb3⟩ := some_ok hb2 (ds := L'.map pairD) (by
      intro e
      rw [List.map_eq_nil_iff] at e
      rw [e] at hem
      cases hem) (by rw [List.length_map]; omega)
    obtain ⟨q, hq, rfl⟩ := List.mem_map.mp hx
    have hix2 : gIx (pairD q) (.int 1) = some (stD q.2) := rfl
    refine ⟨bag3, q.2, c7, some (.dat (.list (L'.map pairD))), some (.dat (.str (stD g).shown)), some (.dat (.list (L'.map (·.1)))), some (.dat (.list ((ws g).map wD))), some (.dat (.list [.tuple (L'.map (·.1)), .bool (splitB g), .bool (endedB g)])), some (.dat (.bool (endedB g))), z14, y15, y16, .inl ?_, hb3, (fit_all f (hmem q hq)).1, ⟨hc.h7, .dat _, .dat _, .dat _, .dat _, .dat _, .dat _, k14, h15, h16⟩⟩
    generalize pairD q = Q at *
    generalize stD q.2 = Q2 at *
    generalize (ws g).filter (fun w => !decide (w = .done ∨ w = .lost)) = W2 at *
    generalize xs.take 6 = X6 at *
    generalize (ws g).map wD = W at *
    generalize W2.map wD = W3 at *
    generalize g.ms.map memD = M at *
    generalize L'.map pairD = D1 at *
    generalize L'.map (·.1) = D2 at *
    generalize (stD g).shown = SS at *
    generalize stD g = S1 at *
    generalize splitB g = b1 at *
    generalize endedB g = b2 at *
    unfold e19 at *
    unfold p_law_5
    simp [e1, hr, hc.h8.cs, hc.h9.cs, hc.h10.cs, hc.h11.cs, hc.h12.cs, hc.h13.cs, l1, l2, z1, z2, z3, hix, e2, e3, e5, l3, hend, ht, e4, ha, f1, o1, m1, hcut, f2, hdue, p1, hix2, wipeE, unwipe, hc.h14.unw, hc.h15.unw, truth]
end K24


namespace K24
open PySem PySem.Spec L2 DL
/-! k24: the law -/
theorem options_is {bag : D} (hb : BagOk bag) : ∃ o bag', d__law_options [some (.own false bag)] = .ret (.dat (opD o)) [some (.own false bag')] ∧ BagOk bag' := by
  obtain ⟨xs, ρ', h1, ⟨bag', rfl, hb'⟩, hlen, hP⟩ := lcD_inv (vs := [1]) (γ := gSet 1) (τ := xYes) (φ := p__law_options_1) (P := fun x => ∃ b, x = .bool b) (I := fun ρ => ∃ bag, ρ = [some (.own false bag), none] ∧ BagOk bag) (ds := rangeL 0 3) (ρ := [some (.own false bag), none]) ⟨bag, rfl, hb⟩ (by
    rintro d _ ρ ⟨bag, rfl, hb⟩
    obtain ⟨v, bag1, e1, v0, v1, hb1⟩ := tk_ok hb (m := 2) (by decide) (by decide)
    refine ⟨.bool (v == 0), [some (.own false bag1), some (.dat d)], ?_, ⟨_, rfl⟩, bag1, by simp [wipeE], hb1⟩
    unfold p__law_options_1
    simp [lcTurn, e1])
  have hl3 : xs.length = 3 := by rw [hlen, rangeL_len]
  obtain ⟨x, y, z, rfl⟩ : ∃ x y z, xs = [x, y, z] := by
    match xs, hl3 with
    | [x, y, z], _ => exact ⟨x, y, z, rfl⟩
  obtain ⟨a, rfl⟩ := hP x (by simp)
  obtain ⟨b, rfl⟩ := hP y (by simp)
  obtain ⟨c, rfl⟩ := hP z (by simp)
  refine ⟨⟨a, b, c⟩, bag', ?_, hb'⟩
  have r3 : gRange1 [.int 3] = some (rangeL 0 3) := gRange1_ok (by decide)
  have y3 : (rangeL 0 3).length ≤ 16777216 := by rw [rangeL_len]; decide
  have ht : gTuple [.list [.bool a, .bool b, .bool c]] = some (opD ⟨a, b, c⟩) := rfl
  generalize rangeL 0 3 = R at *
  generalize opD ⟨a, b, c⟩ = OO at *
  unfold d__law_options
  rw [ev_fnD]
  simp [r3, y3, h1, ht, wipeE, unwipe]
def e19a (S bag : D) (c2 c3 c4 c5 c6 c7 c8 c9 c10 c11 c12 c13 c14 c15 c16 : Option Cell) : DL.Env :=
  [some (.dat S), some (.own true bag), c2, c3, c4, c5, c6, c7, c8, c9, c10, c11, c12, c13, c14, c15, c16, none, none]
structure Cs4 (c3 c4 c5 c6 : Option Cell) : Prop where
  h3 : Cl c3
  h4 : Cl c4
  h5 : Cl c5
  h6 : Cl c6
theorem round_ok {bag : D} (hb : BagOk bag) (S : D) (c2 : Option Cell) {c3 c4 c5 c6 c7 c8 c9 c10 c11 c12 c13 c14 c15 c16 : Option Cell} (h4 : Cs4 c3 c4 c5 c6) (hc : Cs10 c7 c8 c9 c10 c11 c12 c13 c14 c15 c16) :
    ∃ bag' y3 y4 y5 y6 y7 y8 y9 y10 y11 y12 y13 y14 y15 y16, p_law_6 (e19a S bag c2 c3 c4 c5 c6 c7 c8 c9 c10 c11 c12 c13 c14 c15 c16) = .next (e19a S bag' c2 y3 y4 y5 y6 y7 y8 y9 y10 y11 y12 y13 y14 y15 y16) ∧ BagOk bag' ∧ Cs4 y3 y4 y5 y6 ∧ Cs10 y7 y8 y9 y10 y11 y12 y13 y14 y15 y16 := by
  obtain ⟨o, bag1, e1, hb1⟩ := options_is hb
  obtain ⟨v, bag2, e2, v0, v1, hb2⟩ := tk_ok hb1 (m := 4) (by decide) (by decide)
  obtain ⟨c, bag3, e3, k0, k1, hb3⟩ := tk_ok hb2 (m := 4) (by decide) (by decide)
  obtain ⟨n, hn⟩ : ∃ n : Nat, 1 + v = n := ⟨(1 + v).toNat, by omega⟩
  have hf := fit_first (n := n) (by omega) k0 (show c ≤ 3 by omega)
  have e4 := first_is (n := n) (by omega) c
  have e5 := law_first_is (n := n) (by omega) c
  have ha := law_alike_val (nc_st hf) (nc_st hf)
  rw [alikeV_self (nc_st hf)] at ha
  obtain ⟨ρ', f1, bag4, g, y7, y8, y9, y10, y11, y12, y13, y14, y15, y16, rfl, hb4, hf4, hc4⟩ := forD_brk (γ := gSet 7) (ψ := p_law_5) (E := fun ρ => ∃ bag g c7 c8 c9 c10 c11 c12 c13 c14 c15 c16, ρ = e19 S bag c2 o n c (stD g) c7 c8 c9 c10 c11 c12 c13 c14 c15 c16 ∧ BagOk bag ∧ Fit g ∧ Cs10 c7 c8 c9 c10 c11 c12 c13 c14 c15 c16) (ds := rangeL 0 14)
    (ρ := e19 S bag3 c2 o n c (stD (firstG n c)) c7 c8 c9 c10 c11 c12 c13 c14 c15 c16) ⟨bag3, _, c7, c8, c9, c10, c11, c12, c13, c14, c15, c16, rfl, hb3, hf, hc⟩ (by
      rintro d _ ρ ⟨bag, g, c7, c8, c9, c10, c11, c12, c13, c14, c15, c16, rfl, hb, hf, hc⟩
      obtain ⟨bag', g', y7, y8, y9, y10, y11, y12, y13, y14, y15, y16, ht, hb', hf', hc'⟩ := turn_ok hf hb (n := n) (by omega) S c c2 (o := o) (c7 := some (.dat d)) ⟨.dat d, hc.h8, hc.h9, hc.h10, hc.h11, hc.h12, hc.h13, hc.h14, hc.h15, hc.h16⟩
      refine ⟨e19 S bag c2 o n c (stD g) (some (.dat d)) c8 c9 c10 c11 c12 c13 c14 c15 c16, _, by simp [e19, hc.h7.cs], ?_, bag', g', y7, y8, y9, y10, y11, y12, y13, y14, y15, y16, rfl, hb', hf', hc'⟩
      rcases ht with ht | ht
      · exact .inl (.inl ht)
      · exact .inr ht)
  have r14 : gRange1 [.int 14] = some (rangeL 0 14) := gRange1_ok (by decide)
  refine ⟨bag4, some (.dat (opD o)), some (.dat (.int n)), some (.dat (.int c)), some (.dat (stD g)), y7, y8, y9, y10, y11, y12, y13, y14, y15, y16, ?_, hb4, ⟨.dat _, .dat _, .dat _, .dat _⟩, hc4⟩
  generalize rangeL 0 14 = R at *
  generalize stD (firstG n c) = S1 at *
  generalize stD g = S2 at *
  unfold e19 at *
  generalize opD o = OO at *
  unfold e19a p_law_6
  simp [e1, e2, hn, e3, e4, e5, ha, truth, h4.h3.cs, h4.h4.cs, h4.h5.cs, h4.h6.cs, r14]
  exact f1
theorem good (ns : List Int) (h : ns.length ≤ 63) : ∃ ρb, d_law [some (.dat (.list (ns.map .int)))] = .ret (.dat (.bool true)) ρb := by
  have hb : d__law_bag [some (.dat (.list (ns.map .int)))] = .ret (.own (bagD 0 1234567891 0 (ns.map absI))) [none] := bag_ok h
  have b0 := BagOk.start h
  generalize bagD 0 1234567891 0 (ns.map absI) = bag0 at hb b0
  generalize PyData.list (ns.map .int) = S at hb
  have r4 : gRange1 [.int 4] = some (rangeL 0 4) := gRange1_ok (by decide)
  obtain ⟨ρ1, loop, bag1, x2, x3, x4, x5, x6, x7, x8, x9, x10, x11, x12, x13, x14, x15, x16, rfl, _⟩ := forD_all (γ := gSet 2) (ψ := p_law_6) (E := fun ρ => ∃ bag x2 x3 x4 x5 x6 x7 x8 x9 x10 x11 x12 x13 x14 x15 x16, ρ = e19a S bag x2 x3 x4 x5 x6 x7 x8 x9 x10 x11 x12 x13 x14 x15 x16 ∧ BagOk bag ∧ Cl x2 ∧ Cs4 x3 x4 x5 x6 ∧ Cs10 x7 x8 x9 x10 x11 x12 x13 x14 x15 x16) (ds := rangeL 0 4) (ρ := e19a S bag0 none none none none none none none none none none none none none none none)
    ⟨bag0, none, none, none, none, none, none, none, none, none, none, none, none, none, none, none, rfl, b0, .none, ⟨.none, .none, .none, .none⟩, ⟨.none, .none, .none, .none, .none, .none, .none, .none, .none, .none⟩⟩ (by
    rintro d _ ρ ⟨bag, x2, x3, x4, x5, x6, x7, x8, x9, x10, x11, x12, x13, x14, x15, x16, rfl, b, c2, h4, hc⟩
    obtain ⟨bag', y3, y4, y5, y6, y7, y8, y9, y10, y11, y12, y13, y14, y15, y16, e, b', h4', hc'⟩ := round_ok b S (some (.dat d)) h4 hc
    exact ⟨e19a S bag (some (.dat d)) x3 x4 x5 x6 x7 x8 x9 x10 x11 x12 x13 x14 x15 x16, _, by simp [e19a, c2.cs], .inl e, bag', some (.dat d), y3, y4, y5, y6, y7, y8, y9, y10, y11, y12, y13, y14, y15, y16, rfl, b', .dat _, h4', hc'⟩)
  unfold e19a at loop
  generalize rangeL 0 4 = w8 at *
  unfold d_law
  rw [ev_fnD]
  simp [hb, r4, loop]
end K24


open PySem PySem.W PyProof.Rows
set_option maxHeartbeats 0 in
theorem PySem.Challenge.cw_onceorlater_k24_groups_step_by_step_holds : PySem.Challenge.rw_onceorlater_k24_groups_step_by_step.Holds := by
  w_on; o_law; k_head; (case hw => w_witness2)
  k_fill
  refine DL.law_walk (l := PySem.Challenge.rw_onceorlater_k24_groups_step_by_step) (n := 63) (k := 7) (x := "script") (φ := K24.d_law) rfl (by decide) rfl ⟨rfl, by decide, by decide⟩ (fun w h Y => PySem.W.kIn_of Y) ?F K24.good
  case F =>
    intro w mg fa h KX G hmg
    refine' K24.all_mk KX G hmg ?a1 ?l1 ?c1 ?k1 ?a2 ?l2 ?c2 ?k2 ?a3 ?l3 ?c3 ?k3 ?a4 ?l4 ?c4 ?k4 ?a5 ?l5 ?c5 ?k5 ?a6 ?l6 ?c6 ?k6 ?a7 ?l7 ?c7 ?k7 ?a8 ?l8 ?c8 ?k8 ?a9 ?l9 ?c9 ?k9 ?a10 ?l10 ?c10 ?k10 ?a11 ?l11 ?c11 ?k11 ?a12 ?l12 ?c12 ?k12 ?a13 ?l13 ?c13 ?k13 ?a14 ?l14 ?c14 ?k14 ?a15 ?l15 ?c15 ?k15 ?a16 ?l16 ?c16 ?k16 ?a17 ?l17 ?c17 ?k17 ?a18 ?l18 ?c18 ?k18 ?a19 ?l19 ?c19 ?k19 ?a20 ?l20 ?c20 ?k20 ?a21 ?l21 ?c21 ?k21 ?a22 ?l22 ?c22 ?k22 ?a23 ?l23 ?c23 ?k23 ?a24 ?l24 ?c24 ?k24 ?a25 ?l25 ?c25 ?k25 ?a26 ?l26 ?c26 ?k26 ?a27 ?l27 ?c27 ?k27 ?a28 ?l28 ?c28 ?k28 ?z1 ?z2 ?z3 ?z4 ?z5 ?z6 ?z7 ?z8 ?z9 ?z10 ?z11 ?z12 ?z13 ?g1 ?g2 ?g3 ?g4 ?g5 ?e1_1 ?e1_2 ?e1_3 ?e1_4 ?e1_5 ?e1_6 ?e1_7 ?e1_8 ?e1_9 ?e1_10 ?e1_11 ?e1_12 ?e1_13 ?e1_14 ?e1_15 ?e1_16 ?e1_17 ?e1_18 ?e1_19 ?e1_20 ?e1_21 ?e1_22 ?e1_23 ?e1_24 ?e1_f0 ?eS1 ?eS2 ?eS3 ?eS4 ?eS5 ?y1 ?y1_1 ?z1_1
    (case a1 => k_is); (case l1 => k_is); (case c1 => k_is); (case k1 => k_is); (case a2 => k_is); (case l2 => k_is); (case c2 => k_is); (case k2 => k_is); (case a3 => k_is); (case l3 => k_is); (case c3 => k_is); (case k3 => k_is); (case a4 => k_is); (case l4 => k_is); (case c4 => k_is); (case k4 => k_is); (case a5 => k_is); (case l5 => k_is); (case c5 => k_is); (case k5 => k_is); (case a6 => k_is); (case l6 => k_is); (case c6 => k_is); (case k6 => k_is); (case a7 => k_is); (case l7 => k_is); (case c7 => k_is); (case k7 => k_is); (case a8 => k_is); (case l8 => k_is); (case c8 => k_is); (case k8 => k_is); (case a9 => k_is); (case l9 => k_is); (case c9 => k_is); (case k9 => k_is); (case a10 => k_is); (case l10 => k_is); (case c10 => k_is); (case k10 => k_is); (case a11 => k_is); (case l11 => k_is); (case c11 => k_is); (case k11 => k_is); (case a12 => k_is); (case l12 => k_is); (case c12 => k_is); (case k12 => k_is); (case a13 => k_is); (case l13 => k_is); (case c13 => k_is); (case k13 => k_is); (case a14 => k_is); (case l14 => k_is); (case c14 => k_is); (case k14 => k_is); (case a15 => k_is); (case l15 => k_is); (case c15 => k_is); (case k15 => k_is); (case a16 => k_is); (case l16 => k_is); (case c16 => k_is); (case k16 => k_is); (case a17 => k_is); (case l17 => k_is); (case c17 => k_is); (case k17 => k_is); (case a18 => k_is); (case l18 => k_is); (case c18 => k_is); (case k18 => k_is); (case a19 => k_is); (case l19 => k_is); (case c19 => k_is); (case k19 => k_is); (case a20 => k_is); (case l20 => k_is); (case c20 => k_is); (case k20 => k_is); (case a21 => k_is); (case l21 => k_is); (case c21 => k_is); (case k21 => k_is); (case a22 => k_is); (case l22 => k_is); (case c22 => k_is); (case k22 => k_is); (case a23 => k_is); (case l23 => k_is); (case c23 => k_is); (case k23 => k_is); (case a24 => k_is); (case l24 => k_is); (case c24 => k_is); (case k24 => k_is); (case a25 => k_is); (case l25 => k_is); (case c25 => k_is); (case k25 => k_is); (case a26 => k_is); (case l26 => k_is); (case c26 => k_is); (case k26 => k_is); (case a27 => k_is); (case l27 => k_is); (case c27 => k_is); (case k27 => k_is); (case a28 => k_is); (case l28 => k_is); (case c28 => k_is); (case k28 => k_is); (case z1 => k_is); (case z2 => k_is); (case z3 => k_is); (case z4 => k_is); (case z5 => k_is); (case z6 => k_is); (case z7 => k_is); (case z8 => k_is); (case z9 => k_is); (case z10 => k_is); (case z11 => k_is); (case z12 => k_is); (case z13 => k_is); (case g1 => k_is); (case g2 => k_is); (case g3 => k_is); (case g4 => k_is); (case g5 => k_is)
    (case e1_1 => k_is)
    (case e1_2 => k_is)
    (case e1_3 => first | rfl | decide +kernel)
    (case e1_4 => k_is)
    (case e1_5 => k_is)
    (case e1_6 => k_is)
    (case e1_7 => k_is)
    (case e1_8 => k_is)
    (case e1_9 => k_is)
    (case e1_10 => k_is)
    (case e1_11 => k_is)
    (case e1_12 => k_is)
    (case e1_13 => k_is)
    (case e1_14 => k_is)
    (case e1_15 => ks_is)
    (case e1_16 => k_is)
    (case e1_17 => k_is)
    (case e1_18 => rfl)
    (case e1_19 => decide +kernel)
    (case e1_20 => k_is)
    (case e1_21 => k_is)
    (case e1_22 => k_is)
    (case e1_23 => k_is)
    (case e1_24 => k_is)
    (case e1_f0 => k_is)
    (case eS1 => k_is)
    (case eS2 => decide +kernel)
    (case eS3 => k_is)
    (case eS4 => k_is)
    (case eS5 => k_is)
    (case y1 => k_is)
    (case y1_1 => kts_exm)
    (case z1_1 => kit_is)

