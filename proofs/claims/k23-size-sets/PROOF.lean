import PyProof.Rows.All
import HandS.ForMost
import HandS.Exc
import HandS.TupAny
import HandS.TupMul
import HandS.Wide
import HandS.Deep
import HandS.FStr
import HandS.Flow
import HandS.Style
import HandS.ExcOwn
import HandS.WordsExc
import HandS.Iter
import KE.GoesNew
import HandS.Comp
import HandS.Text
import HandS.StrMore
import HandS.Steps
import PyProof.ReprRoads
import PyProof.Rows.ListMulArg
import PyProof.Rows.SeqMore
import PyProof.StrOps2
import KE.KxField
import PyProof.P3Eq
import PyProof.Rows.RegFStrParts
import PyProof.Rows.ReprShort
import HandS.IsInst
import HandS.DictComp
import HandS.Dict
import HandS.Conv
import HandS.List
import HandS.SetFor
import HandS.Strs
import PySem.Challenge.RW_onceorlater_k23_size_sets_least
set_option Elab.async false
set_option linter.all false
set_option maxRecDepth 100000
set_option maxHeartbeats 4000000
/-! D layer, 1: data by value, environments, the simulation, the judgements. -/
namespace DL
open PySem PySem.Spec L2
abbrev St := L2.St

abbrev D := PyData
def keyD : Key → D
  | .inl i => .int i
  | .inr x => .str x

mutual
/-- the value v reads as the data d, over the part F of the heap that never changes any more -/
inductive Dr (K : PySem.W.Frag) (F : Hp) : V → D → Prop
  | non : Dr K F .non .none
  | bl (b : Bool) : Dr K F (.bl b) (.bool b)
  | int (i : Int) : Dr K F (.int i) (.int i)
  | str (x : Str) : Dr K F (.str x) (.str x)
  | lst {a : Addr} {xs : List V} {ds : List D} : SqL K F a xs → DrAll K F xs ds → Dr K F (.ref a) (.list ds)
  | tup {a : Addr} {xs : List V} {ds : List D} : SqT K F a xs → DrAll K F xs ds → Dr K F (.ref a) (.tuple ds)
  | dic {a : Addr} {kvs : List (Key × V)} {es : List (D × D)} : Rd F a (.dK kvs) → DrKv K F kvs es → Dr K F (.ref a) (.dict es)
inductive DrAll (K : PySem.W.Frag) (F : Hp) : List V → List D → Prop
  | nil : DrAll K F [] []
  | cons {v : V} {vs : List V} {d : D} {ds : List D} : Dr K F v d → DrAll K F vs ds → DrAll K F (v :: vs) (d :: ds)
inductive DrKv (K : PySem.W.Frag) (F : Hp) : List (Key × V) → List (D × D) → Prop
  | nil : DrKv K F [] []
  | cons {k : Key} {v : V} {kvs : List (Key × V)} {d : D} {es : List (D × D)} : Dr K F v d → DrKv K F kvs es → DrKv K F ((k, v) :: kvs) ((keyD k, d) :: es)
end

theorem sqT_mono {K : PySem.W.Frag} {F F' : Hp} {a : Addr} {xs : List V} (h : Same F F') (q : SqT K F a xs) : SqT K F' a xs := by
  rcases q with (q | ⟨o, q⟩) | q
  · exact .inl (.inl (h _ _ q))
  · exact .inl (.inr ⟨o, h _ _ q⟩)
  · exact .inr q
theorem rd_mono {F F' : Hp} {a : Addr} {u : HO} (h : Same F F') (q : Rd F a u) : Rd F' a u := by
  rcases q with q | ⟨o, q⟩
  · exact .inl (h _ _ q)
  · exact .inr ⟨o, h _ _ q⟩

mutual
theorem Dr.mono {K : PySem.W.Frag} {F F' : Hp} (h : Same F F') : ∀ (d : D) (v : V), Dr K F v d → Dr K F' v d
  | .none, _, q => by cases q; exact .non
  | .bool b, _, q => by cases q; exact .bl b
  | .int i, _, q => by cases q; exact .int i
  | .str x, _, q => by cases q; exact .str x
  | .list ds, _, q => by cases q with | lst a b => exact .lst (h.seq a) (DrAll.mono h ds _ b)
  | .tuple ds, _, q => by cases q with | tup a b => exact .tup (sqT_mono h a) (DrAll.mono h ds _ b)
  | .dict es, _, q => by cases q with | dic a b => exact .dic (rd_mono h a) (DrKv.mono h es _ b)
theorem DrAll.mono {K : PySem.W.Frag} {F F' : Hp} (h : Same F F') : ∀ (ds : List D) (vs : List V), DrAll K F vs ds → DrAll K F' vs ds
  | [], _, q => by cases q; exact .nil
  | d :: ds, _, q => by cases q with | cons a b => exact .cons (Dr.mono h d _ a) (DrAll.mono h ds _ b)
theorem DrKv.mono {K : PySem.W.Frag} {F F' : Hp} (h : Same F F') : ∀ (es : List (D × D)) (kvs : List (Key × V)), DrKv K F kvs es → DrKv K F' kvs es
  | [], _, q => by cases q; exact .nil
  | (_, d) :: es, _, q => by cases q with | cons a b => exact .cons (Dr.mono h d _ a) (DrKv.mono h es _ b)
end
theorem Dr.up {K : PySem.W.Frag} {F F' : Hp} {d : D} {v : V} (q : Dr K F v d) (h : Same F F') : Dr K F' v d := Dr.mono h d v q
theorem DrAll.up {K : PySem.W.Frag} {F F' : Hp} {d : List D} {v : List V} (q : DrAll K F v d) (h : Same F F') : DrAll K F' v d := DrAll.mono h d v q
theorem DrKv.up {K : PySem.W.Frag} {F F' : Hp} {d : List (D × D)} {v : List (Key × V)} (q : DrKv K F v d) (h : Same F F') : DrKv K F' v d := DrKv.mono h d v q

theorem DrAll.length {K : PySem.W.Frag} {F : Hp} : ∀ {vs : List V} {ds : List D}, DrAll K F vs ds → vs.length = ds.length
  | _, _, .nil => rfl
  | _, _, .cons _ t => congrArg (· + 1) (DrAll.length t)
theorem DrAll.append {K : PySem.W.Frag} {F : Hp} : ∀ {vs us : List V} {ds es : List D}, DrAll K F vs ds → DrAll K F us es → DrAll K F (vs ++ us) (ds ++ es)
  | _, _, _, _, .nil, q => q
  | _, _, _, _, .cons a t, q => .cons a (DrAll.append t q)
theorem DrAll.get {K : PySem.W.Frag} {F : Hp} : ∀ {vs : List V} {ds : List D} {i : Nat} {d : D}, DrAll K F vs ds → ds[i]? = some d → ∃ v, vs[i]? = some v ∧ Dr K F v d
  | _, _, _, _, .nil, e => by simp at e
  | _, _, 0, d, .cons a t, e => by simp at e; subst e; exact ⟨_, rfl, a⟩
  | _, _, i + 1, d, .cons a t, e => by
    obtain ⟨v, h1, h2⟩ := DrAll.get (i := i) t (by simpa using e)
    exact ⟨v, by simpa using h1, h2⟩
theorem DrAll.getV {K : PySem.W.Frag} {F : Hp} : ∀ {vs : List V} {ds : List D} {i : Nat} {v : V}, DrAll K F vs ds → vs[i]? = some v → ∃ d, ds[i]? = some d ∧ Dr K F v d
  | _, _, _, _, .nil, e => by simp at e
  | _, _, 0, d, .cons a t, e => by simp at e; subst e; exact ⟨_, rfl, a⟩
  | _, _, i + 1, d, .cons a t, e => by
    obtain ⟨v, h1, h2⟩ := DrAll.getV (i := i) t (by simpa using e)
    exact ⟨v, by simpa using h1, h2⟩
theorem DrAll.take {K : PySem.W.Frag} {F : Hp} : ∀ {vs : List V} {ds : List D} (n : Nat), DrAll K F vs ds → DrAll K F (vs.take n) (ds.take n)
  | _, _, 0, _ => by simp only [List.take_zero]; exact .nil
  | _, _, _ + 1, .nil => .nil
  | _, _, n + 1, .cons a t => .cons a (DrAll.take n t)
theorem DrAll.drop {K : PySem.W.Frag} {F : Hp} : ∀ {vs : List V} {ds : List D} (n : Nat), DrAll K F vs ds → DrAll K F (vs.drop n) (ds.drop n)
  | _, _, 0, q => q
  | _, _, _ + 1, .nil => .nil
  | _, _, n + 1, .cons _ t => DrAll.drop n t
theorem DrAll.set {K : PySem.W.Frag} {F : Hp} {v : V} {d : D} (r : Dr K F v d) : ∀ {vs : List V} {ds : List D} (i : Nat), DrAll K F vs ds → DrAll K F (vs.set i v) (ds.set i d)
  | _, _, _, .nil => .nil
  | _, _, 0, .cons _ t => .cons r t
  | _, _, i + 1, .cons a t => .cons a (DrAll.set r i t)
theorem DrAll.eraseIdx {K : PySem.W.Frag} {F : Hp} : ∀ {vs : List V} {ds : List D} (i : Nat), DrAll K F vs ds → DrAll K F (vs.eraseIdx i) (ds.eraseIdx i)
  | _, _, _, .nil => .nil
  | _, _, 0, .cons _ t => t
  | _, _, i + 1, .cons a t => .cons a (DrAll.eraseIdx i t)
theorem DrAll.reverse {K : PySem.W.Frag} {F : Hp} : ∀ {vs : List V} {ds : List D}, DrAll K F vs ds → DrAll K F vs.reverse ds.reverse
  | _, _, .nil => .nil
  | _, _, .cons a t => by simp only [List.reverse_cons]; exact (DrAll.reverse t).append (.cons a .nil)
theorem DrAll.ints {K : PySem.W.Frag} {F : Hp} : ∀ (ns : List Int), DrAll K F (ns.map V.int) (ns.map PyData.int)
  | [] => .nil
  | n :: ns => .cons (.int n) (DrAll.ints ns)
theorem DrAll.strs {K : PySem.W.Frag} {F : Hp} : ∀ (ns : List Str), DrAll K F (ns.map V.str) (ns.map PyData.str)
  | [] => .nil
  | n :: ns => .cons (.str n) (DrAll.strs ns)
theorem DrAll.of_ints {K : PySem.W.Frag} {F : Hp} : ∀ {vs : List V} {ns : List Int}, DrAll K F vs (ns.map PyData.int) → vs = ns.map V.int
  | _, [], .nil => rfl
  | _, n :: ns, .cons a t => by cases a; rw [DrAll.of_ints t]; rfl
theorem DrAll.of_strs {K : PySem.W.Frag} {F : Hp} : ∀ {vs : List V} {ns : List Str}, DrAll K F vs (ns.map PyData.str) → vs = ns.map V.str
  | _, [], .nil => rfl
  | _, n :: ns, .cons a t => by cases a; rw [DrAll.of_strs t]; rfl
theorem DrAll.of_bools {K : PySem.W.Frag} {F : Hp} : ∀ {vs : List V} {ns : List Bool}, DrAll K F vs (ns.map PyData.bool) → vs = ns.map V.bl
  | _, [], .nil => rfl
  | _, n :: ns, .cons a t => by cases a; rw [DrAll.of_bools t]; rfl

/-! ### environments -/
inductive Cell where
  | dat (d : D)
  /-- a list or dict that this slot may change; own: it was made since the def was entered -/
  | own (o : Bool) (d : D)
abbrev Env := List (Option Cell)
/-- a value: data, or the mutable object of a slot -/
inductive Rv where
  | dat (d : D)
  | slot (i : Nat)
structure Exc where
  cls : Str
  fs : List (Str × D)
inductive Ans (α : Type) where
  | ok (a : α) (ρ : Env)
  | exc (x : Exc) (ρ : Env)
  | bad
namespace Ans
def bind {α β : Type} (m : Ans α) (f : α → Env → Ans β) : Ans β := match m with
  | ok a ρ => f a ρ
  | exc x ρ => exc x ρ
  | bad => bad
@[simp] theorem bind_ok {α β : Type} (a : α) (ρ : Env) (f : α → Env → Ans β) : (Ans.ok a ρ).bind f = f a ρ := (rfl)
@[simp] theorem bind_exc {α β : Type} (x : Exc) (ρ : Env) (f : α → Env → Ans β) : (Ans.exc x ρ).bind f = .exc x ρ := (rfl)
@[simp] theorem bind_bad {α β : Type} (f : α → Env → Ans β) : (Ans.bad : Ans α).bind f = .bad := (rfl)
end Ans
def Wp {α : Type} (m : Ans α) (P : α → Env → Prop) (E : Exc → Env → Prop) : Prop := match m with
  | .ok a ρ => P a ρ
  | .exc x ρ => E x ρ
  | .bad => False
theorem wp_bind {α β : Type} {m : Ans α} {f : α → Env → Ans β} {P : β → Env → Prop} {E : Exc → Env → Prop} (h : Wp (m.bind f) P E) : Wp m (fun a ρ => Wp (f a ρ) P E) E := by
  cases m with
  | ok a ρ => exact h
  | exc x ρ => exact h
  | bad => exact h
theorem wp_mono {α : Type} {m : Ans α} {P P' : α → Env → Prop} {E E' : Exc → Env → Prop} (h : Wp m P E) (hp : ∀ a ρ, P a ρ → P' a ρ) (he : ∀ x ρ, E x ρ → E' x ρ) : Wp m P' E' := by
  cases m with
  | ok a ρ => exact hp _ _ h
  | exc x ρ => exact he _ _ h
  | bad => exact h
/-- a partial result -/
def ofO {α : Type} (o : Option α) (ρ : Env) : Ans α := match o with
  | some a => .ok a ρ
  | none => .bad
@[simp] theorem ofO_some {α : Type} (a : α) (ρ : Env) : ofO (some a) ρ = .ok a ρ := (rfl)
@[simp] theorem ofO_none {α : Type} (ρ : Env) : ofO (none : Option α) ρ = .bad := (rfl)
theorem wp_ofO {α : Type} {o : Option α} {ρ : Env} {P : α → Env → Prop} {E : Exc → Env → Prop} (h : Wp (ofO o ρ) P E) : ∃ a, o = some a ∧ P a ρ := by
  cases o with
  | none => exact h.elim
  | some a => exact ⟨a, rfl, h⟩

def look (ρ : Env) : Rv → Option D
  | .dat d => some d
  | .slot i => match ρ[i]? with
    | some (some (.dat d)) => some d
    | some (some (.own _ d)) => some d
    | _ => none
@[simp] theorem look_dat (ρ : Env) (d : D) : look ρ (.dat d) = some d := (rfl)

/-- what a mutable object holds -/
def Cont (K : PySem.W.Frag) (F : Hp) : HO → D → Prop
  | .lst vs, .list ds => DrAll K F vs ds
  | .dK kvs, .dict es => DrKv K F kvs es
  | _, _ => False
theorem Cont.up {K : PySem.W.Frag} {F F' : Hp} {o : HO} {d : D} (q : Cont K F o d) (h : Same F F') : Cont K F' o d := by
  cases o <;> cases d <;> first | exact False.elim q | skip
  · exact DrAll.up q h
  · exact DrKv.up q h
theorem Cont.dr {K : PySem.W.Frag} {F H : Hp} {o : HO} {d : D} {p : Addr} (q : Cont K F o d) (h : Same F H) (e : H p = some o) : Dr K H (.ref p) d := by
  cases o <;> cases d <;> first | exact False.elim q | skip
  · exact .lst (SqL.of e) (DrAll.up q h)
  · exact .dic (Rd.of e) (DrKv.up q h)
theorem Cont.list {K : PySem.W.Frag} {F : Hp} {o : HO} {ds : List D} (q : Cont K F o (.list ds)) : ∃ vs, o = .lst vs ∧ DrAll K F vs ds := by
  cases o <;> first | exact False.elim q | exact ⟨_, rfl, q⟩
theorem Cont.dict {K : PySem.W.Frag} {F : Hp} {o : HO} {ds : List (D × D)} (q : Cont K F o (.dict ds)) : ∃ vs, o = .dK vs ∧ DrKv K F vs ds := by
  cases o <;> first | exact False.elim q | exact ⟨_, rfl, q⟩

/-! ### the simulation -/
/-- what stays of a def's entry: G what is kept as it is, F what was data, H all that was tracked, σ the parameters -/
structure Base where
  G : Hp
  F : Hp
  H : Hp
  σ : St
structure Sim (K : PySem.W.Frag) (B : Base) (F : Hp) (ρ : Env) (σ : St) (H : Hp) : Prop where
  g : Same B.G H
  f : Same F H
  bf : Same B.F F
  fr : ∀ b, F b ≠ none → B.F b ≠ none ∨ B.H b = none
  gr : ∀ b, B.H b ≠ none → H b ≠ none
  len : σ.length = ρ.length
  dat : ∀ (i : Nat) (d : D), ρ[i]? = some (some (.dat d)) → ∃ v, σ[i]? = some (some v) ∧ Dr K F v d
  mu : ∀ (i : Nat) (o : Bool) (d : D), ρ[i]? = some (some (.own o d)) → ∃ p c, σ[i]? = some (some (.ref p)) ∧ H p = some c ∧ Cont K F c d ∧ B.G p = none ∧ F p = none ∧
    (o = true → B.H p = none) ∧ (o = false → B.σ[i]? = some (some (.ref p)))
  apart : ∀ (i j : Nat) (o o' : Bool) (d d' : D) (p : Addr), ρ[i]? = some (some (.own o d)) → ρ[j]? = some (some (.own o' d')) → σ[i]? = some (some (.ref p)) → σ[j]? = some (some (.ref p)) → i = j

def RvOk (K : PySem.W.Frag) (F : Hp) (σ : St) : Rv → V → Prop
  | .dat d, v => Dr K F v d
  | .slot i, v => σ[i]? = some (some v)
theorem RvOk.up {K : PySem.W.Frag} {F F' : Hp} {σ : St} {r : Rv} {v : V} (q : RvOk K F σ r v) (h : Same F F') : RvOk K F' σ r v := by
  cases r with
  | dat d => exact Dr.up q h
  | slot i => exact q
inductive RvsOk (K : PySem.W.Frag) (F : Hp) (σ : St) : List Rv → List V → Prop
  | nil : RvsOk K F σ [] []
  | cons {r : Rv} {v : V} {rs : List Rv} {vs : List V} : RvOk K F σ r v → RvsOk K F σ rs vs → RvsOk K F σ (r :: rs) (v :: vs)
theorem RvsOk.up {K : PySem.W.Frag} {F F' : Hp} {σ : St} (h : Same F F') : ∀ {rs : List Rv} {vs : List V}, RvsOk K F σ rs vs → RvsOk K F' σ rs vs
  | _, _, .nil => .nil
  | _, _, .cons a t => .cons (a.up h) (t.up h)

section
variable {K : PySem.W.Frag} {B : Base} {F : Hp} {ρ : Env} {σ : St} {H : Hp}
/-- a value is read as the heap stands -/
theorem Sim.look (S : Sim K B F ρ σ H) {r : Rv} {v : V} {d : D} (q : RvOk K F σ r v) (e : look ρ r = some d) : Dr K H v d := by
  cases r with
  | dat d' =>
    have e' : d' = d := Option.some.inj e
    subst e'
    exact Dr.up q S.f
  | slot i =>
    have q' : σ[i]? = some (some v) := q
    unfold DL.look at e
    simp only at e
    cases h : ρ[i]? with
    | none => rw [h] at e; cases e
    | some c =>
      rw [h] at e
      cases c with
      | none => cases e
      | some c =>
        cases c with
        | dat d' =>
          have e' : d' = d := Option.some.inj e
          subst e'
          obtain ⟨w, h1, h2⟩ := S.dat i d' h
          rw [q'] at h1; cases h1
          exact h2.up S.f
        | own o d' =>
          have e' : d' = d := Option.some.inj e
          subst e'
          obtain ⟨p, c, h1, h2, h3, _⟩ := S.mu i o d' h
          rw [q'] at h1; cases h1
          exact h3.dr S.f h2
/-- a list's items are data -/
theorem Sim.items (S : Sim K B F ρ σ H) {r : Rv} {v : V} {ds : List D} (q : RvOk K F σ r v) (e : DL.look ρ r = some (.list ds)) : ∃ p vs, v = .ref p ∧ SqL K H p vs ∧ DrAll K F vs ds := by
  cases r with
  | dat d' =>
    have e' : d' = .list ds := Option.some.inj e
    subst e'
    cases q with
    | lst a b => exact ⟨_, _, rfl, S.f.seq a, b⟩
  | slot i =>
    have q' : σ[i]? = some (some v) := q
    unfold DL.look at e
    simp only at e
    cases h : ρ[i]? with
    | none => rw [h] at e; cases e
    | some c =>
      rw [h] at e
      cases c with
      | none => cases e
      | some c =>
        cases c with
        | dat d' =>
          have e' : d' = .list ds := Option.some.inj e
          subst e'
          obtain ⟨w, h1, h2⟩ := S.dat i _ h
          rw [q'] at h1; cases h1
          cases h2 with
          | lst a b => exact ⟨_, _, rfl, S.f.seq a, b⟩
        | own o d' =>
          have e' : d' = .list ds := Option.some.inj e
          subst e'
          obtain ⟨p, c, h1, h2, h3, _⟩ := S.mu i o _ h
          rw [q'] at h1; cases h1
          obtain ⟨vs, rfl, h4⟩ := h3.list
          exact ⟨p, vs, rfl, SqL.of h2, h4⟩
/-- a tuple is data -/
theorem Sim.tuple (S : Sim K B F ρ σ H) {r : Rv} {v : V} {ds : List D} (q : RvOk K F σ r v) (e : DL.look ρ r = some (.tuple ds)) : ∃ p vs, v = .ref p ∧ SqT K F p vs ∧ DrAll K F vs ds := by
  cases r with
  | dat d' =>
    have e' : d' = .tuple ds := Option.some.inj e
    subst e'
    cases q with
    | tup a b => exact ⟨_, _, rfl, a, b⟩
  | slot i =>
    have q' : σ[i]? = some (some v) := q
    unfold DL.look at e
    simp only at e
    cases h : ρ[i]? with
    | none => rw [h] at e; cases e
    | some c =>
      rw [h] at e
      cases c with
      | none => cases e
      | some c =>
        cases c with
        | dat d' =>
          have e' : d' = .tuple ds := Option.some.inj e
          subst e'
          obtain ⟨w, h1, h2⟩ := S.dat i _ h
          rw [q'] at h1; cases h1
          cases h2 with
          | tup a b => exact ⟨_, _, rfl, a, b⟩
        | own o d' =>
          have e' : d' = .tuple ds := Option.some.inj e
          subst e'
          obtain ⟨p, c, h1, h2, h3, _⟩ := S.mu i o _ h
          cases c <;> exact False.elim h3

theorem Sim.free (S : Sim K B F ρ σ H) {p : Addr} (e : H p = none) : B.G p = none ∧ F p = none ∧ B.H p = none := by
  refine ⟨S.g.free e, S.f.free e, ?_⟩
  cases h : B.H p with
  | none => rfl
  | some o => exact absurd e (S.gr p (by rw [h]; simp))
theorem same_upd {H : Hp} {p : Addr} {o : HO} (h : H p = none) : Same H (upd H p o) := fun b x e => by
  rw [upd_ne (ne_of_none e h)]
  exact e
theorem upd_some {H : Hp} {p b : Addr} {o : HO} (h : H b ≠ none) : upd H p o b ≠ none := by
  by_cases e : b = p
  · subst e; rw [upd_same]; simp
  · rw [upd_ne e]; exact h
/-- a new object comes that is no slot's: it is tracked, no data yet -/
theorem Sim.fresh (S : Sim K B F ρ σ H) {p : Addr} {o : HO} (e : H p = none) : Sim K B F ρ σ (upd H p o) where
  g := S.g.trans (same_upd e)
  f := S.f.trans (same_upd e)
  bf := S.bf
  fr := S.fr
  gr := fun b h => upd_some (S.gr b h)
  len := S.len
  dat := S.dat
  mu := fun i ow d h => by
    obtain ⟨q, c, h1, h2, r⟩ := S.mu i ow d h
    exact ⟨q, c, h1, by rw [upd_ne (ne_of_none h2 e)]; exact h2, r⟩
  apart := S.apart
/-- an object that no slot changes becomes data -/
theorem Sim.frozen (S : Sim K B F ρ σ H) {p : Addr} {o : HO} (e : H p = some o) (f0 : F p = none) (h0 : B.H p = none) (hn : ∀ (i : Nat) (ow : Bool) (d : D), ρ[i]? = some (some (.own ow d)) → σ[i]? ≠ some (some (.ref p))) :
    Sim K B (upd F p o) ρ σ H where
  g := S.g
  f := fun b x h => by
    by_cases q : b = p
    · subst q; rw [upd_same] at h; cases h; exact e
    · rw [upd_ne q] at h; exact S.f b x h
  bf := S.bf.trans (same_upd f0)
  fr := fun b h => by
    by_cases q : b = p
    · subst q; exact .inr h0
    · rw [upd_ne q] at h; exact S.fr b h
  gr := S.gr
  len := S.len
  dat := fun i d h => by
    obtain ⟨v, h1, h2⟩ := S.dat i d h
    exact ⟨v, h1, h2.up (same_upd f0)⟩
  mu := fun i ow d h => by
    obtain ⟨q, c, h1, h2, h3, h4, h5, h6⟩ := S.mu i ow d h
    refine ⟨q, c, h1, h2, h3.up (same_upd f0), h4, ?_, h6⟩
    rw [upd_ne]
    · exact h5
    · rintro rfl
      exact hn i ow d h h1
  apart := S.apart
/-- a new object that is data at once -/
theorem Sim.made (S : Sim K B F ρ σ H) {p : Addr} {o : HO} (e : H p = none) : Sim K B (upd F p o) ρ σ (upd H p o) ∧ Same F (upd F p o) := by
  obtain ⟨_, f0, h0⟩ := S.free e
  refine ⟨(S.fresh e).frozen upd_same f0 h0 fun i ow d h q => ?_, same_upd f0⟩
  obtain ⟨p', c, h1, h2, _⟩ := S.mu i ow d h
  rw [h1] at q; cases q
  rw [h2] at e; cases e
theorem Sim.noslot (S : Sim K B F ρ σ H) {p : Addr} (e : H p = none) : ∀ (i : Nat) (ow : Bool) (d : D), ρ[i]? = some (some (.own ow d)) → σ[i]? ≠ some (some (.ref p)) := fun i ow d h q => by
  obtain ⟨p', c, h1, h2, _⟩ := S.mu i ow d h
  rw [h1] at q; cases q
  rw [h2] at e; cases e
end

/-! ### the judgements -/
def DrFs (K : PySem.W.Frag) (F : Hp) : List (Str × V) → List (Str × D) → Prop := Paired fun (a : Str × V) (b : Str × D) => a.1 = b.1 ∧ Dr K F a.2 b.2
/-- an exception as it lies: its class stands under its name, its own dict holds the fields -/
def ExcOk (K : PySem.W.Frag) (F H : Hp) (x : Exc) (cls : Value) (d : Option Addr) : Prop :=
  ∃ (C a : Addr) (fs : List (Str × V)), cls = .ref C ∧ PySem.W.nsIn K mainGlobals x.cls = some (some (.ref C)) ∧ d = some a ∧ H a = some (.xd fs) ∧ DrFs K F fs x.fs
/-- nothing may be raised -/
abbrev W0 : WX := fun _ _ _ _ => False
def XQ (K : PySem.W.Frag) (W : WX) (B : Base) (F : Hp) (σ : St) (x : Exc) (ρ' : Env) : Prop :=
  ∀ F' H' cls d, Same F F' → Sim K B F' ρ' σ H' → ExcOk K F' H' x cls d → W cls d σ H'
theorem XQ.up {K : PySem.W.Frag} {W : WX} {B : Base} {F F1 : Hp} {σ : St} {x : Exc} {ρ' : Env} (h : XQ K W B F σ x ρ') (s : Same F F1) : XQ K W B F1 σ x ρ' :=
  fun F' H' cls d hs S e => h F' H' cls d (s.trans hs) S e

abbrev Den (α : Type) := Env → Ans α
def tDE (K : PySem.W.Frag) (W : WX) (φ : Den Rv) : TE := fun σ H Q => ∃ B F ρ, Sim K B F ρ σ H ∧
  Wp (φ ρ) (fun r ρ' => ∀ F' v H', Same F F' → Sim K B F' ρ' σ H' → RvOk K F' σ r v → Q v H') (XQ K W B F σ)
/-- e is worth φ -/
def DE (X : Cx) (W : WX) (e : Expr) (φ : Den Rv) : Prop := PE X e (tDE X.K W φ)
def tDT (K : PySem.W.Frag) (W : WX) (φ : Den Bool) : TT := fun σ H Q => ∃ B F ρ, Sim K B F ρ σ H ∧
  Wp (φ ρ) (fun b ρ' => ∀ F' H', Same F F' → Sim K B F' ρ' σ H' → Q b H') (XQ K W B F σ)
def DT (X : Cx) (W : WX) (e : Expr) (φ : Den Bool) : Prop := PT X e (tDT X.K W φ)
def tDA (K : PySem.W.Frag) (W : WX) (φ : Den (List Rv)) : TA := fun σ H Q => ∃ B F ρ, Sim K B F ρ σ H ∧
  Wp (φ ρ) (fun rs ρ' => ∀ F' vs H', Same F F' → Sim K B F' ρ' σ H' → RvsOk K F' σ rs vs → Q vs H') (XQ K W B F σ)
def DA (X : Cx) (W : WX) (es : List Expr) (φ : Den (List Rv)) : Prop := PA X es (tDA X.K W φ)
/-- a new list or dict that nobody else holds -/
structure NewAt (K : PySem.W.Frag) (B : Base) (F : Hp) (ρ : Env) (σ : St) (H : Hp) (p : Addr) (d : D) : Prop where
  ct : ∃ c, H p = some c ∧ Cont K F c d
  f0 : F p = none
  g0 : B.G p = none
  h0 : B.H p = none
  ns : ∀ (i : Nat) (ow : Bool) (d : D), ρ[i]? = some (some (.own ow d)) → σ[i]? ≠ some (some (.ref p))
def tDN (K : PySem.W.Frag) (W : WX) (φ : Den D) : TE := fun σ H Q => ∃ B F ρ, Sim K B F ρ σ H ∧
  Wp (φ ρ) (fun d ρ' => ∀ F' p H', Same F F' → Sim K B F' ρ' σ H' → NewAt K B F' ρ' σ H' p d → Q (.ref p) H') (XQ K W B F σ)
def DN (X : Cx) (W : WX) (e : Expr) (φ : Den D) : Prop := PE X e (tDN X.K W φ)

inductive Rt where
  | dat (d : D)
  | own (d : D)
inductive Out where
  | next (ρ : Env)
  | ret (r : Rt) (ρ : Env)
  | brk (ρ : Env)
  | cont (ρ : Env)
  | exc (x : Exc) (ρ : Env)
  | bad
def RtOk (K : PySem.W.Frag) (B : Base) (F' : Hp) (H' : Hp) : Rt → V → Prop
  | .dat d, v => Dr K F' v d
  | .own d, v => ∃ p c, v = .ref p ∧ H' p = some c ∧ Cont K F' c d ∧ F' p = none ∧ B.G p = none ∧ B.H p = none
def SPost (K : PySem.W.Frag) (W : WX) (B : Base) (F : Hp) (Dd : Ends) : Out → Prop
  | .next ρ' => ∀ F' σ' H', Same F F' → Sim K B F' ρ' σ' H' → Dd.nx σ' H'
  | .brk ρ' => ∀ F' σ' H', Same F F' → Sim K B F' ρ' σ' H' → Dd.bk σ' H'
  | .cont ρ' => ∀ F' σ' H', Same F F' → Sim K B F' ρ' σ' H' → Dd.ct σ' H'
  | .ret r ρ' => ∀ F' σ' v H', Same F F' → Sim K B F' ρ' σ' H' → RtOk K B F' H' r v → Dd.rt v H'
  | .exc x ρ' => ∀ F' σ' H' cls d, Same F F' → Sim K B F' ρ' σ' H' → ExcOk K F' H' x cls d → W cls d σ' H'
  | .bad => False
theorem SPost.up {K : PySem.W.Frag} {W : WX} {B : Base} {F F1 : Hp} {Dd : Ends} {o : Out} (h : SPost K W B F Dd o) (s : Same F F1) : SPost K W B F1 Dd o := by
  cases o with
  | next ρ' => exact fun F' σ' H' hs S => h F' σ' H' (s.trans hs) S
  | brk ρ' => exact fun F' σ' H' hs S => h F' σ' H' (s.trans hs) S
  | cont ρ' => exact fun F' σ' H' hs S => h F' σ' H' (s.trans hs) S
  | ret r ρ' => exact fun F' σ' v H' hs S q => h F' σ' v H' (s.trans hs) S q
  | exc x ρ' => exact fun F' σ' H' cls d hs S q => h F' σ' H' cls d (s.trans hs) S q
  | bad => exact h
abbrev DenS := Env → Out
def tDS (K : PySem.W.Frag) (W : WX) (ψ : DenS) : TS := fun Dd σ H => ∃ B F ρ, Sim K B F ρ σ H ∧ SPost K W B F Dd (ψ ρ)
def DS (X : Cx) (W : WX) (st : Stmt) (ψ : DenS) : Prop := PS X st (tDS X.K W ψ)
def DSs (X : Cx) (W : WX) (st : List Stmt) (ψ : DenS) : Prop := PSs X st (tDS X.K W ψ)

section
variable {X : Cx}
theorem pe_imp {e : Expr} {t t' : TE} (h : PE X e t) (hi : ∀ σ H Q, t' σ H Q → t σ H Q) : PE X e t' := ⟨fun pins s σ H Q I q => h.run pins s σ H Q I (hi σ H Q q)⟩
theorem pt_imp {e : Expr} {t t' : TT} (h : PT X e t) (hi : ∀ σ H Q, t' σ H Q → t σ H Q) : PT X e t' := ⟨fun pins s σ H Q I q => h.run pins s σ H Q I (hi σ H Q q)⟩
theorem pw_imp {e : Expr} {t t' : TT} (h : PW X e t) (hi : ∀ σ H Q, t' σ H Q → t σ H Q) : PW X e t' := ⟨fun wh pins s σ H Q I q => h.run wh pins s σ H Q I (hi σ H Q q)⟩
theorem pa_imp {e : List Expr} {t t' : TA} (h : PA X e t) (hi : ∀ σ H Q, t' σ H Q → t σ H Q) : PA X e t' := ⟨fun pos pins s σ H Q I q => h.run pos pins s σ H Q I (hi σ H Q q)⟩
theorem ps_imp {e : Stmt} {t t' : TS} (h : PS X e t) (hi : ∀ D σ H, t' D σ H → t D σ H) : PS X e t' := ⟨fun pins s σ H D I q => h.run pins s σ H D I (hi D σ H q)⟩
theorem pss_imp {e : List Stmt} {t t' : TS} (h : PSs X e t) (hi : ∀ D σ H, t' D σ H → t D σ H) : PSs X e t' := ⟨fun pins s σ H D I q => h.run pins s σ H D I (hi D σ H q)⟩
end
/-- what a body's context must give -/
structure Cok (X : Cx) (W : WX) (k : Nat) : Prop where
  calm : X.calm = true
  nd : X.N.Nodup
  po : PassesOwn (model X.prog X.w) X.A X.env X.xe
  rm : Room k X.A
  gd : X.A.guards = some []
  tk : Takes X W
end DL


/-! D layer, 2: expressions. -/
namespace DL
open PySem PySem.Spec L2

section
variable {K : PySem.W.Frag} {B : Base} {F : Hp} {ρ : Env} {σ : St} {H : Hp} {r : Rv} {v : V}
theorem Sim.int (S : Sim K B F ρ σ H) {i : Int} (q : RvOk K F σ r v) (e : DL.look ρ r = some (.int i)) : v = .int i := by
  cases S.look q e; rfl
theorem Sim.str (S : Sim K B F ρ σ H) {i : Str} (q : RvOk K F σ r v) (e : DL.look ρ r = some (.str i)) : v = .str i := by
  cases S.look q e; rfl
theorem Sim.bool (S : Sim K B F ρ σ H) {i : Bool} (q : RvOk K F σ r v) (e : DL.look ρ r = some (.bool i)) : v = .bl i := by
  cases S.look q e; rfl
theorem Sim.nonV (S : Sim K B F ρ σ H) (q : RvOk K F σ r v) (e : DL.look ρ r = some .none) : v = .non := by
  cases S.look q e; rfl
end

/-! ### names, constants -/
def xName (i : Nat) : Den Rv := fun ρ => match ρ[i]? with
  | some (some (.dat d)) => .ok (.dat d) ρ
  | some (some (.own _ _)) => .ok (.slot i) ρ
  | _ => .bad
def xC (d : D) : Den Rv := fun ρ => .ok (.dat d) ρ
section
variable {X : Cx} {W : WX}
theorem de_name {i : Nat} {x : Str} {pos : Pos} (hN : X.N[i]? = some x := by rfl) (hv : Vis X.env.scope x := by first | exact Or.inl rfl | exact Or.inr (Or.inl rfl) | exact Or.inr (Or.inr rfl)) (hd : (x == ("__debug__" : Str)) = false := by decide)
    (hcd : (x == ("__classdict__" : Str)) = false := by decide) : DE X W (.Name x pos) (xName i) := by
  refine pe_imp (pe_var hN hv hd hcd) fun σ H Q h => ?_
  obtain ⟨B, F, ρ, S, w⟩ := h
  unfold xName at w
  cases e : ρ[i]? with
  | none => rw [e] at w; exact w.elim
  | some c =>
    rw [e] at w
    cases c with
    | none => exact w.elim
    | some c =>
      cases c with
      | dat d =>
        obtain ⟨v, h1, h2⟩ := S.dat i d e
        exact ⟨v, h1, w F v H (Same.refl F) S h2⟩
      | own o d =>
        obtain ⟨p, c, h1, _⟩ := S.mu i o d e
        exact ⟨.ref p, h1, w F _ H (Same.refl F) S h1⟩
theorem de_const {e : Expr} {v : V} {d : D} (h : PE X e (tC v)) (r : ∀ F, Dr X.K F v d) : DE X W e (xC d) := by
  refine pe_imp h fun σ H Q h => ?_
  obtain ⟨B, F, ρ, S, w⟩ := h
  exact w F v H (Same.refl F) S (r F)
theorem de_int {i j pos} : DE X W (.Constant (.int i) j pos) (xC (.int i)) := de_const pe_int fun _ => .int i
theorem de_bool {b j pos} : DE X W (.Constant (.bool b) j pos) (xC (.bool b)) := de_const pe_bl fun _ => .bl b
theorem de_none {j pos} : DE X W (.Constant .none j pos) (xC .none) := de_const pe_non fun _ => .non
theorem de_str {x j pos} : DE X W (.Constant (.str x) j pos) (xC (.str x)) := de_const pe_str fun _ => .str x
/-- a constant of the module -/
theorem de_glob {x : Str} {v : V} {u : Value} {d : D} {pos : Pos} (hg : Gl X x) (hm : X.mg x = some u) (r : RelV v u) (q : ∀ F, Dr X.K F v d) (hd : (x == ("__debug__" : Str)) = false := by decide) : DE X W (.Name x pos) (xC d) :=
  de_const (pe_glob hg hm r hd) q
end

/-! ### a slot's own object becomes data -/
def frz (r : Rv) (ρ : Env) : Ans D := match r with
  | .dat d => .ok d ρ
  | .slot i => match ρ[i]? with
    | some (some (.dat d)) => .ok d ρ
    | some (some (.own true d)) => .ok d (ρ.set i (some (.dat d)))
    | _ => .bad
@[simp] theorem frz_dat (d : D) (ρ : Env) : frz (.dat d) ρ = .ok d ρ := (rfl)
def xFrz (φ : Den Rv) : Den Rv := fun ρ => (φ ρ).bind fun r ρ1 => (frz r ρ1).bind fun d ρ2 => .ok (.dat d) ρ2
theorem Sim.freeze {K : PySem.W.Frag} {B : Base} {F : Hp} {ρ : Env} {σ : St} {H : Hp} (S : Sim K B F ρ σ H) {i : Nat} {d : D} (e : ρ[i]? = some (some (.own true d))) :
    ∃ F' v, Same F F' ∧ σ[i]? = some (some v) ∧ Dr K F' v d ∧ Sim K B F' (ρ.set i (some (.dat d))) σ H := by
  obtain ⟨p, c, h1, h2, h3, h4, h5, h6, _⟩ := S.mu i true d e
  have hi : i < ρ.length := (List.getElem?_eq_some_iff.mp e).1
  have so := same_upd (o := c) h5
  have dr : Dr K (upd F p c) (.ref p) d := h3.dr so upd_same
  refine ⟨upd F p c, .ref p, so, h1, dr, ?_⟩
  have back : ∀ (j : Nat) (o : Bool) (d' : D), (ρ.set i (some (.dat d)))[j]? = some (some (.own o d')) → j ≠ i ∧ ρ[j]? = some (some (.own o d')) := fun j o d' h => by
    by_cases q : j = i
    · subst q; rw [List.getElem?_set_self hi] at h; cases h
    · rw [List.getElem?_set_ne (Ne.symm q)] at h; exact ⟨q, h⟩
  exact {
    g := S.g
    f := fun b x h => by
      by_cases q : b = p
      · subst q; rw [upd_same] at h; cases h; exact h2
      · rw [upd_ne q] at h; exact S.f b x h
    bf := S.bf.trans so
    fr := fun b h => by
      by_cases q : b = p
      · subst q; exact .inr (h6 rfl)
      · rw [upd_ne q] at h; exact S.fr b h
    gr := S.gr
    len := by rw [List.length_set]; exact S.len
    dat := fun j d' h => by
      by_cases q : j = i
      · subst q
        rw [List.getElem?_set_self hi] at h
        cases h
        exact ⟨.ref p, h1, dr⟩
      · rw [List.getElem?_set_ne (Ne.symm q)] at h
        obtain ⟨v, a, b⟩ := S.dat j d' h
        exact ⟨v, a, b.up so⟩
    mu := fun j o d' h => by
      obtain ⟨q, h⟩ := back j o d' h
      obtain ⟨p', c', a1, a2, a3, a4, a5, a6⟩ := S.mu j o d' h
      refine ⟨p', c', a1, a2, a3.up so, a4, ?_, a6⟩
      rw [upd_ne]
      · exact a5
      · rintro rfl
        exact q (S.apart j i o true d' d p' h e a1 h1)
    apart := fun j k o o' d1 d2 q a b a1 b1 => S.apart j k o o' d1 d2 q (back j o d1 a).2 (back k o' d2 b).2 a1 b1 }
/-- freezing a value: what it is worth -/
theorem Sim.frz {K : PySem.W.Frag} {B : Base} {F : Hp} {ρ ρ2 : Env} {σ : St} {H : Hp} (S : Sim K B F ρ σ H) {r : Rv} {v : V} {d : D} (q : RvOk K F σ r v) (e : DL.frz r ρ = .ok d ρ2) : ∃ F', Same F F' ∧ Dr K F' v d ∧ Sim K B F' ρ2 σ H := by
  cases r with
  | dat d' => cases e; exact ⟨F, Same.refl F, q, S⟩
  | slot i =>
    have q' : σ[i]? = some (some v) := q
    unfold DL.frz at e
    simp only at e
    cases h : ρ[i]? with
    | none => rw [h] at e; cases e
    | some c =>
      rw [h] at e
      cases c with
      | none => cases e
      | some c =>
        cases c with
        | dat d' =>
          cases e
          obtain ⟨w, h1, h2⟩ := S.dat i _ h
          rw [q'] at h1; cases h1
          exact ⟨F, Same.refl F, h2, S⟩
        | own o d' =>
          cases o with
          | false => cases e
          | true =>
            cases e
            obtain ⟨F', w, s, h1, h2, S'⟩ := S.freeze h
            rw [q'] at h1; cases h1
            exact ⟨F', s, h2, S'⟩
theorem frz_exc {r : Rv} {ρ ρ' : Env} {x : Exc} : frz r ρ ≠ .exc x ρ' := by
  intro h
  cases r with
  | dat d => cases h
  | slot i =>
    unfold frz at h
    simp only at h
    cases e : ρ[i]? with
    | none => rw [e] at h; cases h
    | some c =>
      rw [e] at h
      cases c with
      | none => cases h
      | some c =>
        cases c with
        | dat d => cases h
        | own o d => cases o <;> cases h
theorem wp_frz {r : Rv} {ρ : Env} {P : D → Env → Prop} {E : Exc → Env → Prop} (h : Wp (frz r ρ) P E) : ∃ d ρ', frz r ρ = .ok d ρ' ∧ P d ρ' := by
  cases e : frz r ρ with
  | ok d ρ' => rw [e] at h; exact ⟨d, ρ', rfl, h⟩
  | exc x ρ' => exact absurd e frz_exc
  | bad => rw [e] at h; exact h.elim
section
variable {X : Cx} {W : WX}
theorem de_frz {e : Expr} {φ : Den Rv} (h : DE X W e φ) : DE X W e (xFrz φ) := by
  refine pe_imp h fun σ H Q hq => ?_
  obtain ⟨B, F, ρ, S, w⟩ := hq
  refine ⟨B, F, ρ, S, wp_mono (wp_bind w) (fun r ρ1 w1 F1 v H1 s1 S1 q1 => ?_) fun _ _ z => z⟩
  obtain ⟨d, ρ2, e2, w2⟩ := wp_frz (wp_mono (wp_bind w1) (fun _ _ z => z) fun _ _ z => z)
  obtain ⟨F2, s2, r2, S2⟩ := S1.frz q1 e2
  exact w2 F2 v H1 (s1.trans s2) S2 r2
end

/-! ### two-place operations -/
def S2 (K : PySem.W.Frag) (r : R2) (op : D → D → Option D) : Prop :=
  ∀ (B : Base) (F : Hp) (ρ : Env) (σ : St) (H : Hp) (x y : V) (a b : Rv) (da db dz : D) (Q : VK), Sim K B F ρ σ H → RvOk K F σ a x → RvOk K F σ b y → look ρ a = some da → look ρ b = some db → op da db = some dz →
    (∀ F' v H', Same F F' → Sim K B F' ρ σ H' → Dr K F' v dz → Q v H') → r x y H Q
theorem S2.or {K : PySem.W.Frag} {r r' : R2} {op op' : D → D → Option D} (h : S2 K r op) (h' : S2 K r' op') : S2 K (fun x y H Q => r x y H Q ∨ r' x y H Q) (fun a b => (op a b).or (op' a b)) := by
  intro B F ρ σ H x y a b da db dz Q S ra rb ea eb e q
  have e : (op da db).or (op' da db) = some dz := e
  cases e1 : op da db with
  | some z =>
    rw [e1] at e
    have e2 : z = dz := Option.some.inj e
    subst e2
    exact .inl (h B F ρ σ H x y a b da db z Q S ra rb ea eb e1 q)
  | none =>
    rw [e1] at e
    exact .inr (h' B F ρ σ H x y a b da db dz Q S ra rb ea eb e q)
def looks (ρ : Env) : List Rv → Option (List D)
  | [] => some []
  | r :: rs => match look ρ r, looks ρ rs with
    | some d, some ds => some (d :: ds)
    | _, _ => none
@[simp] theorem looks_nil (ρ : Env) : looks ρ [] = some [] := (rfl)
@[simp] theorem looks_dat (ρ : Env) (d : D) (rs : List Rv) : looks ρ (.dat d :: rs) = (looks ρ rs).map (d :: ·) := by
  show (match some d, looks ρ rs with | some d, some ds => some (d :: ds) | _, _ => none) = _
  cases looks ρ rs <;> rfl
theorem looks_cons {ρ : Env} {r : Rv} {rs : List Rv} {ds : List D} (h : looks ρ (r :: rs) = some ds) : ∃ d ds', ds = d :: ds' ∧ look ρ r = some d ∧ looks ρ rs = some ds' := by
  unfold looks at h
  cases e : look ρ r with
  | none => rw [e] at h; cases h
  | some d =>
    rw [e] at h
    cases e2 : looks ρ rs with
    | none => rw [e2] at h; cases h
    | some ds' => rw [e2] at h; cases h; exact ⟨d, ds', rfl, rfl, rfl⟩
def appl2 (op : D → D → Option D) (a b : Rv) (ρ : Env) : Ans Rv := match look ρ a, look ρ b with
  | some x, some y => match op x y with
    | some z => .ok (.dat z) ρ
    | none => .bad
  | _, _ => .bad
@[simp] theorem appl2_dat (op : D → D → Option D) (a b : D) (ρ : Env) : appl2 op (.dat a) (.dat b) ρ = match op a b with | some z => .ok (.dat z) ρ | none => .bad := (rfl)
theorem wp_appl2 {op : D → D → Option D} {a b : Rv} {ρ : Env} {P : Rv → Env → Prop} {E : Exc → Env → Prop} (h : Wp (appl2 op a b ρ) P E) : ∃ x y z, look ρ a = some x ∧ look ρ b = some y ∧ op x y = some z ∧ P (.dat z) ρ := by
  unfold appl2 at h
  cases e1 : look ρ a with
  | none => rw [e1] at h; exact h.elim
  | some x =>
    cases e2 : look ρ b with
    | none => rw [e1, e2] at h; exact h.elim
    | some y =>
      rw [e1, e2] at h
      simp only at h
      cases e3 : op x y with
      | none => rw [e3] at h; exact h.elim
      | some z => rw [e3] at h; exact ⟨x, y, z, rfl, rfl, e3, h⟩
def xOp (op : D → D → Option D) (φ ψ : Den Rv) : Den Rv := fun ρ => (φ ρ).bind fun a ρ1 => (ψ ρ1).bind fun b ρ2 => appl2 op a b ρ2
section
variable {X : Cx} {W : WX}
theorem top_sound {r : R2} {op : D → D → Option D} (hs : S2 X.K r op) {φ ψ : Den Rv} {σ : St} {H : Hp} {Q : VK} (h : tDE X.K W (xOp op φ ψ) σ H Q) : tOp r (tDE X.K W φ) (tDE X.K W ψ) σ H Q := by
  obtain ⟨B, F, ρ, S, w⟩ := h
  refine ⟨B, F, ρ, S, wp_mono (wp_bind w) (fun a ρ1 w1 F1 x H1 s1 S1 q1 => ?_) fun _ _ z => z⟩
  refine ⟨B, F1, ρ1, S1, wp_mono (wp_bind w1) (fun b ρ2 w2 F2 y H2 s2 S2 q2 => ?_) fun _ _ z => z.up s1⟩
  obtain ⟨da, db, dz, e1, e2, e3, w3⟩ := wp_appl2 w2
  exact hs B F2 ρ2 σ H2 x y a b da db dz Q S2 (q1.up s2) q2 e1 e2 e3 fun F3 v H3 s3 S3 r3 => w3 F3 v H3 ((s1.trans s2).trans s3) S3 r3
theorem de_op {op : Operator} {r : R2} {g : D → D → Option D} {a b : Expr} {pos : Pos} {φ ψ : Den Rv} (ho : OpR X (binaryOp op) r) (hs : S2 X.K r g) (ha : DE X W a φ) (hb : DE X W b ψ) : DE X W (.BinOp a op b pos) (xOp g φ ψ) :=
  pe_imp (pe_op ho ha hb) fun _ _ _ h => top_sound hs h
theorem de_cmp {op : CmpOp} {r : R2} {g : D → D → Option D} {a b : Expr} {pos : Pos} {φ ψ : Den Rv} (ho : OpR X (compareOp op) r) (hs : S2 X.K r g) (ha : DE X W a φ) (hb : DE X W b ψ) (hm : behindInMarks op b = false) : DE X W (.Compare a [op] [b] pos) (xOp g φ ψ) :=
  pe_imp (pe_cmpR ho ha hb hm) fun _ _ _ h => top_sound hs h
end

/-! ### ints -/
def gAdd : D → D → Option D
  | .int i, .int j => some (.int (i + j))
  | .str x, .str y => if x.length + y.length ≤ sizeLine then some (.str (x ++ y)) else none
  | .tuple xs, .tuple ys => if xs.length + ys.length ≤ sizeLine then some (.tuple (xs ++ ys)) else none
  | _, _ => none
def gSub : D → D → Option D
  | .int i, .int j => some (.int (i - j))
  | _, _ => none
def gMul : D → D → Option D
  | .int i, .int j => if -(2 ^ 64) < i ∧ i < 2 ^ 64 ∨ -(2 ^ 64) < j ∧ j < 2 ^ 64 then some (.int (i * j)) else none
  | _, _ => none
def gMod : D → D → Option D
  | .int i, .int j => if 0 < j then some (.int (i % j)) else none
  | _, _ => none
def gDiv : D → D → Option D
  | .int i, .int j => if 0 < j ∧ j < 1073741824 then some (.int (i / j)) else none
  | _, _ => none
def gPow : D → D → Option D
  | .int i, .int j => if 0 ≤ j ∧ j ≤ 1000000 ∧ i.natAbs < 2 ^ 64 then some (.int (i ^ j.toNat)) else none
  | _, _ => none
section
variable {X : Cx} {K : PySem.W.Frag}
theorem s2_rI {C : Int → Int → Prop} {g : Int → Int → V} {op : D → D → Option D}
    (h : ∀ da db dz, op da db = some dz → ∃ i j, da = .int i ∧ db = .int j ∧ C i j ∧ ∀ F, Dr K F (g i j) dz) : S2 K (rI C g) op := by
  intro B F ρ σ H x y a b da db dz Q S ra rb ea eb e q
  obtain ⟨i, j, rfl, rfl, hc, hd⟩ := h _ _ _ e
  exact ⟨i, j, S.int ra ea, S.int rb eb, hc, q F _ H (Same.refl F) S (hd F)⟩
theorem s2_rI0 {g : Int → Int → V} {op : D → D → Option D}
    (h : ∀ da db dz, op da db = some dz → ∃ i j, da = .int i ∧ db = .int j ∧ ∀ F, Dr K F (g i j) dz) : S2 K (rI0 g) op := by
  intro B F ρ σ H x y a b da db dz Q S ra rb ea eb e q
  obtain ⟨i, j, rfl, rfl, hd⟩ := h _ _ _ e
  exact ⟨i, j, S.int ra ea, S.int rb eb, q F _ H (Same.refl F) S (hd F)⟩
theorem if_some {α : Type} {c : Prop} [Decidable c] {a b : α} (h : (if c then some a else none) = some b) : c ∧ a = b := by
  by_cases hc : c
  · rw [if_pos hc] at h; exact ⟨hc, Option.some.inj h⟩
  · rw [if_neg hc] at h; cases h
theorem s2_sub : S2 K (rI0 fun i j => .int (i - j)) gSub := s2_rI0 fun da db dz e => by
  cases da <;> cases db <;> simp only [gSub, reduceCtorEq, Option.some.injEq] at e
  subst e
  exact ⟨_, _, rfl, rfl, fun _ => .int _⟩
theorem s2_mul : S2 K (rI CMul fun i j => .int (i * j)) gMul := s2_rI fun da db dz e => by
  cases da <;> cases db <;> simp only [gMul, reduceCtorEq] at e
  obtain ⟨hc, e⟩ := if_some e
  subst e
  exact ⟨_, _, rfl, rfl, hc, fun _ => .int _⟩
theorem s2_mod : S2 K (rI (fun _ j => 0 < j) fun i j => .int (i % j)) gMod := s2_rI fun da db dz e => by
  cases da <;> cases db <;> simp only [gMod, reduceCtorEq] at e
  obtain ⟨hc, e⟩ := if_some e
  subst e
  exact ⟨_, _, rfl, rfl, hc, fun _ => .int _⟩
theorem s2_div : S2 K (rI CDiv fun i j => .int (i / j)) gDiv := s2_rI fun da db dz e => by
  cases da <;> cases db <;> simp only [gDiv, reduceCtorEq] at e
  obtain ⟨hc, e⟩ := if_some e
  subst e
  exact ⟨_, _, rfl, rfl, hc, fun _ => .int _⟩
theorem s2_pow : S2 K (rI CPow fun i j => .int (i ^ j.toNat)) gPow := s2_rI fun da db dz e => by
  cases da <;> cases db <;> simp only [gPow, reduceCtorEq] at e
  obtain ⟨hc, e⟩ := if_some e
  subst e
  exact ⟨_, _, rfl, rfl, hc, fun _ => .int _⟩
/-- a new tuple at p -/
theorem Sim.newTup {B : Base} {F : Hp} {ρ : Env} {σ : St} {H : Hp} (S : Sim K B F ρ σ H) {p : Addr} {vs : List V} {ds : List D} (e : H p = none) (r : DrAll K F vs ds) {Q : VK} {dz : D} (hz : dz = .tuple ds)
    (q : ∀ F' v H', Same F F' → Sim K B F' ρ σ H' → Dr K F' v dz → Q v H') : Q (.ref p) (upd H p (.tup vs)) := by
  subst hz
  obtain ⟨S', s⟩ := S.made (o := .tup vs) e
  exact q _ _ _ s S' (.tup (SqT.of upd_same) (r.up s))
theorem Sim.newLst {B : Base} {F : Hp} {ρ : Env} {σ : St} {H : Hp} (S : Sim K B F ρ σ H) {p : Addr} {vs : List V} {ds : List D} (e : H p = none) (r : DrAll K F vs ds) {Q : VK} {dz : D} (hz : dz = .list ds)
    (q : ∀ F' v H', Same F F' → Sim K B F' ρ σ H' → Dr K F' v dz → Q v H') : Q (.ref p) (upd H p (.lst vs)) := by
  subst hz
  obtain ⟨S', s⟩ := S.made (o := .lst vs) e
  exact q _ _ _ s S' (.lst (SqL.of upd_same) (r.up s))
theorem Sim.dr_tuple {B : Base} {F : Hp} {ρ : Env} {σ : St} {H : Hp} (S : Sim K B F ρ σ H) {r : Rv} {v : V} {ds : List D} (q : RvOk K F σ r v) (e : DL.look ρ r = some (.tuple ds)) : Dr K F v (.tuple ds) := by
  obtain ⟨p, vs, rfl, h1, h2⟩ := S.tuple q e
  exact .tup h1 h2

def rAdd (K : PySem.W.Frag) : R2 := fun x y H Q => (rI0 (fun i j => .int (i + j)) x y H Q ∨ (∃ i j, x = .str i ∧ y = .str j ∧ i.length + j.length ≤ sizeLine ∧ Q (.str (i ++ j)) H)) ∨ rCatA K x y H Q
theorem op_addA : OpR X (binaryOp .Add) (rAdd X.K) := OpR.or (OpR.or op_add op_add_str) op_catA
theorem s2_add : S2 K (rAdd K) gAdd := by
  intro B F ρ σ H x y a b da db dz Q S ra rb ea eb e q
  cases da <;> cases db <;> simp only [gAdd, reduceCtorEq] at e
  · cases e
    exact .inl (.inl ⟨_, _, S.int ra ea, S.int rb eb, q F _ H (Same.refl F) S (.int _)⟩)
  · obtain ⟨hc, e⟩ := if_some e
    subst e
    exact .inl (.inr ⟨_, _, S.str ra ea, S.str rb eb, hc, q F _ H (Same.refl F) S (.str _)⟩)
  · obtain ⟨hc, e⟩ := if_some e
    obtain ⟨p, vs, rfl, h1, h2⟩ := S.tuple ra ea
    obtain ⟨p', us, rfl, g1, g2⟩ := S.tuple rb eb
    refine .inr ⟨p, p', vs, us, rfl, rfl, sqT_mono S.f h1, sqT_mono S.f g1, by rw [h2.length, g2.length]; exact hc, fun z => ?_, fun _ z => ?_, fun _ _ p2 n => ?_⟩
    · subst z
      cases h2
      subst e
      exact q F _ H (Same.refl F) S (.tup g1 g2)
    · subst z
      cases g2
      rw [List.append_nil] at e
      subst e
      exact q F _ H (Same.refl F) S (.tup h1 h2)
    · exact S.newTup n (h2.append g2) e.symm q
/-- lists one behind the other (a new one; both tracked) -/
def gCat : D → D → Option D
  | .list xs, .list ys => if xs.length + ys.length ≤ sizeLine then some (.list (xs ++ ys)) else none
  | _, _ => none
end

/-! ### comparisons -/
def gEq (a b : D) : Option D := if SeqAt.shaped a ∧ SeqAt.shaped b then some (.bool (PyData.eqv a b)) else none
def gNe (a b : D) : Option D := if SeqAt.shaped a ∧ SeqAt.shaped b then some (.bool (!PyData.eqv a b)) else none
section
variable {X : Cx} {K : PySem.W.Frag}
mutual
theorem Dr.dp {F : Hp} : ∀ (d : D) (v : V), d.canLay0 = true → Dr K F v d → Dp K F v d
  | .none, _, _, q => by cases q; exact .non
  | .bool b, _, _, q => by cases q; exact .bl b
  | .int i, _, _, q => by cases q; exact .int i
  | .str x, _, _, q => by cases q; exact .str x
  | .list ds, _, h, q => by cases q with | lst a b => exact .lst a (DrAll.dp ds _ (by simpa [PyData.canLay0] using h) b)
  | .tuple ds, _, h, q => by cases q with | tup a b => exact .tup a (DrAll.dp ds _ (by simpa [PyData.canLay0] using h) b)
  | .dict es, _, h, q => by simp [PyData.canLay0] at h
theorem DrAll.dp {F : Hp} : ∀ (ds : List D) (vs : List V), PyData.canLayAll0 ds = true → DrAll K F vs ds → DpAll K F vs ds
  | [], _, _, q => by cases q; exact .nil
  | d :: ds, _, h, q => by
    have h' : d.canLay0 = true ∧ PyData.canLayAll0 ds = true := by simpa [PyData.canLayAll0] using h
    cases q with | cons a b => exact .cons (Dr.dp d _ h'.1 a) (DrAll.dp ds _ h'.2 b)
end
theorem s2_eq : S2 K (rEqD K) gEq := by
  intro B F ρ σ H x y a b da db dz Q S ra rb ea eb e q
  obtain ⟨⟨s1, s2⟩, e⟩ := if_some e
  subst e
  exact ⟨da, db, Dr.dp _ _ (SeqAt.canLay_of_shaped s1) (S.look ra ea), Dr.dp _ _ (SeqAt.canLay_of_shaped s2) (S.look rb eb), s1, s2, q F _ H (Same.refl F) S (.bl _)⟩
theorem s2_ne : S2 K (rNeD K) gNe := by
  intro B F ρ σ H x y a b da db dz Q S ra rb ea eb e q
  obtain ⟨⟨s1, s2⟩, e⟩ := if_some e
  subst e
  exact ⟨da, db, Dr.dp _ _ (SeqAt.canLay_of_shaped s1) (S.look ra ea), Dr.dp _ _ (SeqAt.canLay_of_shaped s2) (S.look rb eb), s1, s2, q F _ H (Same.refl F) S (.bl _)⟩
/-- orders of ints and texts -/
def gLt : D → D → Option D
  | .int i, .int j => some (.bool (decide (i < j)))
  | .str i, .str j => some (.bool (decide (i.cps.toList < j.cps.toList)))
  | _, _ => none
def gLe : D → D → Option D
  | .int i, .int j => some (.bool (decide (i ≤ j)))
  | .str i, .str j => some (.bool (!decide (j.cps.toList < i.cps.toList)))
  | _, _ => none
def gGt : D → D → Option D
  | .int i, .int j => some (.bool (decide (j < i)))
  | .str i, .str j => some (.bool (decide (j.cps.toList < i.cps.toList)))
  | _, _ => none
def gGe : D → D → Option D
  | .int i, .int j => some (.bool (decide (j ≤ i)))
  | .str i, .str j => some (.bool (!decide (i.cps.toList < j.cps.toList)))
  | _, _ => none
abbrev rStr (g : Str → Str → V) : R2 := fun x y H Q => ∃ i j, x = .str i ∧ y = .str j ∧ Q (g i j) H
theorem s2_ord {gi : Int → Int → Bool} {gs : Str → Str → Bool} {op : D → D → Option D}
    (h : ∀ da db dz, op da db = some dz → (∃ i j, da = .int i ∧ db = .int j ∧ dz = .bool (gi i j)) ∨ (∃ i j, da = .str i ∧ db = .str j ∧ dz = .bool (gs i j))) :
    S2 K (fun x y H Q => rI0 (fun i j => .bl (gi i j)) x y H Q ∨ rStr (fun i j => .bl (gs i j)) x y H Q) op := by
  intro B F ρ σ H x y a b da db dz Q S ra rb ea eb e q
  rcases h _ _ _ e with ⟨i, j, rfl, rfl, rfl⟩ | ⟨i, j, rfl, rfl, rfl⟩
  · exact .inl ⟨i, j, S.int ra ea, S.int rb eb, q F _ H (Same.refl F) S (.bl _)⟩
  · exact .inr ⟨i, j, S.str ra ea, S.str rb eb, q F _ H (Same.refl F) S (.bl _)⟩
theorem op_ltA : OpR X (compareOp .Lt) (fun x y H Q => rI0 (fun i j => .bl (decide (i < j))) x y H Q ∨ rStr (fun i j => .bl (decide (i.cps.toList < j.cps.toList))) x y H Q) := OpR.or op_lt op_lt_str
theorem op_leA : OpR X (compareOp .LtE) (fun x y H Q => rI0 (fun i j => .bl (decide (i ≤ j))) x y H Q ∨ rStr (fun i j => .bl (!decide (j.cps.toList < i.cps.toList))) x y H Q) := OpR.or op_le op_le_str
theorem op_gtA : OpR X (compareOp .Gt) (fun x y H Q => rI0 (fun i j => .bl (decide (j < i))) x y H Q ∨ rStr (fun i j => .bl (decide (j.cps.toList < i.cps.toList))) x y H Q) := OpR.or op_gt op_gt_str
theorem op_geA : OpR X (compareOp .GtE) (fun x y H Q => rI0 (fun i j => .bl (decide (j ≤ i))) x y H Q ∨ rStr (fun i j => .bl (!decide (i.cps.toList < j.cps.toList))) x y H Q) := OpR.or op_ge op_ge_str
theorem s2_lt : S2 K (fun x y H Q => rI0 (fun i j => .bl (decide (i < j))) x y H Q ∨ rStr (fun i j => .bl (decide (i.cps.toList < j.cps.toList))) x y H Q) gLt := s2_ord fun da db dz e => by
  cases da <;> cases db <;> simp only [gLt, reduceCtorEq] at e <;> cases e
  · exact .inl ⟨_, _, rfl, rfl, rfl⟩
  · exact .inr ⟨_, _, rfl, rfl, rfl⟩
theorem s2_le : S2 K (fun x y H Q => rI0 (fun i j => .bl (decide (i ≤ j))) x y H Q ∨ rStr (fun i j => .bl (!decide (j.cps.toList < i.cps.toList))) x y H Q) gLe := s2_ord fun da db dz e => by
  cases da <;> cases db <;> simp only [gLe, reduceCtorEq] at e <;> cases e
  · exact .inl ⟨_, _, rfl, rfl, rfl⟩
  · exact .inr ⟨_, _, rfl, rfl, rfl⟩
theorem s2_gt : S2 K (fun x y H Q => rI0 (fun i j => .bl (decide (j < i))) x y H Q ∨ rStr (fun i j => .bl (decide (j.cps.toList < i.cps.toList))) x y H Q) gGt := s2_ord fun da db dz e => by
  cases da <;> cases db <;> simp only [gGt, reduceCtorEq] at e <;> cases e
  · exact .inl ⟨_, _, rfl, rfl, rfl⟩
  · exact .inr ⟨_, _, rfl, rfl, rfl⟩
theorem s2_ge : S2 K (fun x y H Q => rI0 (fun i j => .bl (decide (j ≤ i))) x y H Q ∨ rStr (fun i j => .bl (!decide (i.cps.toList < j.cps.toList))) x y H Q) gGe := s2_ord fun da db dz e => by
  cases da <;> cases db <;> simp only [gGe, reduceCtorEq] at e <;> cases e
  · exact .inl ⟨_, _, rfl, rfl, rfl⟩
  · exact .inr ⟨_, _, rfl, rfl, rfl⟩
/-- is None -/
def isNone : D → Bool
  | .none => true
  | _ => false
def gIsN (neg : Bool) (a b : D) : Option D := if isNone b then some (.bool (if neg then !isNone a else isNone a)) else none
theorem isNone_of {F : Hp} {v : V} {d : D} (h : Dr K F v d) : decide (v = .non) = isNone d := by
  cases h <;> simp [isNone]
theorem s2_isN : S2 K (fun x y H Q => y = .non ∧ Q (.bl (decide (x = .non))) H) (gIsN false) := by
  intro B F ρ σ H x y a b da db dz Q S ra rb ea eb e q
  obtain ⟨h, e⟩ := if_some e
  subst e
  have hb : db = .none := by cases db <;> first | rfl | cases h
  subst hb
  refine ⟨S.nonV rb eb, ?_⟩
  rw [isNone_of (S.look ra ea)]
  exact q F _ H (Same.refl F) S (.bl _)
theorem s2_notN : S2 K (fun x y H Q => y = .non ∧ Q (.bl (!decide (x = .non))) H) (gIsN true) := by
  intro B F ρ σ H x y a b da db dz Q S ra rb ea eb e q
  obtain ⟨h, e⟩ := if_some e
  subst e
  have hb : db = .none := by cases db <;> first | rfl | cases h
  subst hb
  refine ⟨S.nonV rb eb, ?_⟩
  rw [isNone_of (S.look ra ea)]
  exact q F _ H (Same.refl F) S (.bl _)
end
end DL


/-! D layer, 3: tests, displays, built-ins, subscripts. -/
namespace DL
open PySem PySem.Spec L2

/-! ### tests -/
def bit (r : Rv) (ρ : Env) : Ans Bool := match look ρ r with
  | some (.bool b) => .ok b ρ
  | _ => .bad
@[simp] theorem bit_dat (b : Bool) (ρ : Env) : bit (.dat (.bool b)) ρ = .ok b ρ := (rfl)
theorem wp_bit {r : Rv} {ρ : Env} {P : Bool → Env → Prop} {E : Exc → Env → Prop} (h : Wp (bit r ρ) P E) : ∃ b, look ρ r = some (.bool b) ∧ P b ρ := by
  unfold bit at h
  cases e : look ρ r with
  | none => rw [e] at h; exact h.elim
  | some d =>
    rw [e] at h
    cases d <;> first | exact h.elim | exact ⟨_, rfl, h⟩
def xTest (φ : Den Rv) : Den Bool := fun ρ => (φ ρ).bind bit
def truth : D → Option Bool
  | .none => some false
  | .bool b => some b
  | .int i => some (i != 0)
  | .str x => if x.length ≤ sizeLine then some ((x.length : Int) != 0) else none
  | .list xs => some (!xs.isEmpty)
  | .tuple xs => some (!xs.isEmpty)
  | .dict _ => none
def truthy' (r : Rv) (ρ : Env) : Ans Bool := match look ρ r with
  | some d => ofO (truth d) ρ
  | none => .bad
@[simp] theorem truthy'_dat (d : D) (ρ : Env) : truthy' (.dat d) ρ = ofO (truth d) ρ := (rfl)
theorem wp_truthy {r : Rv} {ρ : Env} {P : Bool → Env → Prop} {E : Exc → Env → Prop} (h : Wp (truthy' r ρ) P E) : ∃ d b, look ρ r = some d ∧ truth d = some b ∧ P b ρ := by
  unfold truthy' at h
  cases e : look ρ r with
  | none => rw [e] at h; exact h.elim
  | some d =>
    rw [e] at h
    obtain ⟨b, h1, h2⟩ := wp_ofO h
    exact ⟨d, b, rfl, h1, h2⟩
def xTruth (φ : Den Rv) : Den Bool := fun ρ => (φ ρ).bind truthy'
theorem truth_ok {K : PySem.W.Frag} {H : Hp} {v : V} {d : D} {b : Bool} (q : Dr K H v d) (e : truth d = some b) : TruV K v H b := by
  cases q with
  | non => cases e; rfl
  | bl b => cases e; rfl
  | int i => cases e; rfl
  | str x =>
    obtain ⟨h, e⟩ := if_some e
    exact ⟨h, e.symm⟩
  | lst a t =>
    cases e
    refine .inl ⟨_, a, ?_⟩
    cases t <;> rfl
  | tup a t =>
    cases e
    refine .inr (.inl ⟨_, a, ?_⟩)
    cases t <;> rfl
  | dic a t => cases e
def xNot (φ : Den Bool) : Den Bool := fun ρ => (φ ρ).bind fun b ρ1 => .ok (!b) ρ1
def xAnd (φ ψ : Den Bool) : Den Bool := fun ρ => (φ ρ).bind fun b ρ1 => if b = true then ψ ρ1 else .ok false ρ1
def xOr (φ ψ : Den Bool) : Den Bool := fun ρ => (φ ρ).bind fun b ρ1 => if b = true then .ok true ρ1 else ψ ρ1
/-- a and b, a or b, the first a bool; not a -/
def xAndV (φ ψ : Den Rv) : Den Rv := fun ρ => (φ ρ).bind fun a ρ1 => (bit a ρ1).bind fun b ρ2 => if b = true then ψ ρ2 else .ok (.dat (.bool false)) ρ2
def xOrV (φ ψ : Den Rv) : Den Rv := fun ρ => (φ ρ).bind fun a ρ1 => (bit a ρ1).bind fun b ρ2 => if b = true then .ok (.dat (.bool true)) ρ2 else ψ ρ2
def xNotV (φ : Den Rv) : Den Rv := fun ρ => (φ ρ).bind fun a ρ1 => (truthy' a ρ1).bind fun b ρ2 => .ok (.dat (.bool (!b))) ρ2
def xIf (c : Den Bool) (φ ψ : Den Rv) : Den Rv := fun ρ => (c ρ).bind fun b ρ1 => if b = true then φ ρ1 else ψ ρ1
section
variable {X : Cx} {W : WX} {a b c e : Expr} {pos : Pos} {φ ψ : Den Rv} {β γ : Den Bool} {rest : List Expr}
theorem dt_val (h : DE X W e φ) (he : ∀ whole, isTrue e X.env whole = (do let v ← whole; standAt e.pos; holding [v] (truthy v)) := by intro _; rfl) : DT X W e (xTest φ) := by
  refine pt_imp (pt_val h he) fun σ H Q hq => ?_
  obtain ⟨B, F, ρ, S, w⟩ := hq
  refine ⟨B, F, ρ, S, wp_mono (wp_bind w) (fun r ρ1 w1 F1 v H1 s1 S1 q1 => ?_) fun _ _ z => z⟩
  obtain ⟨b, e1, w2⟩ := wp_bit w1
  exact ⟨b, S1.bool q1 e1, w2 F1 H1 s1 S1⟩
theorem dt_truth (h : DE X W e φ) (he : ∀ whole, isTrue e X.env whole = (do let v ← whole; standAt e.pos; holding [v] (truthy v)) := by intro _; rfl) : DT X W e (xTruth φ) := by
  refine pt_imp (pt_truth h he) fun σ H Q hq => ?_
  obtain ⟨B, F, ρ, S, w⟩ := hq
  refine ⟨B, F, ρ, S, wp_mono (wp_bind w) (fun r ρ1 w1 F1 v H1 s1 S1 q1 => ?_) fun _ _ z => z⟩
  obtain ⟨d, b, e1, e2, w2⟩ := wp_truthy w1
  exact ⟨b, truth_ok (S1.look q1 e1) e2, w2 F1 H1 s1 S1⟩
theorem ttest_sound {t : TE} {σ : St} {H : Hp} {Q : Bool → Hp → Prop} (ht : ∀ Q, tDE X.K W φ σ H Q → t σ H Q) (h : tDT X.K W (xTest φ) σ H Q) : tTest t σ H Q := by
  refine ht _ ?_
  obtain ⟨B, F, ρ, S, w⟩ := h
  refine ⟨B, F, ρ, S, wp_mono (wp_bind w) (fun r ρ1 w1 F1 v H1 s1 S1 q1 => ?_) fun _ _ z => z⟩
  obtain ⟨b, e1, w2⟩ := wp_bit w1
  exact ⟨b, S1.bool q1 e1, w2 F1 H1 s1 S1⟩
theorem dt_cmp {op : CmpOp} {r : R2} {g : D → D → Option D} (ho : OpR X (compareOp op) r) (hs : S2 X.K r g) (ha : DE X W a φ) (hb : DE X W b ψ) (hm : behindInMarks op b = false) : DT X W (.Compare a [op] [b] pos) (xTest (xOp g φ ψ)) :=
  pt_imp (pt_cmpR ho ha hb hm) fun _ _ _ h => ttest_sound (fun _ h => top_sound hs h) h
theorem dt_not (h : DT X W a β) : DT X W (.UnaryOp .Not a pos) (xNot β) := by
  refine pt_imp (pt_not h) fun σ H Q hq => ?_
  obtain ⟨B, F, ρ, S, w⟩ := hq
  exact ⟨B, F, ρ, S, wp_mono (wp_bind w) (fun r ρ1 w1 F1 H1 s1 S1 => w1 F1 H1 s1 S1) fun _ _ z => z⟩
/-- chains of and, or -/
def DW (X : Cx) (W : WX) (e : Expr) (φ : Den Bool) : Prop := PW X e (tDT X.K W φ)
theorem DW.dt (h : DW X W e β) : DT X W e β := PW.pt h
theorem dw_and1 (h : DT X W a β) : DW X W (.BoolOp .And [a] pos) β := pw_and1 h
theorem dw_or1 (h : DT X W a β) : DW X W (.BoolOp .Or [a] pos) β := pw_or1 h
theorem dw_and (ha : DT X W a β) (hb : DW X W (.BoolOp .And (b :: rest) pos) γ) : DW X W (.BoolOp .And (a :: b :: rest) pos) (xAnd β γ) := by
  refine pw_imp (pw_and ha hb) fun σ H Q hq => ?_
  obtain ⟨B, F, ρ, S, w⟩ := hq
  refine ⟨B, F, ρ, S, wp_mono (wp_bind w) (fun k ρ1 w1 F1 H1 s1 S1 => ?_) fun _ _ z => z⟩
  cases k with
  | true =>
    rw [if_pos rfl] at w1 ⊢
    exact ⟨B, F1, ρ1, S1, wp_mono w1 (fun k ρ2 w2 F2 H2 s2 S2 => w2 F2 H2 (s1.trans s2) S2) fun _ _ z => z.up s1⟩
  | false =>
    rw [if_neg (by simp)] at w1 ⊢
    exact w1 F1 H1 s1 S1
theorem dw_or (ha : DT X W a β) (hb : DW X W (.BoolOp .Or (b :: rest) pos) γ) : DW X W (.BoolOp .Or (a :: b :: rest) pos) (xOr β γ) := by
  refine pw_imp (pw_or ha hb) fun σ H Q hq => ?_
  obtain ⟨B, F, ρ, S, w⟩ := hq
  refine ⟨B, F, ρ, S, wp_mono (wp_bind w) (fun k ρ1 w1 F1 H1 s1 S1 => ?_) fun _ _ z => z⟩
  cases k with
  | true =>
    rw [if_pos rfl] at w1 ⊢
    exact w1 F1 H1 s1 S1
  | false =>
    rw [if_neg (by simp)] at w1 ⊢
    exact ⟨B, F1, ρ1, S1, wp_mono w1 (fun k ρ2 w2 F2 H2 s2 S2 => w2 F2 H2 (s1.trans s2) S2) fun _ _ z => z.up s1⟩
theorem de_one {op} (h : DE X W a φ) : DE X W (.BoolOp op [a] pos) φ := pe_one h
theorem de_and (ha : DE X W a φ) (hb : DE X W (.BoolOp .And (b :: rest) pos) ψ) : DE X W (.BoolOp .And (a :: b :: rest) pos) (xAndV φ ψ) := by
  refine pe_imp (pe_and ha hb) fun σ H Q hq => ?_
  obtain ⟨B, F, ρ, S, w⟩ := hq
  refine ⟨B, F, ρ, S, wp_mono (wp_bind w) (fun r ρ1 w1 F1 v H1 s1 S1 q1 => ?_) fun _ _ z => z⟩
  obtain ⟨k, e1, w2⟩ := wp_bit (wp_bind w1)
  refine ⟨k, S1.bool q1 e1, ?_⟩
  cases k with
  | true =>
    rw [if_pos rfl] at w2 ⊢
    exact ⟨B, F1, ρ1, S1, wp_mono w2 (fun k ρ2 w2 F2 v H2 s2 S2 q => w2 F2 v H2 (s1.trans s2) S2 q) fun _ _ z => z.up s1⟩
  | false =>
    rw [if_neg (by simp)] at w2 ⊢
    exact w2 F1 _ H1 s1 S1 (.bl false)
theorem de_or (ha : DE X W a φ) (hb : DE X W (.BoolOp .Or (b :: rest) pos) ψ) : DE X W (.BoolOp .Or (a :: b :: rest) pos) (xOrV φ ψ) := by
  refine pe_imp (pe_or ha hb) fun σ H Q hq => ?_
  obtain ⟨B, F, ρ, S, w⟩ := hq
  refine ⟨B, F, ρ, S, wp_mono (wp_bind w) (fun r ρ1 w1 F1 v H1 s1 S1 q1 => ?_) fun _ _ z => z⟩
  obtain ⟨k, e1, w2⟩ := wp_bit (wp_bind w1)
  refine ⟨k, S1.bool q1 e1, ?_⟩
  cases k with
  | true =>
    rw [if_pos rfl] at w2 ⊢
    exact w2 F1 _ H1 s1 S1 (.bl true)
  | false =>
    rw [if_neg (by simp)] at w2 ⊢
    exact ⟨B, F1, ρ1, S1, wp_mono w2 (fun k ρ2 w2 F2 v H2 s2 S2 q => w2 F2 v H2 (s1.trans s2) S2 q) fun _ _ z => z.up s1⟩
theorem de_not (ha : DE X W a φ) : DE X W (.UnaryOp .Not a pos) (xNotV φ) := by
  refine pe_imp (pe_notT ha) fun σ H Q hq => ?_
  obtain ⟨B, F, ρ, S, w⟩ := hq
  refine ⟨B, F, ρ, S, wp_mono (wp_bind w) (fun r ρ1 w1 F1 v H1 s1 S1 q1 => ?_) fun _ _ z => z⟩
  obtain ⟨d, k, e1, e2, w2⟩ := wp_truthy (wp_bind w1)
  exact ⟨k, truth_ok (S1.look q1 e1) e2, w2 F1 _ H1 s1 S1 (.bl _)⟩
theorem de_if (hc : DT X W c β) (ha : DE X W a φ) (hb : DE X W b ψ) : DE X W (.IfExp c a b pos) (xIf β φ ψ) := by
  refine pe_imp (pe_ifExp hc ha hb) fun σ H Q hq => ?_
  obtain ⟨B, F, ρ, S, w⟩ := hq
  refine ⟨B, F, ρ, S, wp_mono (wp_bind w) (fun k ρ1 w1 F1 H1 s1 S1 => ?_) fun _ _ z => z⟩
  cases k with
  | true =>
    rw [if_pos rfl] at w1 ⊢
    exact ⟨B, F1, ρ1, S1, wp_mono w1 (fun k ρ2 w2 F2 v H2 s2 S2 q => w2 F2 v H2 (s1.trans s2) S2 q) fun _ _ z => z.up s1⟩
  | false =>
    rw [if_neg (by simp)] at w1 ⊢
    exact ⟨B, F1, ρ1, S1, wp_mono w1 (fun k ρ2 w2 F2 v H2 s2 S2 q => w2 F2 v H2 (s1.trans s2) S2 q) fun _ _ z => z.up s1⟩
end

/-! ### a < b < c -/
def xChain (g g' : D → D → Option D) (φ ψ χ : Den Rv) : Den Rv := fun ρ => (φ ρ).bind fun a ρ1 => (ψ ρ1).bind fun b ρ2 => (appl2 g a b ρ2).bind fun z ρ3 => (bit z ρ3).bind fun k ρ4 =>
  if k = true then (χ ρ4).bind fun c ρ5 => appl2 g' b c ρ5 else .ok (.dat (.bool false)) ρ4
section
variable {X : Cx} {W : WX} {a b c e : Expr} {pos : Pos} {φ ψ χ : Den Rv}
theorem tchain_sound {r r' : R2} {g g' : D → D → Option D} (hs : S2 X.K r g) (hs' : S2 X.K r' g') {σ : St} {H : Hp} {Q : VK} (h : tDE X.K W (xChain g g' φ ψ χ) σ H Q) : tChain r r' (tDE X.K W φ) (tDE X.K W ψ) (tDE X.K W χ) σ H Q := by
  obtain ⟨B, F, ρ, S, w⟩ := h
  refine ⟨B, F, ρ, S, wp_mono (wp_bind w) (fun a ρ1 w1 F1 x H1 s1 S1 q1 => ?_) fun _ _ z => z⟩
  refine ⟨B, F1, ρ1, S1, wp_mono (wp_bind w1) (fun b ρ2 w2 F2 y H2 s2 S2 q2 => ?_) fun _ _ z => z.up s1⟩
  obtain ⟨da, db, dz, e1, e2, e3, w3⟩ := wp_appl2 (wp_bind w2)
  obtain ⟨k, e4, w4⟩ := wp_bit (wp_bind w3)
  have e4' : dz = .bool k := Option.some.inj e4
  subst e4'
  refine hs B F2 ρ2 σ H2 x y a b da db _ _ S2 (q1.up s2) q2 e1 e2 e3 fun F3 v H3 s3 S3 r3 => ?_
  cases r3
  refine ⟨k, rfl, ?_⟩
  cases k with
  | true =>
    rw [if_pos rfl] at w4 ⊢
    refine ⟨B, F3, ρ2, S3, wp_mono (wp_bind w4) (fun c ρ5 w5 F5 z H5 s5 S5 q5 => ?_) fun _ _ z => z.up ((s1.trans s2).trans s3)⟩
    obtain ⟨db', dc, dz, e5, e6, e7, w6⟩ := wp_appl2 w5
    exact hs' B F5 ρ5 σ H5 y z b c db' dc dz Q S5 (q2.up (s3.trans s5)) q5 e5 e6 e7 fun F6 v H6 s6 S6 r6 => w6 F6 v H6 ((((s1.trans s2).trans s3).trans s5).trans s6) S6 r6
  | false =>
    rw [if_neg (by simp)] at w4 ⊢
    exact w4 F3 _ H3 ((s1.trans s2).trans s3) S3 (.bl false)
theorem de_chain {op op' : CmpOp} {r r' : R2} {g g' : D → D → Option D} (ho : OpR X (compareOp op) r) (ho' : OpR X (compareOp op') r') (hs : S2 X.K r g) (hs' : S2 X.K r' g') (ha : DE X W a φ) (hb : DE X W b ψ) (hc : DE X W c χ)
    (hm : lastMarks [op, op'] [b, c] = false := by with_unfolding_all rfl) : DE X W (.Compare a [op, op'] [b, c] pos) (xChain g g' φ ψ χ) :=
  pe_imp (pe_chain ho ho' ha hb hc hm) fun _ _ _ h => tchain_sound hs hs' h
theorem dt_chain {op op' : CmpOp} {r r' : R2} {g g' : D → D → Option D} (ho : OpR X (compareOp op) r) (ho' : OpR X (compareOp op') r') (hs : S2 X.K r g) (hs' : S2 X.K r' g') (ha : DE X W a φ) (hb : DE X W b ψ) (hc : DE X W c χ)
    (hm : lastMarks [op, op'] [b, c] = false := by with_unfolding_all rfl) : DT X W (.Compare a [op, op'] [b, c] pos) (xTest (xChain g g' φ ψ χ)) :=
  pt_imp (pt_chain ho ho' ha hb hc hm) fun _ _ _ h => ttest_sound (fun _ h => tchain_sound hs hs' h) h
end

/-! ### arguments, displays -/
def xNil : Den (List Rv) := fun ρ => .ok [] ρ
def xCons (φ : Den Rv) (ψ : Den (List Rv)) : Den (List Rv) := fun ρ => (φ ρ).bind fun a ρ1 => (ψ ρ1).bind fun as ρ2 => .ok (a :: as) ρ2
def dats : List Rv → Option (List D)
  | [] => some []
  | .dat d :: rs => (dats rs).map (d :: ·)
  | .slot _ :: _ => none
@[simp] theorem dats_nil : dats [] = some [] := (rfl)
@[simp] theorem dats_cons (d : D) (rs : List Rv) : dats (.dat d :: rs) = (dats rs).map (d :: ·) := (rfl)
theorem dats_ok {K : PySem.W.Frag} {F : Hp} {σ : St} : ∀ {rs : List Rv} {vs : List V} {ds : List D}, dats rs = some ds → RvsOk K F σ rs vs → DrAll K F vs ds
  | [], _, _, e, .nil => by cases e; exact .nil
  | .dat d :: rs, _, ds, e, .cons a t => by
    cases e2 : dats rs with
    | none => simp [e2] at e
    | some ds' =>
      simp only [dats_cons, e2, Option.map_some, Option.some.injEq] at e
      subst e
      exact .cons a (dats_ok e2 t)
  | .slot i :: rs, _, _, e, .cons _ _ => by cases e
def mkTup (ds : List D) : Option D := if ds.length ≤ sizeLine then some (.tuple ds) else none
def mkLst (ds : List D) : Option D := if ds.length ≤ sizeLine then some (.list ds) else none
def xTup (φ : Den (List Rv)) : Den Rv := fun ρ => (φ ρ).bind fun rs ρ1 => (ofO ((dats rs).bind mkTup) ρ1).bind fun d ρ2 => .ok (.dat d) ρ2
/-- a list display: a new list -/
def xLst (φ : Den (List Rv)) : Den D := fun ρ => (φ ρ).bind fun rs ρ1 => ofO ((dats rs).bind mkLst) ρ1
/-- a new thing as data -/
def xNew (φ : Den D) : Den Rv := fun ρ => (φ ρ).bind fun d ρ1 => .ok (.dat d) ρ1
section
variable {X : Cx} {W : WX} {e : Expr} {es : List Expr} {pos : Pos} {φ : Den Rv} {ψ : Den (List Rv)}
theorem da_nil : DA X W [] xNil := by
  refine pa_imp pa_nil fun σ H Q hq => ?_
  obtain ⟨B, F, ρ, S, w⟩ := hq
  exact w F [] H (Same.refl F) S .nil
theorem da_cons (ha : DE X W e φ) (hr : DA X W es ψ) (hs : starEach (e :: es) X.env = (false, eval e X.env) :: starEach es X.env := by rfl) : DA X W (e :: es) (xCons φ ψ) := by
  refine pa_imp (pa_cons ha hr hs) fun σ H Q hq => ?_
  obtain ⟨B, F, ρ, S, w⟩ := hq
  refine ⟨B, F, ρ, S, wp_mono (wp_bind w) (fun a ρ1 w1 F1 x H1 s1 S1 q1 => ?_) fun _ _ z => z⟩
  refine ⟨B, F1, ρ1, S1, wp_mono (wp_bind w1) (fun b ρ2 w2 F2 y H2 s2 S2 q2 => ?_) fun _ _ z => z.up s1⟩
  exact w2 F2 (x :: y) H2 (s1.trans s2) S2 (.cons (q1.up s2) q2)
theorem de_tup {k} (h : DA X W es ψ) : DE X W (.Tuple es k pos) (xTup ψ) := by
  refine pe_imp (pe_tup h) fun σ H Q hq => ?_
  obtain ⟨B, F, ρ, S, w⟩ := hq
  refine ⟨B, F, ρ, S, wp_mono (wp_bind w) (fun rs ρ1 w1 F1 vs H1 s1 S1 q1 => ?_) fun _ _ z => z⟩
  obtain ⟨d, e1, w2⟩ := wp_ofO (wp_bind w1)
  obtain ⟨ds, e2, e3⟩ := Option.bind_eq_some_iff.mp e1
  obtain ⟨hz, e4⟩ := if_some e3
  have r := dats_ok e2 q1
  exact ⟨by rw [r.length]; exact hz, fun p n => S1.newTup n r e4.symm fun F2 v H2 s2 S2 q2 => w2 F2 v H2 (s1.trans s2) S2 q2⟩
theorem dn_lst (h : DA X W es ψ) : DN X W (.List es pos) (xLst ψ) := by
  refine pe_imp (pe_lst h) fun σ H Q hq => ?_
  obtain ⟨B, F, ρ, S, w⟩ := hq
  refine ⟨B, F, ρ, S, wp_mono (wp_bind w) (fun rs ρ1 w1 F1 vs H1 s1 S1 q1 => ?_) fun _ _ z => z⟩
  obtain ⟨d, e1, w2⟩ := wp_ofO w1
  obtain ⟨ds, e2, e3⟩ := Option.bind_eq_some_iff.mp e1
  obtain ⟨hz, e4⟩ := if_some e3
  have r := dats_ok e2 q1
  subst e4
  refine ⟨by rw [r.length]; exact hz, fun p n => ?_⟩
  obtain ⟨g0, f0, h0⟩ := S1.free n
  exact w2 F1 p _ s1 (S1.fresh n) ⟨⟨_, upd_same, r⟩, f0, g0, h0, S1.noslot n⟩
theorem de_new {φ : Den D} (h : DN X W e φ) : DE X W e (xNew φ) := by
  refine pe_imp h fun σ H Q hq => ?_
  obtain ⟨B, F, ρ, S, w⟩ := hq
  refine ⟨B, F, ρ, S, wp_mono (wp_bind w) (fun d ρ1 w1 F1 p H1 s1 S1 q1 => ?_) fun _ _ z => z⟩
  obtain ⟨c, h1, h2⟩ := q1.ct
  have so : Same F1 (upd F1 p c) := same_upd q1.f0
  exact w1 (upd F1 p c) (.ref p) H1 (s1.trans so) (S1.frozen h1 q1.f0 q1.h0 q1.ns) (h2.dr so upd_same)
end

/-! ### a call of what takes values -/
def S1 (K : PySem.W.Frag) (r : List V → Hp → VK → Prop) (g : Env → List Rv → Option D) : Prop :=
  ∀ (B : Base) (F : Hp) (ρ : Env) (σ : St) (H : Hp) (vs : List V) (rs : List Rv) (dz : D) (Q : VK), Sim K B F ρ σ H → RvsOk K F σ rs vs → g ρ rs = some dz →
    (∀ F' v H', Same F F' → Sim K B F' ρ σ H' → Dr K F' v dz → Q v H') → r vs H Q
def lk (g : List D → Option D) (ρ : Env) (rs : List Rv) : Option D := (looks ρ rs).bind g
def xCall (g : Env → List Rv → Option D) (φ : Den (List Rv)) : Den Rv := fun ρ => (φ ρ).bind fun rs ρ1 => (ofO (g ρ1 rs) ρ1).bind fun d ρ2 => .ok (.dat d) ρ2
section
variable {X : Cx} {W : WX} {K : PySem.W.Frag} {e : Expr} {es : List Expr} {p pos : Pos} {φ : Den Rv} {ψ : Den (List Rv)}
theorem tcb_sound {r : List V → Hp → VK → Prop} {g : Env → List Rv → Option D} (hs : S1 X.K r g) {σ : St} {H : Hp} {Q : VK} (h : tDE X.K W (xCall g ψ) σ H Q) : tCB r (tDA X.K W ψ) σ H Q := by
  obtain ⟨B, F, ρ, S, w⟩ := h
  refine ⟨B, F, ρ, S, wp_mono (wp_bind w) (fun rs ρ1 w1 F1 vs H1 s1 S1 q1 => ?_) fun _ _ z => z⟩
  obtain ⟨d, e1, w2⟩ := wp_ofO (wp_bind w1)
  exact hs B F1 ρ1 σ H1 vs rs d Q S1 q1 e1 fun F2 v H2 s2 S2 q2 => w2 F2 v H2 (s1.trans s2) S2 q2
theorem de_callB {id : String} {x : Str} {r : List V → Hp → VK → Prop} {g : Env → List Rv → Option D} (hc : CallR X (.builtin id) r) (hs : S1 X.K r g) (hg : Gl X x) (hm : X.mg x = none) (hv : bootBuiltins x = some (.builtin id)) (ha : DA X W (e :: es) ψ) (hn : x ≠ "__name__" := by decide) (hdb : (x == ("__debug__" : Str)) = false := by decide)
    (he : starEach (e :: es) X.env = (false, eval e X.env) :: starEach es X.env := by rfl) (hpl : (backTo pos (starEach es X.env)).any (·.1) = false := by rfl) : DE X W (.Call (.Name x p) (e :: es) [] pos) (xCall g ψ) :=
  pe_imp (pe_callB hc hg hm hv ha hn hdb he hpl) fun _ _ _ h => tcb_sound hs h
theorem de_callTy {T : String} {x : Str} {r : List V → Hp → VK → Prop} {g : Env → List Rv → Option D} (hc : CallR X (.type T) r) (hs : S1 X.K r g) (hg : Gl X x) (hm : X.mg x = none) (hv : bootBuiltins x = some (.type T)) (ha : DA X W (e :: es) ψ) (hn : x ≠ "__name__" := by decide) (hdb : (x == ("__debug__" : Str)) = false := by decide)
    (he : starEach (e :: es) X.env = (false, eval e X.env) :: starEach es X.env := by rfl) (hpl : (backTo pos (starEach es X.env)).any (·.1) = false := by rfl) : DE X W (.Call (.Name x p) (e :: es) [] pos) (xCall g ψ) :=
  pe_imp (pe_callTy hc hg hm hv ha hn hdb he hpl) fun _ _ _ h => tcb_sound hs h

theorem lk_one {g : List D → Option D} {ρ : Env} {rs : List Rv} {dz : D} (h : lk g ρ rs = some dz) : ∃ ds, looks ρ rs = some ds ∧ g ds = some dz := Option.bind_eq_some_iff.mp h
/-- one argument -/
theorem s1_one {r : List V → Hp → VK → Prop} {g : List D → Option D}
    (h : ∀ (B : Base) (F : Hp) (ρ : Env) (σ : St) (H : Hp) (v : V) (a : Rv) (d dz : D) (Q : VK), Sim K B F ρ σ H → RvOk K F σ a v → look ρ a = some d → g [d] = some dz → (∀ F' v H', Same F F' → Sim K B F' ρ σ H' → Dr K F' v dz → Q v H') → r [v] H Q)
    (h1 : ∀ ds dz, g ds = some dz → ∃ d, ds = [d]) : S1 K r (lk g) := by
  intro B F ρ σ H vs rs dz Q S q e k
  obtain ⟨ds, e1, e2⟩ := lk_one e
  obtain ⟨d, rfl⟩ := h1 _ _ e2
  cases rs with
  | nil => cases e1
  | cons a rs =>
    obtain ⟨d', ds', e3, e4, e5⟩ := looks_cons e1
    cases e3
    cases rs with
    | cons b rs =>
      obtain ⟨_, _, e6, _⟩ := looks_cons e5
      cases e6
    | nil =>
      cases q with
      | cons q1 t =>
        cases t
        exact h B F ρ σ H _ a d dz Q S q1 e4 e2 k
/-- len -/
def gLen : List D → Option D
  | [.str x] => if x.length ≤ sizeLine then some (.int x.length) else none
  | [.list xs] => some (.int xs.length)
  | [.tuple xs] => some (.int xs.length)
  | _ => none
theorem s1_len : S1 K (fun xs H Q => ∃ x n, xs = [x] ∧ LenV K x H n ∧ Q (.int n) H) (lk gLen) := by
  refine s1_one (fun B F ρ σ H v a d dz Q S q e e2 k => ?_) (fun ds dz e => ?_)
  · have r := S.look q e
    cases r <;> simp only [gLen, reduceCtorEq, Option.some.injEq] at e2
    · obtain ⟨hz, e2⟩ := if_some e2
      subst e2
      exact ⟨_, _, rfl, ⟨hz, rfl⟩, k F _ H (Same.refl F) S (.int _)⟩
    · rename_i a t
      subst e2
      exact ⟨_, _, rfl, .inl ⟨_, a, rfl⟩, k F _ H (Same.refl F) S (by rw [t.length]; exact .int _)⟩
    · rename_i a t
      subst e2
      exact ⟨_, _, rfl, .inr ⟨_, a, rfl⟩, k F _ H (Same.refl F) S (by rw [t.length]; exact .int _)⟩
  · unfold gLen at e
    split at e <;> first | exact ⟨_, rfl⟩ | cases e
/-- abs, int, str, ord, chr, bool -/
def gAbs : List D → Option D
  | [.int i] => some (.int (if i < 0 then -i else i))
  | _ => none
theorem s1_abs : S1 K (fun xs H Q => ∃ i, xs = [.int i] ∧ Q (.int (if i < 0 then -i else i)) H) (lk gAbs) := by
  refine s1_one (fun B F ρ σ H v a d dz Q S q e e2 k => ?_) (fun ds dz e => ?_)
  · have r := S.look q e
    cases r <;> simp only [gAbs, reduceCtorEq, Option.some.injEq] at e2
    subst e2
    exact ⟨_, rfl, k F _ H (Same.refl F) S (.int _)⟩
  · unfold gAbs at e
    split at e <;> first | exact ⟨_, rfl⟩ | cases e
def gInt : List D → Option D
  | [.int i] => some (.int i)
  | [.bool b] => some (.int (if b then 1 else 0))
  | [.str x] => if x.length ≤ 640 then (intText? x).map .int else none
  | _ => none
def rInt : List V → Hp → VK → Prop := fun xs H Q => ((∃ i, xs = [.int i] ∧ Q (.int i) H) ∨ ∃ k, xs = [.bl k] ∧ Q (.int (if k then 1 else 0)) H) ∨ (∃ a n, xs = [.str a] ∧ intText? a = some n ∧ a.length ≤ 640 ∧ Q (.int n) H)
theorem callR_or {f : Value} {r r' : List V → Hp → VK → Prop} (h : CallR X f r) (h' : CallR X f r') : CallR X f (fun xs H Q => r xs H Q ∨ r' xs H Q) := fun pins s σ H xs us Q I q z => z.elim (h pins s σ H xs us Q I q) (h' pins s σ H xs us Q I q)
theorem call_intA : CallR X (.type "int") rInt := callR_or call_int1 call_int_str
theorem s1_int : S1 K rInt (lk gInt) := by
  refine s1_one (fun B F ρ σ H v a d dz Q S q e e2 k => ?_) (fun ds dz e => ?_)
  · have r := S.look q e
    cases r <;> simp only [gInt, reduceCtorEq, Option.some.injEq] at e2
    · subst e2
      exact .inl (.inr ⟨_, rfl, k F _ H (Same.refl F) S (.int _)⟩)
    · subst e2
      exact .inl (.inl ⟨_, rfl, k F _ H (Same.refl F) S (.int _)⟩)
    · rename_i x
      by_cases hz : x.length ≤ 640
      · rw [if_pos hz] at e2
        cases e3 : intText? x with
        | none => rw [e3] at e2; cases e2
        | some n =>
          rw [e3] at e2
          cases e2
          exact .inr ⟨_, n, rfl, e3, hz, k F _ H (Same.refl F) S (.int _)⟩
      · rw [if_neg hz] at e2; cases e2
  · unfold gInt at e
    split at e <;> first | exact ⟨_, rfl⟩ | cases e
def gStr : List D → Option D
  | [.int i] => if i.natAbs.log2 < 1920 then some (.str (toString i)) else none
  | _ => none
theorem s1_str : S1 K (fun xs H Q => ∃ i, xs = [.int i] ∧ i.natAbs.log2 < 1920 ∧ Q (.str (toString i)) H) (lk gStr) := by
  refine s1_one (fun B F ρ σ H v a d dz Q S q e e2 k => ?_) (fun ds dz e => ?_)
  · have r := S.look q e
    cases r <;> simp only [gStr, reduceCtorEq] at e2
    obtain ⟨hz, e2⟩ := if_some e2
    subst e2
    exact ⟨_, rfl, hz, k F _ H (Same.refl F) S (.str _)⟩
  · unfold gStr at e
    split at e <;> first | exact ⟨_, rfl⟩ | cases e
def gOrd : List D → Option D
  | [.str x] => if x.length = 1 then some (.int (x.cps.getD 0 0 : Nat)) else none
  | _ => none
theorem s1_ord : S1 K (fun xs H Q => ∃ x, xs = [.str x] ∧ x.length = 1 ∧ Q (.int (x.cps.getD 0 0 : Nat)) H) (lk gOrd) := by
  refine s1_one (fun B F ρ σ H v a d dz Q S q e e2 k => ?_) (fun ds dz e => ?_)
  · have r := S.look q e
    cases r <;> simp only [gOrd, reduceCtorEq] at e2
    obtain ⟨hz, e2⟩ := if_some e2
    subst e2
    exact ⟨_, rfl, hz, k F _ H (Same.refl F) S (.int _)⟩
  · unfold gOrd at e
    split at e <;> first | exact ⟨_, rfl⟩ | cases e
def gChr : List D → Option D
  | [.int i] => if 0 ≤ i ∧ i ≤ 1114111 then some (.str ⟨#[i.toNat]⟩) else none
  | _ => none
theorem s1_chr : S1 K (fun xs H Q => ∃ i, xs = [.int i] ∧ 0 ≤ i ∧ i ≤ 1114111 ∧ Q (.str ⟨#[i.toNat]⟩) H) (lk gChr) := by
  refine s1_one (fun B F ρ σ H v a d dz Q S q e e2 k => ?_) (fun ds dz e => ?_)
  · have r := S.look q e
    cases r <;> simp only [gChr, reduceCtorEq] at e2
    obtain ⟨hz, e2⟩ := if_some e2
    subst e2
    exact ⟨_, rfl, hz.1, hz.2, k F _ H (Same.refl F) S (.str _)⟩
  · unfold gChr at e
    split at e <;> first | exact ⟨_, rfl⟩ | cases e
end

/-! ### subscripts -/
def gIx : D → D → Option D
  | .list xs, .int i => atI xs i
  | .tuple xs, .int i => atI xs i
  | .str z, .int i => if z.length ≤ sizeLine then (atI z.cps.toList i).map fun c => .str ⟨#[c]⟩ else none
  | _, _ => none
section
variable {X : Cx} {W : WX} {K : PySem.W.Frag} {a b e : Expr} {pos : Pos} {φ ψ : Den Rv}
theorem DrAll.atI {F : Hp} {vs : List V} {ds : List D} {i : Int} {d : D} (r : DrAll K F vs ds) (e : L2.atI ds i = some d) : ∃ v, L2.atI vs i = some v ∧ Dr K F v d := by
  unfold L2.atI at e ⊢
  rw [r.length]
  obtain ⟨j, h1, h2⟩ := Option.bind_eq_some_iff.mp e
  obtain ⟨v, h3, h4⟩ := r.get h2
  exact ⟨v, by rw [h1]; exact h3, h4⟩
theorem s2_ix : S2 K (rIx K) gIx := by
  intro B F ρ σ H x y a b da db dz Q S ra rb ea eb e q
  cases da <;> cases db <;> simp only [gIx, reduceCtorEq] at e
  · obtain ⟨hz, e⟩ : _ ∧ _ := by
      rename_i z i
      by_cases h : z.length ≤ sizeLine
      · rw [if_pos h] at e; exact ⟨h, e⟩
      · rw [if_neg h] at e; cases e
    obtain ⟨c, h1, h2⟩ := Option.map_eq_some_iff.mp e
    subst h2
    exact .inr (.inr ⟨_, _, c, S.str ra ea, S.int rb eb, hz, h1, q F _ H (Same.refl F) S (.str _)⟩)
  · obtain ⟨p, vs, rfl, h1, h2⟩ := S.items ra ea
    obtain ⟨v, h3, h4⟩ := h2.atI e
    exact .inl ⟨p, vs, _, v, rfl, S.int rb eb, h1, h3, q F _ H (Same.refl F) S h4⟩
  · obtain ⟨p, vs, rfl, h1, h2⟩ := S.tuple ra ea
    obtain ⟨v, h3, h4⟩ := h2.atI e
    exact .inr (.inl ⟨p, vs, _, v, rfl, S.int rb eb, sqT_mono S.f h1, h3, q F _ H (Same.refl F) S h4⟩)
theorem ix_any : IxR X (rIx X.K) := IxR.or ix_list (IxR.or ix_tup ix_str)
theorem de_ix (ha : DE X W a φ) (hb : DE X W b ψ) (hs : PlainIx b := by exact fun _ _ => rfl) : DE X W (.Subscript a b pos) (xOp gIx φ ψ) :=
  pe_imp (pe_ix ix_any ha hb hs) fun _ _ _ h => top_sound s2_ix h

/-- a part of a slice -/
def xNoPart : Den (Option Int) := fun ρ => .ok none ρ
def xPart (φ : Den Rv) : Den (Option Int) := fun ρ => (φ ρ).bind fun r ρ1 => match look ρ1 r with
  | some (.int i) => .ok (some i) ρ1
  | _ => .bad
def tDO (K : PySem.W.Frag) (W : WX) (φ : Den (Option Int)) : TO := fun σ H Q => ∃ B F ρ, Sim K B F ρ σ H ∧
  Wp (φ ρ) (fun o ρ' => ∀ F' H', Same F F' → Sim K B F' ρ' σ H' → Q o H') (XQ K W B F σ)
def DO (X : Cx) (W : WX) (e : Option Expr) (φ : Den (Option Int)) : Prop := PO X e (tDO X.K W φ)
theorem do_none : DO X W none xNoPart := by
  refine ⟨fun pins s σ H Q I hq => po_none.run pins s σ H Q I ?_⟩
  obtain ⟨B, F, ρ, S, w⟩ := hq
  exact w F H (Same.refl F) S
theorem do_some (h : DE X W e φ) : DO X W (some e) (xPart φ) := by
  refine ⟨fun pins s σ H Q I hq => (po_some h).run pins s σ H Q I ?_⟩
  obtain ⟨B, F, ρ, S, w⟩ := hq
  refine ⟨B, F, ρ, S, wp_mono (wp_bind w) (fun r ρ1 w1 F1 v H1 s1 S1 q1 => ?_) fun _ _ z => z⟩
  cases e1 : look ρ1 r with
  | none => rw [e1] at w1; exact w1.elim
  | some d =>
    rw [e1] at w1
    cases d <;> first | exact w1.elim | skip
    exact ⟨_, S1.int q1 e1, w1 F1 H1 s1 S1⟩
def cutD (xs : List D) (lo hi : Option Int) : List D := (xs.drop (HT.sIx xs.length 0 lo)).take (HT.sIx xs.length xs.length hi - HT.sIx xs.length 0 lo)
theorem DrAll.cut {F : Hp} {vs : List V} {ds : List D} {lo hi : Option Int} (r : DrAll K F vs ds) : DrAll K F (cutV vs lo hi) (cutD ds lo hi) := by
  unfold cutV cutD
  rw [r.length]
  exact (r.drop _).take _
def gSl (d : D) (lo hi : Option Int) : Option D := match d with
  | .str z => if z.length ≤ sizeLine then some (.str (cutS z lo hi)) else none
  | .list xs => some (.list (cutD xs lo hi))
  | .tuple xs => some (.tuple (cutD xs lo hi))
  | _ => none
def rSlAny (K : PySem.W.Frag) : V → Option Int → Option Int → Hp → VK → Prop := fun x lo hi H Q => (rSlL K x lo hi H Q ∨ rSlS x lo hi H Q) ∨ rSlA K x lo hi H Q
theorem sl_any : SlR X (rSlAny X.K) := SlR.or (SlR.or sl_list sl_str) sl_tupA
def xSl (φ : Den Rv) (lo hi : Den (Option Int)) : Den Rv := fun ρ => (φ ρ).bind fun r ρ1 => (lo ρ1).bind fun l ρ2 => (hi ρ2).bind fun u ρ3 => match look ρ3 r with
  | some d => (ofO (gSl d l u) ρ3).bind fun d ρ4 => .ok (.dat d) ρ4
  | none => .bad
theorem de_sl {lo hi : Option Expr} {p2 : Pos} {l u : Den (Option Int)} (he : DE X W e φ) (hl : DO X W lo l) (hu : DO X W hi u) : DE X W (.Subscript e (.Slice lo hi none p2) pos) (xSl φ l u) := by
  refine pe_imp (pe_slice sl_any he hl hu) fun σ H Q hq => ?_
  obtain ⟨B, F, ρ, S, w⟩ := hq
  refine ⟨B, F, ρ, S, wp_mono (wp_bind w) (fun r ρ1 w1 F1 v H1 s1 S1 q1 => ?_) fun _ _ z => z⟩
  refine ⟨B, F1, ρ1, S1, wp_mono (wp_bind w1) (fun l ρ2 w2 F2 H2 s2 S2 => ?_) fun _ _ z => z.up s1⟩
  refine ⟨B, F2, ρ2, S2, wp_mono (wp_bind w2) (fun u ρ3 w3 F3 H3 s3 S3 => ?_) fun _ _ z => z.up (s1.trans s2)⟩
  cases e1 : look ρ3 r with
  | none => rw [e1] at w3; exact w3.elim
  | some d =>
    rw [e1] at w3
    obtain ⟨dz, e2, w4⟩ := wp_ofO (wp_bind w3)
    have q3 := q1.up (s2.trans s3)
    have s13 := (s1.trans s2).trans s3
    cases d <;> simp only [gSl, reduceCtorEq] at e2
    · obtain ⟨hz, e2⟩ := if_some e2
      subst e2
      exact .inl (.inr ⟨_, S3.str q3 e1, hz, w4 F3 _ H3 s13 S3 (.str _)⟩)
    · cases e2
      obtain ⟨p, vs, rfl, h1, h2⟩ := S3.items q3 e1
      exact .inl (.inl ⟨p, vs, rfl, h1, fun p' n => S3.newLst n h2.cut rfl fun F5 v H5 s5 S5 q5 => w4 F5 v H5 (s13.trans s5) S5 q5⟩)
    · cases e2
      obtain ⟨p, vs, rfl, h1, h2⟩ := S3.tuple q3 e1
      refine .inr ⟨p, vs, rfl, sqT_mono S3.f h1, fun hw => ?_, fun _ p' n => S3.newTup n h2.cut rfl fun F5 v H5 s5 S5 q5 => w4 F5 v H5 (s13.trans s5) S5 q5⟩
      refine w4 F3 _ H3 s13 S3 ?_
      have hc : cutV vs l u = vs := by
        unfold cutV
        rw [hw.1, hw.2, List.drop_zero, Nat.sub_zero, List.take_length]
      have hd := h2.cut (lo := l) (hi := u)
      rw [hc] at hd
      exact .tup h1 hd
end
end DL


/-! D layer, 4: targets, statements, loops. -/
namespace DL
open PySem PySem.Spec L2

/-! ### storing into slots -/
/-- may the slot be stored into (it is no object of the caller's)? -/
def canSet (ρ : Env) (i : Nat) : Bool := match ρ[i]? with
  | some (some (.own false _)) => false
  | some _ => true
  | none => false
theorem canSet_lt {ρ : Env} {i : Nat} (h : canSet ρ i = true) : i < ρ.length := by
  unfold canSet at h
  cases e : ρ[i]? with
  | none => rw [e] at h; cases h
  | some c => exact (List.getElem?_eq_some_iff.mp e).1
theorem canSet_no {ρ : Env} {i : Nat} {d : D} (h : canSet ρ i = true) : ρ[i]? ≠ some (some (.own false d)) := fun e => by
  unfold canSet at h
  rw [e] at h
  cases h
section
variable {K : PySem.W.Frag} {B : Base} {F : Hp} {ρ : Env} {σ : St} {H : Hp}
theorem set_own {ρ : Env} {i j : Nat} {c : Option Cell} {o : Bool} {d : D} (hc : ∀ o d, c ≠ some (.own o d)) (hi : i < ρ.length) (h : (ρ.set i c)[j]? = some (some (.own o d))) : j ≠ i ∧ ρ[j]? = some (some (.own o d)) := by
  by_cases q : j = i
  · subst q; rw [List.getElem?_set_self hi] at h; exact absurd (Option.some.inj h) (hc o d)
  · rw [List.getElem?_set_ne (Ne.symm q)] at h; exact ⟨q, h⟩
theorem Sim.setDat (S : Sim K B F ρ σ H) {i : Nat} {v : V} {d : D} (hi : i < ρ.length) (r : Dr K F v d) : Sim K B F (ρ.set i (some (.dat d))) (σ.set i (some v)) H := by
  have hσ : i < σ.length := by rw [S.len]; exact hi
  exact {
    g := S.g, f := S.f, bf := S.bf, fr := S.fr, gr := S.gr
    len := by rw [List.length_set, List.length_set]; exact S.len
    dat := fun j d' h => by
      by_cases q : j = i
      · subst q
        rw [List.getElem?_set_self hi] at h
        cases h
        exact ⟨v, List.getElem?_set_self hσ, r⟩
      · rw [List.getElem?_set_ne (Ne.symm q)] at h ⊢
        exact S.dat j d' h
    mu := fun j o d' h => by
      obtain ⟨q, h⟩ := set_own (fun _ _ => by simp) hi h
      rw [List.getElem?_set_ne (Ne.symm q)]
      exact S.mu j o d' h
    apart := fun j k o o' d1 d2 p a b a1 b1 => by
      obtain ⟨q1, a⟩ := set_own (fun _ _ => by simp) hi a
      obtain ⟨q2, b⟩ := set_own (fun _ _ => by simp) hi b
      rw [List.getElem?_set_ne (Ne.symm q1)] at a1
      rw [List.getElem?_set_ne (Ne.symm q2)] at b1
      exact S.apart j k o o' d1 d2 p a b a1 b1 }
/-- a slot's value is forgotten -/
theorem Sim.setNone (S : Sim K B F ρ σ H) {i : Nat} {v : Option V} (hi : i < ρ.length) : Sim K B F (ρ.set i none) (σ.set i v) H := by
  exact {
    g := S.g, f := S.f, bf := S.bf, fr := S.fr, gr := S.gr
    len := by rw [List.length_set, List.length_set]; exact S.len
    dat := fun j d' h => by
      by_cases q : j = i
      · subst q
        rw [List.getElem?_set_self hi] at h
        cases h
      · rw [List.getElem?_set_ne (Ne.symm q)] at h ⊢
        exact S.dat j d' h
    mu := fun j o d' h => by
      obtain ⟨q, h⟩ := set_own (fun _ _ => by simp) hi h
      rw [List.getElem?_set_ne (Ne.symm q)]
      exact S.mu j o d' h
    apart := fun j k o o' d1 d2 p a b a1 b1 => by
      obtain ⟨q1, a⟩ := set_own (fun _ _ => by simp) hi a
      obtain ⟨q2, b⟩ := set_own (fun _ _ => by simp) hi b
      rw [List.getElem?_set_ne (Ne.symm q1)] at a1
      rw [List.getElem?_set_ne (Ne.symm q2)] at b1
      exact S.apart j k o o' d1 d2 p a b a1 b1 }
theorem Sim.setOwn (S : Sim K B F ρ σ H) {i : Nat} {p : Addr} {d : D} (hi : i < ρ.length) (n : NewAt K B F ρ σ H p d) : Sim K B F (ρ.set i (some (.own true d))) (σ.set i (some (.ref p))) H := by
  have hσ : i < σ.length := by rw [S.len]; exact hi
  have back : ∀ (j : Nat) (o : Bool) (d' : D), (ρ.set i (some (.own true d)))[j]? = some (some (.own o d')) → (j = i ∧ o = true ∧ d' = d) ∨ (j ≠ i ∧ ρ[j]? = some (some (.own o d'))) := fun j o d' h => by
    by_cases q : j = i
    · subst q
      rw [List.getElem?_set_self hi] at h
      cases h
      exact .inl ⟨rfl, rfl, rfl⟩
    · rw [List.getElem?_set_ne (Ne.symm q)] at h
      exact .inr ⟨q, h⟩
  obtain ⟨⟨c, h1, h2⟩, f0, g0, h0, ns⟩ := n
  exact {
    g := S.g, f := S.f, bf := S.bf, fr := S.fr, gr := S.gr
    len := by rw [List.length_set, List.length_set]; exact S.len
    dat := fun j d' h => by
      by_cases q : j = i
      · subst q
        rw [List.getElem?_set_self hi] at h
        cases h
      · rw [List.getElem?_set_ne (Ne.symm q)] at h ⊢
        exact S.dat j d' h
    mu := fun j o d' h => by
      rcases back j o d' h with ⟨rfl, rfl, rfl⟩ | ⟨q, h⟩
      · exact ⟨p, c, List.getElem?_set_self hσ, h1, h2, g0, f0, fun _ => h0, fun z => nomatch z⟩
      · rw [List.getElem?_set_ne (Ne.symm q)]
        exact S.mu j o d' h
    apart := fun j k o o' d1 d2 q a b a1 b1 => by
      rcases back j o d1 a with ⟨e1, _, _⟩ | ⟨n1, a⟩
      · rcases back k o' d2 b with ⟨e2, _, _⟩ | ⟨n2, b⟩
        · rw [e1, e2]
        · rw [e1, List.getElem?_set_self hσ] at a1
          rw [List.getElem?_set_ne (Ne.symm n2)] at b1
          cases a1
          exact absurd b1 (ns k o' d2 b)
      · rcases back k o' d2 b with ⟨e2, _, _⟩ | ⟨n2, b⟩
        · rw [e2, List.getElem?_set_self hσ] at b1
          rw [List.getElem?_set_ne (Ne.symm n1)] at a1
          cases b1
          exact absurd a1 (ns j o d1 a)
        · rw [List.getElem?_set_ne (Ne.symm n1)] at a1
          rw [List.getElem?_set_ne (Ne.symm n2)] at b1
          exact S.apart j k o o' d1 d2 q a b a1 b1 }
/-- a slot's own object is changed -/
theorem Sim.change (S : Sim K B F ρ σ H) {i : Nat} {o : Bool} {p : Addr} {c' : HO} {d d' : D} (e : ρ[i]? = some (some (.own o d))) (ep : σ[i]? = some (some (.ref p))) (ct : Cont K F c' d') :
    Sim K B F (ρ.set i (some (.own o d'))) σ (upd H p c') := by
  have hi : i < ρ.length := (List.getElem?_eq_some_iff.mp e).1
  obtain ⟨p', c, h1, h2, h3, h4, h5, h6⟩ := S.mu i o d e
  rw [ep] at h1; cases h1
  have back : ∀ (j : Nat) (ow : Bool) (dz : D), (ρ.set i (some (.own o d')))[j]? = some (some (.own ow dz)) → (j = i ∧ ow = o ∧ dz = d') ∨ (j ≠ i ∧ ρ[j]? = some (some (.own ow dz))) := fun j ow dz h => by
    by_cases q : j = i
    · subst q
      rw [List.getElem?_set_self hi] at h
      cases h
      exact .inl ⟨rfl, rfl, rfl⟩
    · rw [List.getElem?_set_ne (Ne.symm q)] at h
      exact .inr ⟨q, h⟩
  have any : ∀ (j : Nat) (ow : Bool) (dz : D), (ρ.set i (some (.own o d')))[j]? = some (some (.own ow dz)) → ∃ d0, ρ[j]? = some (some (.own ow d0)) := fun j ow dz h => by
    rcases back j ow dz h with ⟨rfl, rfl, _⟩ | ⟨_, h⟩
    · exact ⟨_, e⟩
    · exact ⟨_, h⟩
  exact {
    g := fun b x h => by rw [upd_ne (ne_of_none h h4)]; exact S.g b x h
    f := fun b x h => by rw [upd_ne (ne_of_none h h5)]; exact S.f b x h
    bf := S.bf
    fr := S.fr
    gr := fun b h => upd_some (S.gr b h)
    len := by rw [List.length_set]; exact S.len
    dat := fun j dz h => by
      by_cases q : j = i
      · subst q
        rw [List.getElem?_set_self hi] at h
        cases h
      · rw [List.getElem?_set_ne (Ne.symm q)] at h
        exact S.dat j dz h
    mu := fun j ow dz h => by
      rcases back j ow dz h with ⟨rfl, rfl, rfl⟩ | ⟨q, h⟩
      · exact ⟨p, c', ep, upd_same, ct, h4, h5, h6⟩
      · obtain ⟨p', c0, a1, a2, a3, a4⟩ := S.mu j ow dz h
        refine ⟨p', c0, a1, ?_, a3, a4⟩
        rw [upd_ne]
        · exact a2
        · rintro rfl
          exact q (S.apart j i ow o dz d p' h e a1 ep)
    apart := fun j k ow ow' d1 d2 q a b a1 b1 => by
      obtain ⟨e1, a⟩ := any j ow d1 a
      obtain ⟨e2, b⟩ := any k ow' d2 b
      exact S.apart j k ow ow' e1 e2 q a b a1 b1 }
end

/-! ### targets -/
abbrev DenG := D → Env → Option Env
/-- is: the slots that are stored into -/
def tDG (K : PySem.W.Frag) (is : List Nat) (γ : DenG) : TG := fun v σ H Q => ∃ B F ρ d ρ', Sim K B F ρ σ H ∧ Dr K F v d ∧ γ d ρ = some ρ' ∧
  ∀ σ', Sim K B F ρ' σ' H → (∀ vs : List Nat, (∀ i ∈ is, i ∈ vs) → wipe σ' vs = wipe σ vs) → Q σ' H
def DG (X : Cx) (e : Expr) (is : List Nat) (γ : DenG) : Prop := PG X e (tDG X.K is γ)
abbrev DenGs := List D → Env → Option Env
def tDGs (K : PySem.W.Frag) (is : List Nat) (γ : DenGs) : TGs := fun vs σ H Q => ∃ B F ρ ds ρ', Sim K B F ρ σ H ∧ DrAll K F vs ds ∧ γ ds ρ = some ρ' ∧
  ∀ σ', Sim K B F ρ' σ' H → (∀ vs : List Nat, (∀ i ∈ is, i ∈ vs) → wipe σ' vs = wipe σ vs) → Q σ' H
def DGs (X : Cx) (es : List Expr) (is : List Nat) (γ : DenGs) : Prop := PGs X es (tDGs X.K is γ)
def gSet (i : Nat) : DenG := fun d ρ => if canSet ρ i then some (ρ.set i (some (.dat d))) else none
def gsNil : DenGs := fun ds ρ => match ds with
  | [] => some ρ
  | _ => none
def gsCons (γ : DenG) (γs : DenGs) : DenGs := fun ds ρ => match ds with
  | d :: r => (γ d ρ).bind (γs r)
  | [] => none
def gTupD (n : Nat) (γs : DenGs) : DenG := fun d ρ => match d with
  | .tuple ds => if ds.length = n then γs ds ρ else none
  | _ => none
theorem wipe_set {σ : St} {i : Nat} {v : Option V} : ∀ {vs : List Nat}, i ∈ vs → wipe (σ.set i v) vs = wipe σ vs
  | [], h => by simp at h
  | j :: vs, h => by
    by_cases e : i ∈ vs
    · show (wipe (σ.set i v) vs).set j none = (wipe σ vs).set j none
      rw [wipe_set e]
    · have hj : i = j := (List.mem_cons.mp h).resolve_right e
      subst hj
      have comm : ∀ (us : List Nat), i ∉ us → wipe (σ.set i v) us = (wipe σ us).set i v := fun us => by
        induction us with
        | nil => intro _; rfl
        | cons k us ih =>
          intro hn
          have hk : i ≠ k := fun z => hn (by rw [z]; exact List.mem_cons_self)
          show (wipe (σ.set i v) us).set k none = ((wipe σ us).set k none).set i v
          rw [ih fun z => hn (List.mem_cons_of_mem _ z), List.set_comm _ _ hk]
      show (wipe (σ.set i v) vs).set i none = (wipe σ vs).set i none
      rw [comm vs e, List.set_set]
section
variable {X : Cx} {pos : Pos} {e : Expr} {es : List Expr}
theorem dg_name {i : Nat} {x : Str} (hN : X.N.Nodup) (hi : X.N[i]? = some x := by rfl) (hx : Loc X.env.scope x := by first | exact Or.inl rfl | exact Or.inr rfl) (hf : X.fn x = true ∨ X.env.scope.names.lookup x = some .local := by first | exact .inl rfl | exact .inr rfl | assumption) : DG X (.Name x pos) [i] (gSet i) := by
  refine ⟨fun pins s σ H v u Q I r hq => (pg_name hN hi hx hf).run pins s σ H v u Q I r ?_⟩
  obtain ⟨B, F, ρ, d, ρ', S, q, e, k⟩ := hq
  obtain ⟨hc, e⟩ := if_some e
  subst e
  exact k _ (S.setDat (canSet_lt hc) q) fun vs h => wipe_set (h i (by simp))
theorem dgs_nil : DGs X [] [] gsNil := by
  refine ⟨fun pins s σ H vs us Q I r hq => pgs_nil.run pins s σ H vs us Q I r ?_⟩
  obtain ⟨B, F, ρ, d, ρ', S, q, e, k⟩ := hq
  cases q with
  | nil => cases e; exact ⟨rfl, k _ S fun _ _ => rfl⟩
  | cons _ _ => cases e
theorem dgs_cons {is js : List Nat} {γ : DenG} {γs : DenGs} (h1 : DG X e is γ) (h2 : DGs X es js γs) (hs : (assignEach (e :: es) X.env).map (·.2) = assign e X.env :: (assignEach es X.env).map (·.2) := by rfl) : DGs X (e :: es) (is ++ js) (gsCons γ γs) := by
  refine ⟨fun pins s σ H vs us Q I r hq => (pgs_cons h1 h2 hs).run pins s σ H vs us Q I r ?_⟩
  obtain ⟨B, F, ρ, d, ρ', S, q, e, k⟩ := hq
  cases q with
  | nil => cases e
  | cons a t =>
    obtain ⟨ρ1, e1, e2⟩ := Option.bind_eq_some_iff.mp e
    exact ⟨_, _, rfl, B, F, ρ, _, ρ1, S, a, e1, fun σ1 S1 w1 => ⟨B, F, ρ1, _, ρ', S1, t, e2, fun σ2 S2 w2 => k σ2 S2 fun vs h =>
      (w2 vs fun i hi => h i (List.mem_append_right _ hi)).trans (w1 vs fun i hi => h i (List.mem_append_left _ hi))⟩⟩
theorem dg_tup {k : Nat} {n : Nat} {is : List Nat} {γs : DenGs} (hc : X.calm = true) (h : DGs X es is γs) (hn : (assignEach es X.env).length = n := by rfl) (hst : (assignEach es X.env).findIdx? (·.1) = none := by rfl) : DG X (.Tuple es k pos) is (gTupD n γs) := by
  refine ⟨fun pins s σ H v u Q I r hq => (pg_tup hc h hn hst).run pins s σ H v u Q I r ?_⟩
  obtain ⟨B, F, ρ, d, ρ', S, q, e, k⟩ := hq
  cases q <;> first | cases e | skip
  rename_i a xs ds t r1
  by_cases hl : ds.length = n
  · have e' : γs ds ρ = some ρ' := by
      have q : (if ds.length = n then γs ds ρ else none) = some ρ' := e
      rw [if_pos hl] at q
      exact q
    exact ⟨a, xs, rfl, sqT_mono S.f t, by rw [r1.length]; exact hl, B, F, ρ, ds, ρ', S, r1, e', k⟩
  · have q : (if ds.length = n then γs ds ρ else none) = some ρ' := e
    rw [if_neg hl] at q
    cases q
end

/-! ### statements -/
def yNext : DenS := fun ρ => .next ρ
def oBind {α : Type} (m : Ans α) (f : α → Env → Out) : Out := match m with
  | .ok a ρ => f a ρ
  | .exc x ρ => .exc x ρ
  | .bad => .bad
@[simp] theorem oBind_ok {α : Type} (a : α) (ρ : Env) (f : α → Env → Out) : oBind (.ok a ρ) f = f a ρ := (rfl)
@[simp] theorem oBind_exc {α : Type} (x : Exc) (ρ : Env) (f : α → Env → Out) : oBind (.exc x ρ : Ans α) f = .exc x ρ := (rfl)
@[simp] theorem oBind_bad {α : Type} (f : α → Env → Out) : oBind (.bad : Ans α) f = .bad := (rfl)
def Out.andThen (o : Out) (ψ : DenS) : Out := match o with
  | .next ρ => ψ ρ
  | o => o
def ySeq (a b : DenS) : DenS := fun ρ => (a ρ).andThen b
def yPass : DenS := fun ρ => .next ρ
def yBreak : DenS := fun ρ => .brk ρ
def yCont : DenS := fun ρ => .cont ρ
/-- return e, as data; a new thing; an own slot -/
def yRet (φ : Den Rv) : DenS := fun ρ => oBind (φ ρ) fun r ρ1 => oBind (frz r ρ1) fun d ρ2 => .ret (.dat d) ρ2
def yRetN : DenS := fun ρ => .ret (.dat .none) ρ
def yRetNew (φ : Den D) : DenS := fun ρ => oBind (φ ρ) fun d ρ1 => .ret (.own d) ρ1
def yRetOwn (i : Nat) : DenS := fun ρ => match ρ[i]? with
  | some (some (.own true d)) => .ret (.own d) ρ
  | _ => .bad
def yIf (c : Den Bool) (a b : DenS) : DenS := fun ρ => oBind (c ρ) fun k ρ1 => if k = true then a ρ1 else b ρ1
def ySet (γ : DenG) (φ : Den Rv) : DenS := fun ρ => oBind (φ ρ) fun r ρ1 => oBind (frz r ρ1) fun d ρ2 => match γ d ρ2 with
  | some ρ3 => .next ρ3
  | none => .bad
def ySetNew (i : Nat) (φ : Den D) : DenS := fun ρ => oBind (φ ρ) fun d ρ1 => if canSet ρ1 i then .next (ρ1.set i (some (.own true d))) else .bad
def yExpr (φ : Den Rv) : DenS := fun ρ => oBind (φ ρ) fun _ ρ1 => .next ρ1

section
variable {K : PySem.W.Frag} {W : WX} {B : Base} {F : Hp} {Dd : Ends} {σ : St}
theorem spost_bind {α : Type} {m : Ans α} {f : α → Env → Out} (h : SPost K W B F Dd (oBind m f)) : Wp m (fun a ρ => SPost K W B F Dd (f a ρ)) (XQ K W B F σ) := by
  cases m with
  | ok a ρ => exact h
  | exc x ρ => exact fun F' H' cls d s S e => h F' σ H' cls d s S e
  | bad => exact h
theorem spost_frz {r : Rv} {ρ : Env} {f : D → Env → Out} (h : SPost K W B F Dd (oBind (frz r ρ) f)) : ∃ d ρ', frz r ρ = .ok d ρ' ∧ SPost K W B F Dd (f d ρ') := by
  cases e : frz r ρ with
  | ok d ρ' => rw [e] at h; exact ⟨d, ρ', rfl, h⟩
  | exc x ρ' => exact absurd e frz_exc
  | bad => rw [e] at h; exact h.elim
end
section
variable {X : Cx} {W : WX} {st : Stmt} {rest : List Stmt} {e : Expr} {pos : Pos} {φ : Den Rv} {β : Den Bool} {ψ χ : DenS}
theorem dss_nil : DSs X W [] yNext := by
  refine pss_imp pss_nil fun D σ H hq => ?_
  obtain ⟨B, F, ρ, S, w⟩ := hq
  exact w F σ H (Same.refl F) S
theorem dss_cons (h1 : DS X W st ψ) (h2 : DSs X W rest χ) : DSs X W (st :: rest) (ySeq ψ χ) := by
  refine pss_imp (pss_cons h1 h2) fun D σ H hq => ?_
  obtain ⟨B, F, ρ, S, w⟩ := hq
  refine ⟨B, F, ρ, S, ?_⟩
  unfold ySeq Out.andThen at w
  cases e : ψ ρ with
  | next ρ1 =>
    rw [e] at w
    exact fun F1 σ1 H1 s1 S1 => ⟨B, F1, ρ1, S1, SPost.up w s1⟩
  | ret r ρ1 => rw [e] at w; exact w
  | brk ρ1 => rw [e] at w; exact w
  | cont ρ1 => rw [e] at w; exact w
  | exc x ρ1 => rw [e] at w; exact w
  | bad => rw [e] at w; exact w.elim
theorem dss_one (h : DS X W st ψ) : DSs X W [st] ψ := pss_one h
theorem ds_pass : DS X W (.Pass pos) yPass := by
  refine ps_imp ps_pass fun D σ H hq => ?_
  obtain ⟨B, F, ρ, S, w⟩ := hq
  exact w F σ H (Same.refl F) S
theorem ds_break : DS X W (.Break pos) yBreak := by
  refine ps_imp ps_break fun D σ H hq => ?_
  obtain ⟨B, F, ρ, S, w⟩ := hq
  exact w F σ H (Same.refl F) S
theorem ds_continue : DS X W (.Continue pos) yCont := by
  refine ps_imp ps_continue fun D σ H hq => ?_
  obtain ⟨B, F, ρ, S, w⟩ := hq
  exact w F σ H (Same.refl F) S
theorem ds_retN : DS X W (.Return none pos) yRetN := by
  refine ps_imp ps_retN fun D σ H hq => ?_
  obtain ⟨B, F, ρ, S, w⟩ := hq
  exact w F σ .non H (Same.refl F) S .non
theorem ds_ret (h : DE X W e φ) : DS X W (.Return (some e) pos) (yRet φ) := by
  refine ps_imp (ps_ret h) fun D σ H hq => ?_
  obtain ⟨B, F, ρ, S, w⟩ := hq
  refine ⟨B, F, ρ, S, wp_mono (spost_bind w) (fun r ρ1 w1 F1 v H1 s1 S1 q1 => ?_) fun _ _ z => z⟩
  obtain ⟨d, ρ2, e2, w2⟩ := spost_frz w1
  obtain ⟨F2, s2, r2, S2⟩ := S1.frz q1 e2
  exact w2 F2 σ v H1 (s1.trans s2) S2 r2
theorem ds_retNew {φ : Den D} (h : DN X W e φ) : DS X W (.Return (some e) pos) (yRetNew φ) := by
  refine ps_imp (ps_ret h) fun D σ H hq => ?_
  obtain ⟨B, F, ρ, S, w⟩ := hq
  refine ⟨B, F, ρ, S, wp_mono (spost_bind w) (fun d ρ1 w1 F1 p H1 s1 S1 q1 => ?_) fun _ _ z => z⟩
  obtain ⟨c, h1, h2⟩ := q1.ct
  exact w1 F1 σ (.ref p) H1 s1 S1 ⟨p, c, rfl, h1, h2, q1.f0, q1.g0, q1.h0⟩
theorem ds_retOwn {i : Nat} {x : Str} {p : Pos} (hN : X.N[i]? = some x := by rfl) (hv : Vis X.env.scope x := by first | exact Or.inl rfl | exact Or.inr (Or.inl rfl) | exact Or.inr (Or.inr rfl)) (hd : (x == ("__debug__" : Str)) = false := by decide)
    (hcd : (x == ("__classdict__" : Str)) = false := by decide) : DS X W (.Return (some (.Name x p)) pos) (yRetOwn i) := by
  refine ps_imp (ps_ret (pe_var hN hv hd hcd)) fun D σ H hq => ?_
  obtain ⟨B, F, ρ, S, w⟩ := hq
  unfold yRetOwn at w
  cases e : ρ[i]? with
  | none => rw [e] at w; exact w.elim
  | some c =>
    rw [e] at w
    cases c with
    | none => exact w.elim
    | some c =>
      cases c with
      | dat d => exact w.elim
      | own o d =>
        cases o with
        | false => exact w.elim
        | true =>
          obtain ⟨p, c, h1, h2, h3, h4, h5, h6, _⟩ := S.mu i true d e
          exact ⟨.ref p, h1, w F σ (.ref p) H (Same.refl F) S ⟨p, c, rfl, h2, h3, h5, h4, h6 rfl⟩⟩
theorem ds_if {c : Expr} {a b : List Stmt} (hc : DT X W c β) (ha : DSs X W a ψ) (hb : DSs X W b χ) : DS X W (.If c a b pos) (yIf β ψ χ) := by
  refine ps_imp (ps_if hc ha hb) fun D σ H hq => ?_
  obtain ⟨B, F, ρ, S, w⟩ := hq
  refine ⟨B, F, ρ, S, wp_mono (spost_bind w) (fun k ρ1 w1 F1 H1 s1 S1 => ?_) fun _ _ z => z⟩
  cases k with
  | true =>
    rw [if_pos rfl] at w1 ⊢
    exact ⟨B, F1, ρ1, S1, w1.up s1⟩
  | false =>
    rw [if_neg (by simp)] at w1 ⊢
    exact ⟨B, F1, ρ1, S1, w1.up s1⟩
theorem ds_expr (h : DE X W e φ) (hs : swapsWith e none pos.line X.env = pure false := by rfl) : DS X W (.Expr e pos) (yExpr φ) := by
  refine ps_imp (ps_expr h hs) fun D σ H hq => ?_
  obtain ⟨B, F, ρ, S, w⟩ := hq
  exact ⟨B, F, ρ, S, wp_mono (spost_bind w) (fun r ρ1 w1 F1 v H1 s1 S1 q1 => w1 F1 σ H1 s1 S1) fun _ _ z => z⟩
theorem asg_sound {is : List Nat} {γ : DenG} {D : Ends} {σ : St} {H : Hp} (hq : tDS X.K W (ySet γ φ) D σ H) : tAsg (tDE X.K W φ) (tDG X.K is γ) D σ H := by
  obtain ⟨B, F, ρ, S, w⟩ := hq
  refine ⟨B, F, ρ, S, wp_mono (spost_bind w) (fun r ρ1 w1 F1 v H1 s1 S1 q1 => ?_) fun _ _ z => z⟩
  obtain ⟨d, ρ2, e2, w2⟩ := spost_frz w1
  obtain ⟨F2, s2, r2, S2⟩ := S1.frz q1 e2
  cases e3 : γ d ρ2 with
  | none => rw [e3] at w2; exact w2.elim
  | some ρ3 =>
    rw [e3] at w2
    exact ⟨B, F2, ρ2, d, ρ3, S2, r2, e3, fun σ' S' _ => w2 F2 σ' H1 (s1.trans s2) S'⟩
theorem ds_asg {tg : Expr} {is : List Nat} {γ : DenG} (he : DE X W e φ) (hg : DG X tg is γ) (hs : swapsWithSole [tg] e pos.line X.env = pure false := by rfl) (hw : swappedStores [tg] e X.env = pure none := by rfl)
    (h1 : (assignEach [tg] X.env).map (·.2) = [assign tg X.env] := by rfl) : DS X W (.Assign [tg] e pos) (ySet γ φ) :=
  ps_imp (ps_asg he hg hs hw h1) fun _ _ _ h => asg_sound h
theorem ds_set {i : Nat} {x : Str} {pos' : Pos} (hN : X.N.Nodup) (he : DE X W e φ) (hi : X.N[i]? = some x := by rfl) (hx : Loc X.env.scope x := by first | exact Or.inl rfl | exact Or.inr rfl) (hs : swapsWith e (some (.Name x pos')) pos.line X.env = pure false := by rfl)
    (hf : X.fn x = true ∨ X.env.scope.names.lookup x = some .local := by first | exact .inl rfl | exact .inr rfl | assumption) : DS X W (.Assign [.Name x pos'] e pos) (ySet (gSet i) φ) := by
  refine ps_imp (ps_set hN hi hx he hs hf) fun D σ H hq => ?_
  obtain ⟨B, F, ρ, S, w⟩ := hq
  refine ⟨B, F, ρ, S, wp_mono (spost_bind w) (fun r ρ1 w1 F1 v H1 s1 S1 q1 => ?_) fun _ _ z => z⟩
  obtain ⟨d, ρ2, e2, w2⟩ := spost_frz w1
  obtain ⟨F2, s2, r2, S2⟩ := S1.frz q1 e2
  cases e3 : gSet i d ρ2 with
  | none => rw [e3] at w2; exact w2.elim
  | some ρ3 =>
    rw [e3] at w2
    obtain ⟨hc, e4⟩ := if_some e3
    subst e4
    exact w2 F2 _ H1 (s1.trans s2) (S2.setDat (canSet_lt hc) r2)
theorem ds_setNew {i : Nat} {x : Str} {pos' : Pos} {φ : Den D} (hN : X.N.Nodup) (he : DN X W e φ) (hi : X.N[i]? = some x := by rfl) (hx : Loc X.env.scope x := by first | exact Or.inl rfl | exact Or.inr rfl) (hs : swapsWith e (some (.Name x pos')) pos.line X.env = pure false := by rfl)
    (hf : X.fn x = true ∨ X.env.scope.names.lookup x = some .local := by first | exact .inl rfl | exact .inr rfl | assumption) : DS X W (.Assign [.Name x pos'] e pos) (ySetNew i φ) := by
  refine ps_imp (ps_set hN hi hx he hs hf) fun D σ H hq => ?_
  obtain ⟨B, F, ρ, S, w⟩ := hq
  refine ⟨B, F, ρ, S, wp_mono (spost_bind w) (fun d ρ1 w1 F1 p H1 s1 S1 q1 => ?_) fun _ _ z => z⟩
  by_cases hc : canSet ρ1 i = true
  · rw [if_pos hc] at w1
    exact w1 F1 _ H1 s1 (S1.setOwn (canSet_lt hc) q1)
  · rw [if_neg hc] at w1
    exact w1.elim
end

/-! ### for -/
def forD (γ : DenG) (ψ : DenS) : List D → Env → Out
  | [], ρ => .next ρ
  | d :: ds, ρ => match γ d ρ with
    | none => .bad
    | some ρ1 => match ψ ρ1 with
      | .next ρ2 => forD γ ψ ds ρ2
      | .cont ρ2 => forD γ ψ ds ρ2
      | .brk ρ2 => .next ρ2
      | o => o
/-- what is walked: its items; a turn may lay new data -/
def ItOk (K : PySem.W.Frag) (F : Hp) (J : It) (ds : List D) : Prop :=
  (∀ (i : Nat) (d : D) (B : Base) (F1 : Hp) (ρ : Env) (σ : St) (H : Hp), Same F F1 → Sim K B F1 ρ σ H → ds[i]? = some d → J.go i H ∧ ∀ x H', J.yld i H x H' → ∃ F2, Same F1 F2 ∧ Sim K B F2 ρ σ H' ∧ Dr K F2 x d) ∧
    ∀ H, Same F H → J.stop ds.length H
/-- an iterable's reading -/
def tDI (K : PySem.W.Frag) (W : WX) (φ : Den (List D)) : TI := fun σ H R => ∃ B F ρ, Sim K B F ρ σ H ∧
  Wp (φ ρ) (fun ds ρ' => ∀ F' J H', Same F F' → Sim K B F' ρ' σ H' → ItOk K F' J ds → R J H') (XQ K W B F σ)
def DI (X : Cx) (W : WX) (tg e : Expr) (φ : Den (List D)) : Prop := PI X tg e (tDI X.K W φ)
def yFor (ι : Den (List D)) (γ : DenG) (ψ : DenS) : DenS := fun ρ => oBind (ι ρ) fun ds ρ1 => forD γ ψ ds ρ1
theorem pi_imp {X : Cx} {tg e : Expr} {t t' : TI} (h : PI X tg e t) (hi : ∀ σ H R, t' σ H R → t σ H R) : PI X tg e t' := ⟨fun pins s σ H R I q => h.run pins s σ H R I (hi σ H R q)⟩
section
variable {X : Cx} {W : WX} {e tg : Expr} {pos : Pos} {φ : Den Rv} {ι : Den (List D)} {ψ : DenS} {body : List Stmt}
theorem ds_for {k : Nat} (C : Cok X W k) {is : List Nat} {γ : DenG} (hi : DI X W tg e ι) (hg : DG X tg is γ) (hb : DSs X W body ψ) (hs : ∀ x, foldedSetIterable e X.env x = pure x := by intro _; rfl) : DS X W (.For tg e body [] pos) (yFor ι γ ψ) := by
  refine ps_imp (ps_for C.po C.calm hi hg hb hs) fun D σ H hq => ?_
  obtain ⟨B, F, ρ, S, w⟩ := hq
  refine ⟨B, F, ρ, S, wp_mono (spost_bind w) (fun ds ρ1 w1 F1 J H1 s1 S1 q1 => ?_) fun _ _ z => z⟩
  refine ⟨fun i m σ' H' => m + i = ds.length ∧ ∃ F' ρ', Same F1 F' ∧ Sim X.K B F' ρ' σ' H' ∧ SPost X.K W B F' D (forD γ ψ (ds.drop i) ρ'), ⟨ds.length, rfl, F1, ρ1, Same.refl F1, S1, by rw [List.drop_zero]; exact w1.up s1⟩, fun i m σ' H' hw => ?_⟩
  obtain ⟨hm, F', ρ', s', S', w'⟩ := hw
  by_cases hl : i < ds.length
  · have ed : ds.drop i = ds[i] :: ds.drop (i + 1) := List.drop_eq_getElem_cons hl
    have eg : ds[i]? = some ds[i] := List.getElem?_eq_getElem hl
    obtain ⟨h1, h2⟩ := q1.1 i ds[i] B F' ρ' σ' H' s' S' eg
    rw [ed] at w'
    unfold forD at w'
    cases e1 : γ ds[i] ρ' with
    | none => rw [e1] at w'; exact w'.elim
    | some ρ2 =>
      rw [e1] at w'
      simp only at w'
      refine .inr ⟨h1, fun σ2 H2 => ∃ F2 ρ2, Same F1 F2 ∧ Sim X.K B F2 ρ2 σ2 H2 ∧ SPost X.K W B F2 D (forD γ ψ (ds.drop (i + 1)) ρ2), fun σ2 H2 hn => ?_, fun x H2 y => ?_⟩
      · exact ⟨m - 1, by omega, by omega, hn⟩
      · obtain ⟨F4, s4, S4, r⟩ := h2 x H2 y
        refine ⟨B, F4, ρ', ds[i], ρ2, S4, r, e1, fun σ2 S2 _ => ⟨B, F4, ρ2, S2, ?_⟩⟩
        have s' := s'.trans s4
        have w' := SPost.up w' s4
        cases e2 : ψ ρ2 with
        | next ρ3 =>
          rw [e2] at w'
          exact fun F3 σ3 H3 s3 S3 => ⟨F3, ρ3, s'.trans s3, S3, SPost.up w' s3⟩
        | cont ρ3 =>
          rw [e2] at w'
          exact fun F3 σ3 H3 s3 S3 => ⟨F3, ρ3, s'.trans s3, S3, SPost.up w' s3⟩
        | brk ρ3 =>
          rw [e2] at w'
          exact fun F3 σ3 H3 s3 S3 => w' F3 σ3 H3 s3 S3
        | ret r ρ3 => rw [e2] at w'; exact w'
        | exc x ρ3 => rw [e2] at w'; exact w'
        | bad => rw [e2] at w'; exact w'.elim
  · have ei : i = ds.length := by omega
    subst ei
    rw [List.drop_length] at w'
    exact .inl ⟨q1.2 H' (s'.trans S'.f), w' F' σ' H' (Same.refl F') S'⟩

/-- a list or a tuple, as data -/
def xItems (φ : Den Rv) : Den (List D) := fun ρ => (φ ρ).bind fun r ρ1 => (frz r ρ1).bind fun d ρ2 => match d with
  | .list ds => .ok ds ρ2
  | .tuple ds => .ok ds ρ2
  | .str z => .ok (z.cps.toList.map fun c => .str ⟨#[c]⟩) ρ2
  | _ => .bad
theorem its_ok {K : PySem.W.Frag} {F : Hp} {z : Str} : ItOk K F (Its z) (z.cps.toList.map fun c => .str ⟨#[c]⟩) := by
  refine ⟨fun i d B F1 ρ σ H s1 S e => ?_, fun H f => ?_⟩
  · rw [List.getElem?_map] at e
    obtain ⟨c, h1, h2⟩ := Option.map_eq_some_iff.mp e
    subst h2
    have hc : z.cps[i]? = some c := by simpa using h1
    have hi : i < z.cps.size := by
      rw [Array.getElem?_eq_some_iff] at hc
      exact hc.1
    refine ⟨hi, fun x H' y => ?_⟩
    obtain ⟨rfl, c', e', rfl⟩ := y
    rw [hc] at e'
    cases e'
    exact ⟨F1, Same.refl F1, S, .str _⟩
  · show z.cps.size ≤ (z.cps.toList.map fun c => PyData.str ⟨#[c]⟩).length
    simp
theorem itl_ok {K : PySem.W.Frag} {F : Hp} {a : Addr} {vs : List V} {ds : List D} (q : SqL K F a vs) (r : DrAll K F vs ds) : ItOk K F (Itl K a) ds := by
  refine ⟨fun i d B F1 ρ σ H s1 S e => ?_, fun H f => ⟨vs, f.seq q, by rw [r.length]; exact Nat.le_refl _⟩⟩
  obtain ⟨v, h1, h2⟩ := r.get e
  have f := s1.trans S.f
  refine ⟨⟨vs, v, f.seq q, h1⟩, fun x H' y => ?_⟩
  obtain ⟨rfl, y⟩ := y
  have e2 := y vs (f.seq q)
  rw [h1] at e2
  cases e2
  exact ⟨F1, Same.refl F1, S, h2.up s1⟩
theorem itt_ok {K : PySem.W.Frag} {F : Hp} {a : Addr} {vs : List V} {ds : List D} (q : SqT K F a vs) (r : DrAll K F vs ds) : ItOk K F (Itt K a) ds := by
  refine ⟨fun i d B F1 ρ σ H s1 S e => ?_, fun H f => ⟨vs, sqT_mono f q, by rw [r.length]; exact Nat.le_refl _⟩⟩
  obtain ⟨v, h1, h2⟩ := r.get e
  have f := s1.trans S.f
  refine ⟨⟨vs, v, sqT_mono f q, h1⟩, fun x H' y => ?_⟩
  obtain ⟨rfl, y⟩ := y
  have e2 := y vs (sqT_mono f q)
  rw [h1] at e2
  cases e2
  exact ⟨F1, Same.refl F1, S, h2.up s1⟩
theorem di_seq (h : DE X W e φ) : DI X W tg e (xItems φ) := by
  refine ⟨fun pins s σ H R I hq => ?_⟩
  obtain ⟨B, F, ρ, S, w⟩ := hq
  have w0 := wp_bind w
  cases e1 : φ ρ with
  | bad => rw [e1] at w0; exact w0.elim
  | exc x ρ1 =>
    rw [e1] at w0
    exact (pi_list h).run pins s σ H R I ⟨B, F, ρ, S, by rw [e1]; exact w0⟩
  | ok r ρ1 =>
    rw [e1] at w0
    obtain ⟨d, ρ2, e2, w2⟩ := wp_frz (wp_bind w0)
    cases d with
    | list ds =>
      refine (pi_list h).run pins s σ H R I ⟨B, F, ρ, S, ?_⟩
      rw [e1]
      intro F1 v H1 s1 S1 q1
      obtain ⟨F2, s2, r2, S2⟩ := S1.frz q1 e2
      cases r2 with
      | lst q r => exact ⟨_, rfl, ⟨_, S2.f.seq q⟩, w2 F2 _ H1 (s1.trans s2) S2 (itl_ok q r)⟩
    | tuple ds =>
      refine (pi_tup h).run pins s σ H R I ⟨B, F, ρ, S, ?_⟩
      rw [e1]
      intro F1 v H1 s1 S1 q1
      obtain ⟨F2, s2, r2, S2⟩ := S1.frz q1 e2
      cases r2 with
      | tup q r => exact ⟨_, rfl, ⟨_, sqT_mono S2.f q⟩, w2 F2 _ H1 (s1.trans s2) S2 (itt_ok q r)⟩
    | str z =>
      refine (pi_str h).run pins s σ H R I ⟨B, F, ρ, S, ?_⟩
      rw [e1]
      intro F1 v H1 s1 S1 q1
      obtain ⟨F2, s2, r2, S2⟩ := S1.frz q1 e2
      cases r2
      exact ⟨_, rfl, w2 F2 _ H1 (s1.trans s2) S2 its_ok⟩
    | _ => exact w2.elim
/-- range(n), range(a, b) -/
def rangeL (lo : Int) (n : Nat) : List D := (List.range n).map fun (i : Nat) => PyData.int (lo + (i : Int))
def gRange1 : List D → Option (List D)
  | [.int j] => if -(2 ^ 62) ≤ j ∧ j < 2 ^ 62 then some (rangeL 0 j.toNat) else none
  | _ => none
def gRange2 : List D → Option (List D)
  | [.int i, .int j] => if -(2 ^ 62) ≤ i ∧ i < 2 ^ 62 ∧ -(2 ^ 62) ≤ j ∧ j < 2 ^ 62 then some (rangeL i (j - i).toNat) else none
  | _ => none
def xRng (g : List D → Option (List D)) (φ : Den (List Rv)) : Den (List D) := fun ρ => (φ ρ).bind fun rs ρ1 => ofO ((looks ρ1 rs).bind g) ρ1
theorem itr_ok {K : PySem.W.Frag} {F : Hp} {lo : Int} {n : Nat} : ItOk K F (Itr lo n) (rangeL lo n) := by
  refine ⟨fun i d B F1 ρ σ H s1 S e => ?_, fun H f => ?_⟩
  · unfold rangeL at e
    rw [List.getElem?_map] at e
    obtain ⟨j, h1, h2⟩ := Option.map_eq_some_iff.mp e
    have hi : i < n := by
      have := (List.getElem?_eq_some_iff.mp h1).1
      simpa using this
    have hj : j = i := by
      rw [List.getElem?_range hi] at h1
      exact (Option.some.inj h1).symm
    subst hj
    refine ⟨hi, fun x H' y => ?_⟩
    obtain ⟨rfl, rfl⟩ := y
    subst h2
    exact ⟨F1, Same.refl F1, S, .int _⟩
  · show n ≤ (rangeL lo n).length
    unfold rangeL
    simp
theorem looks_one {ρ : Env} {rs : List Rv} {d : D} (h : looks ρ rs = some [d]) : ∃ r, rs = [r] ∧ look ρ r = some d := by
  cases rs with
  | nil => cases h
  | cons r rs =>
    obtain ⟨d', ds, e1, e2, e3⟩ := looks_cons h
    cases e1
    cases rs with
    | nil => exact ⟨r, rfl, e2⟩
    | cons r' rs =>
      obtain ⟨_, _, e4, _⟩ := looks_cons e3
      cases e4
theorem looks_two {ρ : Env} {rs : List Rv} {d d' : D} (h : looks ρ rs = some [d, d']) : ∃ r r', rs = [r, r'] ∧ look ρ r = some d ∧ look ρ r' = some d' := by
  cases rs with
  | nil => cases h
  | cons r rs =>
    obtain ⟨d', ds, e1, e2, e3⟩ := looks_cons h
    cases e1
    obtain ⟨r', rfl, e4⟩ := looks_one e3
    exact ⟨r, r', rfl, e2, e4⟩
theorem di_range1 {a : Expr} {p pos : Pos} {φ : Den (List Rv)} (hg : Gl X "range") (hm : X.mg "range" = none) (ha : DA X W [a] φ) (hs : starEach [a] X.env = [(false, eval a X.env)] := by rfl) : DI X W tg (.Call (.Name "range" p) [a] [] pos) (xRng gRange1 φ) := by
  refine pi_imp (pi_range1 hg hm ha hs) fun σ H R hq => ?_
  obtain ⟨B, F, ρ, S, w⟩ := hq
  refine ⟨B, F, ρ, S, wp_mono (wp_bind w) (fun rs ρ1 w1 F1 vs H1 s1 S1 q1 => ?_) fun _ _ z => z⟩
  obtain ⟨ds, e1, w2⟩ := wp_ofO w1
  obtain ⟨as, e2, e3⟩ := Option.bind_eq_some_iff.mp e1
  unfold gRange1 at e3
  split at e3
  · rename_i j
    obtain ⟨hz, e3⟩ := if_some e3
    obtain ⟨r, rfl, e4⟩ := looks_one e2
    cases q1 with
    | cons q1 t =>
      cases t
      rw [S1.int q1 e4]
      subst e3
      exact ⟨j, rfl, hz.1, hz.2, w2 F1 _ H1 s1 S1 itr_ok⟩
  · cases e3
theorem di_range2 {a b : Expr} {p pos : Pos} {φ : Den (List Rv)} (hg : Gl X "range") (hm : X.mg "range" = none) (ha : DA X W [a, b] φ) (hs : starEach [a, b] X.env = [(false, eval a X.env), (false, eval b X.env)] := by rfl) (hs2 : starEach [b] X.env = [(false, eval b X.env)] := by rfl) :
    DI X W tg (.Call (.Name "range" p) [a, b] [] pos) (xRng gRange2 φ) := by
  refine pi_imp (pi_range2 hg hm ha hs hs2) fun σ H R hq => ?_
  obtain ⟨B, F, ρ, S, w⟩ := hq
  refine ⟨B, F, ρ, S, wp_mono (wp_bind w) (fun rs ρ1 w1 F1 vs H1 s1 S1 q1 => ?_) fun _ _ z => z⟩
  obtain ⟨ds, e1, w2⟩ := wp_ofO w1
  obtain ⟨as, e2, e3⟩ := Option.bind_eq_some_iff.mp e1
  unfold gRange2 at e3
  split at e3
  · rename_i i j
    obtain ⟨hz, e3⟩ := if_some e3
    obtain ⟨r, r', rfl, e4, e5⟩ := looks_two e2
    cases q1 with
    | cons q1 t =>
      cases t with
      | cons q2 t =>
        cases t
        rw [S1.int q1 e4, S1.int q2 e5]
        subst e3
        exact ⟨i, j, rfl, hz, w2 F1 _ H1 s1 S1 itr_ok⟩
  · cases e3
end

/-! ### while: with so many turns at most -/
def whileD (c : Den Bool) (ψ : DenS) : Nat → Env → Out
  | 0, _ => .bad
  | n + 1, ρ => oBind (c ρ) fun k ρ1 => if k = true then match ψ ρ1 with
      | .next ρ2 => whileD c ψ n ρ2
      | .cont ρ2 => whileD c ψ n ρ2
      | .brk ρ2 => .next ρ2
      | o => o
    else .next ρ1
def yWhile (n : Nat) (c : Den Bool) (ψ : DenS) : DenS := whileD c ψ n
section
variable {X : Cx} {W : WX} {c : Expr} {pos : Pos} {β : Den Bool} {ψ : DenS} {body : List Stmt}
theorem ds_while {k : Nat} (C : Cok X W k) (n : Nat) (hc : DT X W c β) (hb : DSs X W body ψ) : DS X W (.While c body [] pos) (yWhile n β ψ) := by
  refine ps_imp (ps_while C.po hc hb) fun D σ H hq => ?_
  obtain ⟨B, F, ρ, S, w⟩ := hq
  refine ⟨fun m σ' H' => ∃ F' ρ', Same F F' ∧ Sim X.K B F' ρ' σ' H' ∧ SPost X.K W B F' D (whileD β ψ m ρ'), ⟨n, F, ρ, Same.refl F, S, w⟩, fun m σ' H' hw => ?_⟩
  obtain ⟨F', ρ', s', S', w'⟩ := hw
  cases m with
  | zero => exact w'.elim
  | succ m =>
    refine ⟨B, F', ρ', S', wp_mono (spost_bind w') (fun k ρ1 w1 F1 H1 s1 S1 => ?_) fun _ _ z => z⟩
    cases k with
    | true =>
      rw [if_pos rfl] at w1 ⊢
      refine ⟨fun σ2 H2 => ∃ F2 ρ2, Same F F2 ∧ Sim X.K B F2 ρ2 σ2 H2 ∧ SPost X.K W B F2 D (whileD β ψ m ρ2), fun σ2 H2 hn => ⟨m, Nat.lt_succ_self m, hn⟩, B, F1, ρ1, S1, ?_⟩
      have w1 := w1.up s1
      have sF := s'.trans s1
      cases e2 : ψ ρ1 with
      | next ρ3 =>
        rw [e2] at w1
        exact fun F3 σ3 H3 s3 S3 => ⟨F3, ρ3, sF.trans s3, S3, SPost.up w1 s3⟩
      | cont ρ3 =>
        rw [e2] at w1
        exact fun F3 σ3 H3 s3 S3 => ⟨F3, ρ3, sF.trans s3, S3, SPost.up w1 s3⟩
      | brk ρ3 =>
        rw [e2] at w1
        exact fun F3 σ3 H3 s3 S3 => w1 F3 σ3 H3 s3 S3
      | ret r ρ3 => rw [e2] at w1; exact w1
      | exc x ρ3 => rw [e2] at w1; exact w1
      | bad => rw [e2] at w1; exact w1.elim
    | false =>
      rw [if_neg (by simp)] at w1 ⊢
      exact w1 F1 σ' H1 s1 S1
end

/-! ### o[i] = e, o[i] op= e, name op= e, at a slot's own list; append, pop -/
def setIx (i : Nat) (k : D) (d : D) (ρ : Env) : Option Env := match ρ[i]?, k with
  | some (some (.own o (.list ds))), .int j => (ixN ds.length j).map fun m => ρ.set i (some (.own o (.list (ds.set m d))))
  | _, _ => none
theorem setIx_ok {i : Nat} {k d : D} {ρ ρ' : Env} (h : setIx i k d ρ = some ρ') : ∃ o ds j m, ρ[i]? = some (some (.own o (.list ds))) ∧ k = .int j ∧ ixN ds.length j = some m ∧ ρ' = ρ.set i (some (.own o (.list (ds.set m d)))) := by
  unfold setIx at h
  split at h
  · rename_i o ds j e
    obtain ⟨m, h1, h2⟩ := Option.map_eq_some_iff.mp h
    exact ⟨o, ds, j, m, e, rfl, h1, h2.symm⟩
  · cases h
def ySetIx (i : Nat) (ι φ : Den Rv) : DenS := fun ρ => oBind (φ ρ) fun r ρ1 => oBind (frz r ρ1) fun d ρ2 => oBind (xName i ρ2) fun _ ρ3 => oBind (ι ρ3) fun j ρ4 => match look ρ4 j with
  | some k => (match setIx i k d ρ4 with
    | some ρ5 => .next ρ5
    | none => .bad)
  | none => .bad
section
variable {X : Cx} {W : WX} {o e ie : Expr} {pos tpos p : Pos} {ι φ : Den Rv}
theorem own_set {K : PySem.W.Frag} {B : Base} {F : Hp} {ρ ρ' : Env} {σ : St} {H : Hp} (S : Sim K B F ρ σ H) {i : Nat} {k d : D} {v : V} {oa : V} (q : Dr K F v d) (eo : σ[i]? = some (some oa)) (h : setIx i k d ρ = some ρ') :
    ∃ p xs j m, oa = .ref p ∧ k = .int j ∧ H p = some (.lst xs) ∧ ixN xs.length j = some m ∧ Sim K B F ρ' σ (upd H p (.lst (xs.set m v))) := by
  obtain ⟨ow, ds, j, m, e1, e2, e3, e4⟩ := setIx_ok h
  obtain ⟨p, c, h1, h2, h3, _⟩ := S.mu i ow _ e1
  rw [eo] at h1; cases h1
  obtain ⟨vs, rfl, r⟩ := h3.list
  refine ⟨p, vs, j, m, rfl, e2, h2, by rw [r.length]; exact e3, ?_⟩
  subst e4
  exact S.change e1 eo (show Cont K F (.lst (vs.set m v)) (.list (ds.set m d)) from DrAll.set q m r)
theorem xName_at {K : PySem.W.Frag} {B : Base} {F : Hp} {ρ : Env} {σ : St} {H : Hp} (S : Sim K B F ρ σ H) {i : Nat} {P : Rv → Env → Prop} {E : Exc → Env → Prop} (h : Wp (xName i ρ) P E) : ∃ r v, σ[i]? = some (some v) ∧ RvOk K F σ r v ∧ P r ρ := by
  unfold xName at h
  cases e : ρ[i]? with
  | none => rw [e] at h; exact h.elim
  | some c =>
    rw [e] at h
    cases c with
    | none => exact h.elim
    | some c =>
      cases c with
      | dat d =>
        obtain ⟨v, h1, h2⟩ := S.dat i d e
        exact ⟨.dat d, v, h1, h2, h⟩
      | own o d =>
        obtain ⟨p, c, h1, _⟩ := S.mu i o d e
        exact ⟨.slot i, .ref p, h1, h1, h⟩
theorem ds_setIx {i : Nat} {x : Str} (he : DE X W e φ) (hi : DE X W ie ι) (hN : X.N[i]? = some x := by rfl) (hv : Vis X.env.scope x := by first | exact Or.inl rfl | exact Or.inr (Or.inl rfl) | exact Or.inr (Or.inr rfl)) (hd : (x == ("__debug__" : Str)) = false := by decide)
    (hcd : (x == ("__classdict__" : Str)) = false := by decide) (hs : swapsWithSole [.Subscript (.Name x p) ie tpos] e pos.line X.env = pure false := by rfl) (hw : swappedStores [.Subscript (.Name x p) ie tpos] e X.env = pure none := by rfl)
    (h1 : (assignEach [.Subscript (.Name x p) ie tpos] X.env).map (·.2) = [assign (.Subscript (.Name x p) ie tpos) X.env] := by rfl)
    (ha : ∀ v, assign (.Subscript (.Name x p) ie tpos) X.env v = (do
      let ov ← holding [v] (eval (.Name x p) X.env)
      let iv ← holding [v, ov] (eval ie X.env)
      standAt tpos
      holding [v, ov, iv] (setItem ov iv v)
      release [v, ov, iv] []) := by intro _; rfl) : DS X W (.Assign [.Subscript (.Name x p) ie tpos] e pos) (ySetIx i ι φ) := by
  refine ps_imp (ps_asg he (pg_sub (pe_var hN hv hd hcd) hi set_list ha) hs hw h1) fun D σ H hq => ?_
  obtain ⟨B, F, ρ, S, w⟩ := hq
  refine ⟨B, F, ρ, S, wp_mono (spost_bind w) (fun r ρ1 w1 F1 v H1 s1 S1 q1 => ?_) fun _ _ z => z⟩
  obtain ⟨d, ρ2, e2, w2⟩ := spost_frz w1
  obtain ⟨F2, s2, r2, S2⟩ := S1.frz q1 e2
  obtain ⟨_, oa, eo, _, w3⟩ := xName_at S2 (spost_bind (σ := σ) (w2.up (s1.trans s2)))
  refine ⟨oa, eo, B, F2, ρ2, S2, wp_mono (spost_bind w3) (fun j ρ3 w4 F3 jv H3 s3 S3 q3 => ?_) fun _ _ z => z⟩
  cases e4 : look ρ3 j with
  | none => rw [e4] at w4; exact w4.elim
  | some k =>
    rw [e4] at w4
    cases e5 : setIx i k d ρ3 with
    | none => simp only [e5] at w4; exact w4.elim
    | some ρ4 =>
      simp only [e5] at w4
      obtain ⟨p, xs, j', m, rfl, rfl, h2, h3, S4⟩ := own_set S3 (r2.up s3) eo e5
      exact ⟨p, xs, j', m, rfl, S3.int q3 e4, h2, h3, w4 F3 σ _ s3 S4⟩
/-- o[i], by values: a list's item -/
def tGetL (K : PySem.W.Frag) : V → V → Hp → VK → Prop := fun x y H Q => ∃ p xs i v, x = .ref p ∧ y = .int i ∧ SqL K H p xs ∧ 0 ≤ i ∧ xs[i.toNat]? = some v ∧ Q v H
theorem get_listL : PGet X (tGetL X.K) := by
  intro pins s σ H x y ov iv Q I ro ri hq
  obtain ⟨p, xs, i, v, rfl, rfl, hl, h0, hx, q⟩ := hq
  cases ro
  obtain ⟨t, rfl⟩ := ri
  obtain ⟨its, r, pl, hz⟩ := I.list hl
  obtain ⟨u, hu, ru⟩ := r.get hx
  have hi : i.toNat < xs.length := (List.getElem?_eq_some_iff.mp hx).1
  have hn := line63
  exact wpAny_getItem_list pl.isList h0 (by omega) (x := u) (by simpa using hu) ⟨v, H, I, ru, q⟩
def gGetL : D → D → Option D
  | .list xs, .int i => if 0 ≤ i then xs[i.toNat]? else none
  | _, _ => none
theorem s2_getL {K : PySem.W.Frag} : S2 K (tGetL K) gGetL := by
  intro B F ρ σ H x y a b da db dz Q S ra rb ea eb e q
  cases da <;> cases db <;> simp only [gGetL, reduceCtorEq] at e
  rename_i ds i
  by_cases h0 : 0 ≤ i
  · rw [if_pos h0] at e
    obtain ⟨p, vs, rfl, h1, h2⟩ := S.items ra ea
    obtain ⟨v, h3, h4⟩ := h2.get e
    exact ⟨p, vs, i, v, rfl, S.int rb eb, h1, h0, h3, q F _ H (Same.refl F) S h4⟩
  · rw [if_neg h0] at e; cases e
/-- name[ie] op= e: the operation's own rule in place -/
def yAugIx (g : D → D → Option D) (i : Nat) (ι φ : Den Rv) : DenS := fun ρ => oBind (xName i ρ) fun o ρ1 => oBind (ι ρ1) fun j ρ2 => oBind (appl2 gGetL o j ρ2) fun old ρ3 => oBind (φ ρ3) fun r ρ4 => oBind (appl2 g old r ρ4) fun new ρ5 => match new, look ρ5 j with
  | .dat d, some k => (match setIx i k d ρ5 with
    | some ρ6 => .next ρ6
    | none => .bad)
  | _, _ => .bad
def PIpOk (K : PySem.W.Frag) (t : TIp) (g : D → D → Option D) : Prop := S2 K t g
theorem ds_augIx {i : Nat} {x : Str} {op : Operator} {t : TIp} {g : D → D → Option D} (ho : PIp X op t) (hg : S2 X.K t g) (he : DE X W e φ) (hi : DE X W ie ι) (hN : X.N[i]? = some x := by rfl) (hv : Vis X.env.scope x := by first | exact Or.inl rfl | exact Or.inr (Or.inl rfl) | exact Or.inr (Or.inr rfl)) (hd : (x == ("__debug__" : Str)) = false := by decide)
    (hcd : (x == ("__classdict__" : Str)) = false := by decide)
    (ha : ∀ ov iv new, augStore ie ov iv new = (do holding [new, ov, iv] (setItem ov iv new); release [new, ov, iv] []; pure .next) := by intros; rfl) : DS X W (.AugAssign (.Subscript (.Name x p) ie tpos) op e pos) (yAugIx g i ι φ) := by
  refine ps_imp (ps_augS (pe_var hN hv hd hcd) hi get_listL he ho set_list ha) fun D σ H hq => ?_
  obtain ⟨B, F, ρ, S, w⟩ := hq
  obtain ⟨o, oa, eo, qo, w1⟩ := xName_at S (spost_bind (σ := σ) w)
  refine ⟨oa, eo, B, F, ρ, S, wp_mono (spost_bind w1) (fun j ρ2 w2 F2 jv H2 s2 S2 q2 => ?_) fun _ _ z => z⟩
  obtain ⟨da, db, dz, e1, e2, e3, w3⟩ := wp_appl2 (spost_bind (σ := σ) w2)
  refine s2_getL B F2 ρ2 σ H2 oa jv o j da db dz _ S2 (qo.up s2) q2 e1 e2 e3 fun F3 ov H3 s3 S3 r3 => ?_
  have s03 := s2.trans s3
  refine ⟨B, F3, ρ2, S3, wp_mono (spost_bind (w3.up s03)) (fun r ρ4 w4 F4 y H4 s4 S4 q4 => ?_) fun _ _ z => z⟩
  obtain ⟨dx, dy, dn, e4, e5, e6, w5⟩ := wp_appl2 (spost_bind (σ := σ) w4)
  refine hg B F4 ρ4 σ H4 ov y (.dat dz) r dx dy dn _ S4 (RvOk.up (r := .dat dz) r3 s4) q4 e4 e5 e6 fun F5 z H5 s5 S5 r5 => ?_
  cases e7 : look ρ4 j with
  | none => simp only [e7] at w5; exact w5.elim
  | some k =>
    simp only [e7] at w5
    cases e8 : setIx i k dn ρ4 with
    | none => simp only [e8] at w5; exact w5.elim
    | some ρ6 =>
      simp only [e8] at w5
      obtain ⟨p, xs, j', m, rfl, rfl, h2, h3, S6⟩ := own_set S5 r5 eo e8
      have q5 := ((q2.up s3).up s4).up s5
      exact ⟨p, xs, j', m, rfl, S5.int q5 e7, h2, h3, w5 F5 σ _ (s4.trans s5) S6⟩
/-- name op= e -/
def yAug (g : D → D → Option D) (i : Nat) (φ : Den Rv) : DenS := fun ρ => oBind (xName i ρ) fun o ρ1 => oBind (φ ρ1) fun r ρ2 => oBind (appl2 g o r ρ2) fun new ρ3 => match new with
  | .dat d => if canSet ρ3 i then .next (ρ3.set i (some (.dat d))) else .bad
  | _ => .bad
theorem ds_aug {i : Nat} {x : Str} {op : Operator} {t : TIp} {g : D → D → Option D} (hN : X.N.Nodup) (ho : PIp X op t) (hg : S2 X.K t g) (he : DE X W e φ) (hi : X.N[i]? = some x := by rfl) (hx : Loc X.env.scope x := by first | exact Or.inl rfl | exact Or.inr rfl)
    (hf : X.fn x = true ∨ X.env.scope.names.lookup x = some .local := by first | exact .inl rfl | exact .inr rfl | assumption) : DS X W (.AugAssign (.Name x p) op e pos) (yAug g i φ) := by
  refine ps_imp (ps_aug hN hi hx he ho hf) fun D σ H hq => ?_
  obtain ⟨B, F, ρ, S, w⟩ := hq
  obtain ⟨o, oa, eo, qo, w1⟩ := xName_at S (spost_bind (σ := σ) w)
  refine ⟨oa, eo, B, F, ρ, S, wp_mono (spost_bind w1) (fun r ρ2 w2 F2 y H2 s2 S2 q2 => ?_) fun _ _ z => z⟩
  obtain ⟨da, db, dz, e1, e2, e3, w3⟩ := wp_appl2 (spost_bind (σ := σ) w2)
  refine hg B F2 ρ2 σ H2 oa y o r da db dz _ S2 (qo.up s2) q2 e1 e2 e3 fun F3 z H3 s3 S3 r3 => ?_
  by_cases hc : canSet ρ2 i = true
  · simp only [hc, if_true] at w3
    exact w3 F3 _ H3 (s2.trans s3) (S3.setDat (canSet_lt hc) r3)
  · simp only [hc] at w3
    exact w3.elim
theorem ip_of {K : PySem.W.Frag} {f : Int → Int → Int} {g : D → D → Option D} (h : ∀ da db dz, g da db = some dz → ∃ i j, da = .int i ∧ db = .int j ∧ dz = .int (f i j)) : S2 K (ipI f) g := by
  intro B F ρ σ H x y a b da db dz Q S ra rb ea eb e q
  obtain ⟨i, j, rfl, rfl, rfl⟩ := h _ _ _ e
  exact ⟨i, j, S.int ra ea, S.int rb eb, q F _ H (Same.refl F) S (.int _)⟩
def gAddI : D → D → Option D
  | .int i, .int j => some (.int (i + j))
  | _, _ => none
theorem s2_iadd {K : PySem.W.Frag} : S2 K (ipI fun i j => i + j) gAddI := ip_of fun da db dz e => by
  cases da <;> cases db <;> simp only [gAddI, reduceCtorEq, Option.some.injEq] at e
  exact ⟨_, _, rfl, rfl, e.symm⟩
theorem s2_isub {K : PySem.W.Frag} : S2 K (ipI fun i j => i - j) gSub := ip_of fun da db dz e => by
  cases da <;> cases db <;> simp only [gSub, reduceCtorEq, Option.some.injEq] at e
  exact ⟨_, _, rfl, rfl, e.symm⟩

end

/-! ### name.m(..), m a method that changes the slot's own list -/
def xMut (i : Nat) (op : List D → List D → Option (List D × D)) (φ : Den (List Rv)) : Den Rv := fun ρ => match ρ[i]? with
  | some (some (.own _ (.list _))) => (φ ρ).bind fun rs ρ1 => match ρ1[i]?, dats rs with
    | some (some (.own o (.list ds))), some as => (match op ds as with
      | some (ds', z) => .ok (.dat z) (ρ1.set i (some (.own o (.list ds'))))
      | none => .bad)
    | _, _ => .bad
  | _ => .bad
def SM (K : PySem.W.Frag) (r : V → List V → Hp → VK → Prop) (op : List D → List D → Option (List D × D)) : Prop :=
  ∀ (F H : Hp) (p : Addr) (vs as : List V) (ds da ds' : List D) (z : D) (Q : VK), H p = some (.lst vs) → DrAll K F vs ds → DrAll K F as da → op ds da = some (ds', z) →
    (∀ vs' v, DrAll K F vs' ds' → Dr K F v z → Q v (upd H p (.lst vs'))) → r (.ref p) as H Q
section
variable {X : Cx} {W : WX} {K : PySem.W.Frag} {e : Expr} {es : List Expr} {cpos apos p : Pos} {φ : Den (List Rv)}
theorem xMut_sound {i : Nat} {op : List D → List D → Option (List D × D)} {r : V → List V → Hp → VK → Prop} (hs : SM X.K r op) {σ : St} {H : Hp} {Q : VK} (h : tDE X.K W (xMut i op φ) σ H Q) :
    tBM X.K "list" r (tVar i) (tDA X.K W φ) σ H Q := by
  obtain ⟨B, F, ρ, S, w⟩ := h
  unfold xMut at w
  split at w
  · rename_i o ds0 e0
    obtain ⟨p, c, h1, h2, h3, _⟩ := S.mu i o _ e0
    obtain ⟨vs0, rfl, r0⟩ := h3.list
    refine ⟨.ref p, h1, .inl ⟨rfl, _, SqL.of h2⟩, B, F, ρ, S, wp_mono (wp_bind w) (fun rs ρ1 w1 F1 as H1 s1 S1 q1 => ?_) fun _ _ z => z⟩
    split at w1
    · rename_i o' ds das e1 e2
      cases e3 : op ds das with
      | none => simp only [e3] at w1; exact w1.elim
      | some pr =>
        obtain ⟨ds', z⟩ := pr
        simp only [e3] at w1
        obtain ⟨p', c', g1, g2, g3, _⟩ := S1.mu i o' _ e1
        rw [h1] at g1; cases g1
        obtain ⟨vs, rfl, r1⟩ := g3.list
        exact hs F1 H1 p vs as ds das ds' z Q g2 r1 (dats_ok e2 q1) e3 fun vs' v r2 r3 => w1 F1 v _ s1 (S1.change e1 h1 (show Cont X.K F1 (.lst vs') (.list ds') from r2)) r3
    · exact w1.elim
  · exact w.elim
theorem xMut0_sound {i : Nat} {op : List D → List D → Option (List D × D)} {r : V → List V → Hp → VK → Prop} (hs : SM X.K r op) {σ : St} {H : Hp} {Q : VK} (h : tDE X.K W (xMut i op xNil) σ H Q) :
    tBM0 X.K "list" r (tVar i) σ H Q := by
  obtain ⟨B, F, ρ, S, w⟩ := h
  unfold xMut at w
  split at w
  · rename_i o ds e0
    obtain ⟨p, c, h1, h2, h3, _⟩ := S.mu i o _ e0
    obtain ⟨vs, rfl, r0⟩ := h3.list
    refine ⟨.ref p, h1, .inl ⟨rfl, _, SqL.of h2⟩, ?_⟩
    simp only [xNil, Ans.bind_ok, e0, dats_nil] at w
    cases e3 : op ds [] with
    | none => simp only [e3] at w; exact w.elim
    | some pr =>
      obtain ⟨ds', z⟩ := pr
      simp only [e3] at w
      exact hs F H p vs [] ds [] ds' z Q h2 r0 .nil e3 fun vs' v r2 r3 => w F v _ (Same.refl F) (S.change e0 h1 (show Cont X.K F (.lst vs') (.list ds') from r2)) r3
  · exact w.elim
theorem de_mut {i : Nat} {x name : Str} {id : String} {op : List D → List D → Option (List D × D)} {r : V → List V → Hp → VK → Prop} (slot : Slot "list" name id) (hty : typeOf (.builtin id) = pure (.type "method_descriptor")) (hm : MtR X id r) (hs : SM X.K r op)
    (ha : DA X W (e :: es) φ) (hN : X.N[i]? = some x := by rfl) (hv : Vis X.env.scope x := by first | exact Or.inl rfl | exact Or.inr (Or.inl rfl) | exact Or.inr (Or.inr rfl)) (hd : (x == ("__debug__" : Str)) = false := by decide)
    (hcd : (x == ("__classdict__" : Str)) = false := by decide)
    (hbase : attributeBase (.Name x p) name X.env (eval (.Name x p) X.env) = eval (.Name x p) X.env := by rfl)
    (hfew : ((backTo cpos (starEach (e :: es) X.env)).all (fun x => !x.1) && (backToKw cpos (keywordEach [] X.env)).all (fun x => x.1.isSome)
      && decide ((e :: es).length + ([] : List Keyword).length + (if ([] : List Keyword).isEmpty then 0 else 1) < 30)) = true := by rfl)
    (hline : (apos.endLine == cpos.line) = true := by rfl) (hst : starEach (e :: es) X.env = (false, eval e X.env) :: starEach es X.env := by rfl) (hplain : (backTo cpos (starEach es X.env)).any (·.1) = false := by rfl) :
    DE X W (.Call (.Attribute (.Name x p) name apos) (e :: es) [] cpos) (xMut i op φ) :=
  pe_imp (pe_bm PySem.F.plainAttrs_list slot hty hm (pe_var hN hv hd hcd) ha hbase hfew hline hst hplain) fun _ _ _ h => xMut_sound hs h
theorem de_mut0 {i : Nat} {x name : Str} {id : String} {op : List D → List D → Option (List D × D)} {r : V → List V → Hp → VK → Prop} (slot : Slot "list" name id) (hty : typeOf (.builtin id) = pure (.type "method_descriptor")) (hm : MtR X id r) (hs : SM X.K r op)
    (hN : X.N[i]? = some x := by rfl) (hv : Vis X.env.scope x := by first | exact Or.inl rfl | exact Or.inr (Or.inl rfl) | exact Or.inr (Or.inr rfl)) (hd : (x == ("__debug__" : Str)) = false := by decide)
    (hcd : (x == ("__classdict__" : Str)) = false := by decide) (hbase : attributeBase (.Name x p) name X.env (eval (.Name x p) X.env) = eval (.Name x p) X.env := by rfl) (hline : (apos.endLine == cpos.line) = true := by rfl) :
    DE X W (.Call (.Attribute (.Name x p) name apos) [] [] cpos) (xMut i op xNil) :=
  pe_imp (pe_bm0 PySem.F.plainAttrs_list slot hty hm (pe_var hN hv hd hcd) hbase hline) fun _ _ _ h => xMut0_sound hs h
def oAppend (ds as : List D) : Option (List D × D) := match as with
  | [d] => if ds.length < sizeLine then some (ds ++ [d], .none) else none
  | _ => none
theorem sm_append : SM K rAppend oAppend := by
  intro F H p vs as ds da ds' z Q h r ra e q
  unfold oAppend at e
  split at e
  · rename_i d
    obtain ⟨hz, e⟩ := if_some e
    cases e
    cases ra with
    | cons a t =>
      cases t
      exact ⟨p, vs, _, rfl, rfl, h, by rw [r.length]; exact hz, q _ _ (r.append (.cons a .nil)) .non⟩
  · cases e
def oPop (ds as : List D) : Option (List D × D) := match as with
  | [] => (ds[ds.length - 1]?).map fun d => (ds.dropLast, d)
  | _ => none
theorem DrAll.dropLast {F : Hp} {vs : List V} {ds : List D} (r : DrAll K F vs ds) : DrAll K F vs.dropLast ds.dropLast := by
  rw [List.dropLast_eq_take, List.dropLast_eq_take, r.length]
  exact r.take _
theorem sm_pop : SM K rPop oPop := by
  intro F H p vs as ds da ds' z Q h r ra e q
  unfold oPop at e
  split at e
  · obtain ⟨d, e1, e2⟩ := Option.map_eq_some_iff.mp e
    cases e2
    cases ra
    obtain ⟨v, h1, h2⟩ := r.get e1
    exact ⟨p, vs, v, rfl, rfl, h, by rw [r.length]; exact h1, q _ _ r.dropLast h2⟩
  · cases e
def oPopAt (ds as : List D) : Option (List D × D) := match as with
  | [.int i] => if -(2 ^ 63) ≤ i ∧ i < 2 ^ 63 then (seqIndex? i ds.length).bind fun k => (ds[k]?).map fun d => (ds.eraseIdx k, d) else none
  | _ => none
theorem sm_popAt : SM K rPopAt oPopAt := by
  intro F H p vs as ds da ds' z Q h r ra e q
  unfold oPopAt at e
  split at e
  · rename_i i
    by_cases hz : -(2 ^ 63) ≤ i ∧ i < 2 ^ 63
    · rw [if_pos hz] at e
      obtain ⟨k, e0, e⟩ := Option.bind_eq_some_iff.mp e
      obtain ⟨d, e1, e2⟩ := Option.map_eq_some_iff.mp e
      cases e2
      cases ra with
      | cons a t =>
        cases t
        cases a
        obtain ⟨v, h1, h2⟩ := r.get e1
        exact ⟨p, vs, i, k, v, rfl, rfl, h, hz.1, hz.2, by rw [r.length]; exact e0, h1, q _ _ (r.eraseIdx k) h2⟩
    · rw [if_neg hz] at e; cases e
  · cases e
end
end DL


/-! D layer, 5: defs, their calls, the law's end. -/
namespace DL
open PySem PySem.Spec L2

inductive FAns where
  | ret (r : Rt) (ρ : Env)
  | exc (x : Exc) (ρ : Env)
  | bad
/-- the parameters' mutable objects at the end -/
def backE : Env → Env → Option Env
  | [], _ => some []
  | c :: r, c' :: r' => match c, c' with
    | some (.own _ _), some (.own false d) => (backE r r').map (some (.own false d) :: ·)
    | some (.own _ _), _ => none
    | _, _ => (backE r r').map (none :: ·)
  | _ :: _, [] => none
def outF (ρ : Env) : Out → FAns
  | .next ρ' => (match backE ρ ρ' with
    | some ρb => .ret (.dat .none) ρb
    | none => .bad)
  | .ret r ρ' => (match backE ρ ρ' with
    | some ρb => .ret r ρb
    | none => .bad)
  | .exc x ρ' => (match backE ρ ρ' with
    | some ρb => .exc x ρb
    | none => .bad)
  | _ => .bad
/-- a def of n names, its body's worth -/
def fnD (n : Nat) (ψ : DenS) : Env → FAns := fun ρ => outF ρ (ψ (ρ ++ List.replicate (n - ρ.length) none))
def noOwn (ρ : Env) : Prop := ∀ (i : Nat) (d : D), ρ[i]? ≠ some (some (.own true d))
/-- a def's promise -/
def spD (K : PySem.W.Frag) (np : Nat) (φ : Env → FAns) : Sp := fun vs H Q E => vs.length = np ∧ ∃ G F ρ, Sim K ⟨G, F, H, vs.map some⟩ F ρ (vs.map some) H ∧ noOwn ρ ∧
  match φ ρ with
  | .ret r ρb => ∀ F' v H', Same F F' → Sim K ⟨G, F, H, vs.map some⟩ F' ρb (vs.map some) H' → RtOk K ⟨G, F, H, vs.map some⟩ F' H' r v → Q v H'
  | .exc x ρb => ∀ F' H' cls d, Same F F' → Sim K ⟨G, F, H, vs.map some⟩ F' ρb (vs.map some) H' → ExcOk K F' H' x cls d → E cls d H'
  | .bad => False
/-- the def at f, called where at least k levels are free and nothing is being shown, keeps the promise of φ -/
structure FnG (P : Program) (w : World) (K : PySem.W.Frag) (mg : Str → Option Value) (base : Heap) (k : Nat) (f : Addr) (fd : FuncData) (ps : List Str) (φ : Env → FAns) : Prop where
  run : ∀ (A : Around) (outer : List PySem.Env) (s : Shared) (H : Hp) (ar : Args) (us : List Value) (vs : List V) (Q : VK) (E : XK), Room k A → A.guards = some [] → Env0 P w K mg base A outer s H → BindsTo s fd ar (ps.zip us) →
    Vals vs us → spD K ps.length φ vs H Q E → codeAny (model P w) A (.call (.ref f) ar) (CR (L2.CX P w) outer P w H s Q E) s
theorem FnG.mono {P : Program} {w : World} {K : PySem.W.Frag} {mg : Str → Option Value} {base : Heap} {j k : Nat} {f : Addr} {fd : FuncData} {ps : List Str} {φ : Env → FAns} (G : FnG P w K mg base j f fd ps φ) (h : j ≤ k) : FnG P w K mg base k f fd ps φ :=
  ⟨fun A outer s H ar us vs Q E hr hg e0 hb hv hs => G.run A outer s H ar us vs Q E (hr.mono h) hg e0 hb hv hs⟩

theorem backE_ok : ∀ {ρ0 ρ' ρb : Env}, backE ρ0 ρ' = some ρb → ρb.length = ρ0.length ∧ ∀ (i : Nat) (c : Cell), ρb[i]? = some (some c) → ∃ d, c = .own false d ∧ ρ'[i]? = some (some (.own false d))
  | [], _, _, h => by cases h; exact ⟨rfl, fun i c e => by simp at e⟩
  | _ :: _, [], _, h => by cases h
  | c0 :: r0, c1 :: r1, ρb, h => by
    have tail : ∀ (hd : Option Cell), (∀ c, hd = some c → ∃ d, c = .own false d ∧ c1 = some (.own false d)) → (backE r0 r1).map (hd :: ·) = some ρb →
        ρb.length = (c0 :: r0).length ∧ ∀ (i : Nat) (c : Cell), ρb[i]? = some (some c) → ∃ d, c = .own false d ∧ (c1 :: r1)[i]? = some (some (.own false d)) := fun hd hh e => by
      obtain ⟨t, e1, e2⟩ := Option.map_eq_some_iff.mp e
      subst e2
      obtain ⟨l, k⟩ := backE_ok e1
      refine ⟨by simp [l], fun i c ec => ?_⟩
      cases i with
      | zero =>
        simp only [List.getElem?_cons_zero, Option.some.injEq] at ec
        obtain ⟨d, a, b⟩ := hh c ec
        exact ⟨d, a, by simp [b]⟩
      | succ i =>
        simp only [List.getElem?_cons_succ] at ec ⊢
        exact k i c ec
    unfold backE at h
    split at h
    · rename_i d _
      exact tail _ (fun c e => ⟨_, (Option.some.inj e).symm, rfl⟩) h
    · cases h
    · exact tail none (fun c e => nomatch e) h
/-- at a def's end the parameters' objects stand -/
theorem Sim.back {N : List Str} {K : PySem.W.Frag} {G F0 H0 : Hp} {F : Hp} {ρ0 ρ' ρb : Env} {σ : St} {H : Hp} {vs : List V} (S : Sim K ⟨G, F0, H0, start N vs⟩ F ρ' σ H) (hl : vs.length = ρ0.length) (e : backE ρ0 ρ' = some ρb) (hN : vs.length ≤ N.length) :
    Sim K ⟨G, F0, H0, vs.map some⟩ F ρb (vs.map some) H := by
  obtain ⟨l, k⟩ := backE_ok e
  have at0 : ∀ (i : Nat) (v : V), (start N vs)[i]? = some (some v) → (vs.map some)[i]? = some (some v) := fun i v h => by
    unfold L2.start at h
    by_cases hi : i < vs.length
    · rw [List.getElem?_append_left (by simpa using hi)] at h
      exact h
    · rw [List.getElem?_append_right (by simpa using hi), List.getElem?_replicate] at h
      split at h <;> cases h
  exact {
    g := S.g, f := S.f, bf := S.bf, fr := S.fr, gr := S.gr
    len := by rw [List.length_map, l, hl]
    dat := fun i d h => by
      obtain ⟨_, z, _⟩ := k i _ h
      cases z
    mu := fun i o d h => by
      obtain ⟨d', z, e'⟩ := k i _ h
      cases z
      obtain ⟨p, c, h1, h2, h3, h4, h5, _, h6⟩ := S.mu i false d e'
      exact ⟨p, c, at0 i _ (h6 rfl), h2, h3, h4, h5, (fun z => nomatch z), fun _ => at0 i _ (h6 rfl)⟩
    apart := fun i j o o' d d' p a b a1 b1 => by
      obtain ⟨_, z1, e1⟩ := k i _ a
      obtain ⟨_, z2, e2⟩ := k j _ b
      cases z1
      cases z2
      obtain ⟨p1, _, g1, _, _, _, _, _, g2⟩ := S.mu i false _ e1
      obtain ⟨p2, _, g3, _, _, _, _, _, g4⟩ := S.mu j false _ e2
      have q1 := at0 i _ (g2 rfl)
      have q2 := at0 j _ (g4 rfl)
      rw [a1] at q1
      rw [b1] at q2
      cases q1
      cases q2
      exact S.apart i j false false _ _ p e1 e2 g1 g3 }
/-- at a def's entry -/
theorem Sim.enter {N : List Str} {K : PySem.W.Frag} {G F H : Hp} {ρ : Env} {vs : List V} (S : Sim K ⟨G, F, H, vs.map some⟩ F ρ (vs.map some) H) (no : noOwn ρ) (hN : vs.length ≤ N.length) :
    Sim K ⟨G, F, H, start N vs⟩ F (ρ ++ List.replicate (N.length - ρ.length) none) (start N vs) H := by
  have hl : vs.length = ρ.length := by have := S.len; rwa [List.length_map] at this
  have up : ∀ (i : Nat) (v : V), (vs.map some)[i]? = some (some v) → (start N vs)[i]? = some (some v) := fun i v h => by
    have hi : i < (vs.map some).length := (List.getElem?_eq_some_iff.mp h).1
    unfold L2.start
    rw [List.getElem?_append_left hi]
    exact h
  have dn : ∀ (i : Nat) (c : Cell), (ρ ++ List.replicate (N.length - ρ.length) none)[i]? = some (some c) → ρ[i]? = some (some c) := fun i c h => by
    by_cases hi : i < ρ.length
    · rw [List.getElem?_append_left hi] at h
      exact h
    · rw [List.getElem?_append_right (by omega), List.getElem?_replicate] at h
      split at h <;> cases h
  have lt : ∀ (i : Nat) (v : V) (c : Cell), ρ[i]? = some (some c) → (start N vs)[i]? = some (some v) → (vs.map some)[i]? = some (some v) := fun i v c hc h => by
    have hi : i < (vs.map some).length := by
      rw [List.length_map, hl]
      exact (List.getElem?_eq_some_iff.mp hc).1
    unfold L2.start at h
    rw [List.getElem?_append_left hi] at h
    exact h
  exact {
    g := S.g, f := S.f, bf := S.bf, fr := S.fr, gr := S.gr
    len := by
      unfold L2.start
      simp only [List.length_append, List.length_map, List.length_replicate]
      omega
    dat := fun i d h => by
      obtain ⟨v, h1, h2⟩ := S.dat i d (dn i _ h)
      exact ⟨v, up i v h1, h2⟩
    mu := fun i o d h => by
      have h' := dn i _ h
      obtain ⟨p, c, h1, h2, h3, h4, h5, h6, h7⟩ := S.mu i o d h'
      refine ⟨p, c, up i _ h1, h2, h3, h4, h5, fun z => ?_, fun z => up i _ (h7 z)⟩
      subst z
      exact absurd h' (no i d)
    apart := fun i j o o' d d' p a b a1 b1 => S.apart i j o o' d d' p (dn i _ a) (dn j _ b) (lt i _ _ (dn i _ a) a1) (lt j _ _ (dn j _ b) b1) }

section
variable {P : Program} {w : World} {K : PySem.W.Frag} {mg : Str → Option Value} {base : Heap}
theorem deeper_guards {A : Around} {env : PySem.Env} : (A.deeper env).guards = A.guards := rfl
/-- THE RULE of a def: its body is worth ψ -/
theorem fn_D {x qual : Str} {st : Stmt} {f : Addr} {fd : FuncData} {N ps : List Str} {k : Nat} {ψ : DenS} (T : Fun K x qual st f fd) (S : FnScope N ps (defScope st))
    (hb : ∀ (cdv : Value) (A : Around) (outer : List PySem.Env) (s : Shared) (H : Hp) (E : XK), Cok (cxOf (L2.CX P w) P w K mg base N qual (defScope st) f cdv A outer s H E) (fun cls d _ H' => E cls d H') k →
      DSs (cxOf (L2.CX P w) P w K mg base N qual (defScope st) f cdv A outer s H E) (fun cls d _ H' => E cls d H') (defBody st) ψ) :
    FnG P w K mg base (k + 1) f fd ps (fnD N.length ψ) := by
  obtain ⟨oc, od, kV, doc, pm, an, cdv, ct, osl, rfl, lk, hcd⟩ := T.ex
  refine ⟨fun A outer s H ar us vs Q E hr hg e0 hbind hv hsp => ?_⟩
  obtain ⟨hl, G, F, ρ, S0, no, hφ⟩ := hsp
  have kin : K.In s.heap := e0.mod.kin.keeps fun b o e => (e0.bs b o e).1
  have free : s.heap.NoLimit := e0.mod.nolimit.keeps fun b o e => (e0.bs b o e).1
  have kinds : ∀ y ∈ ps.zip us, (defScope st).names.lookup y.1 = some .local ∨ ((defScope st).names.lookup y.1 = some .cell ∧ ((cellsFrom (s.heap.objs.size + 1) (defScope st).names []).lookup y.1).isSome = true) := fun ⟨n, v⟩ hy => by
    rcases S.par n (List.of_mem_zip hy).1 with q | q
    · exact .inl q
    · exact .inr ⟨q, PySem.W.cellsFrom_some _ _ _ (.inl q)⟩
  refine codeAny_call_function hr.depth (kin _ _ lk) rfl S.co S.gen rfl (PySem.W.codeRec_of kin hcd) (hbind _ _ _ _ ?_)
  refine wpAny_newFunctionEnv_cells S.kind kinds fun env he s1 y => ?_
  subst he
  refine ⟨free.keeps y.toInCall.keep, codeAny_func ?_⟩
  -- the body's context
  have I := inv_start (CX := L2.CX P w) (E := E) S hr.hd e0 hl hv y
  have C : Cok (cxOf (L2.CX P w) P w K mg base N qual (defScope st) f cdv A outer s H E) (fun cls d _ H' => E cls d H') k := ⟨rfl, S.nd, passes_of rfl, hr.deeper _, hg, takes_of rfl rfl rfl rfl⟩
  have hpl : vs.length ≤ N.length := by
    have := congrArg List.length S.pre
    rw [List.length_take] at this
    omega
  have bd := hb _ _ _ _ _ _ C
  have hlen : vs.length = ρ.length := by have := S0.len; rwa [List.length_map] at this
  have S1 := S0.enter (N := N) no hpl
  -- what the body's end is to give
  have goal : tDS K (fun cls d _ H' => E cls d H') ψ { nx := fun _ H' => Q .non H', rt := Q } (start N vs) H := by
    refine ⟨_, F, _, S1, ?_⟩
    unfold fnD at hφ
    cases eo : ψ (ρ ++ List.replicate (N.length - ρ.length) none) with
    | next ρ' =>
      rw [eo] at hφ
      unfold outF at hφ
      simp only at hφ
      intro F' σ' H' s' S'
      cases eb : backE ρ ρ' with
      | none => rw [eb] at hφ; exact hφ.elim
      | some ρb =>
        rw [eb] at hφ
        exact hφ F' .non H' s' (S'.back hlen eb hpl) .non
    | ret r ρ' =>
      rw [eo] at hφ
      unfold outF at hφ
      simp only at hφ
      intro F' σ' v H' s' S' q
      cases eb : backE ρ ρ' with
      | none => rw [eb] at hφ; exact hφ.elim
      | some ρb =>
        rw [eb] at hφ
        refine hφ F' v H' s' (S'.back hlen eb hpl) ?_
        cases r with
        | dat d => exact q
        | own d => exact q
    | exc x ρ' =>
      rw [eo] at hφ
      unfold outF at hφ
      simp only at hφ
      intro F' σ' H' cls d s' S' q
      cases eb : backE ρ ρ' with
      | none => rw [eb] at hφ; exact hφ.elim
      | some ρb =>
        rw [eb] at hφ
        exact hφ F' H' cls d s' (S'.back hlen eb hpl) q
    | brk ρ' => rw [eo] at hφ; exact hφ.elim
    | cont ρ' => rw [eo] at hφ; exact hφ.elim
    | bad => rw [eo] at hφ; exact hφ.elim
  refine wpAny_mono (bd.run [] s1 (start N vs) H _ I goal) (fun fl s' hs => ?_) fun e s' hs => hs
  cases fl with
  | ret u =>
    obtain ⟨v, σ', H', J, rv, q⟩ := hs
    exact ⟨v, H', J.os, J.bare, J.base, J.hok, rv, q⟩
  | next =>
    obtain ⟨σ', H', J, q⟩ := hs
    exact ⟨V.non, H', J.os, J.bare, J.base, J.hok, rfl, q⟩
  | brk =>
    obtain ⟨_, _, _, q⟩ := hs
    exact q.elim
  | cont =>
    obtain ⟨_, _, _, q⟩ := hs
    exact q.elim
end

/-! ### a call of a def -/
def ats : List Rv → List Nat
  | [] => []
  | .dat _ :: rs => ats rs
  | .slot i :: rs => i :: ats rs
def passIn (ρ : Env) : List Rv → Option Env
  | [] => some []
  | .dat d :: rs => (passIn ρ rs).map (some (.dat d) :: ·)
  | .slot i :: rs => match ρ[i]? with
    | some (some (.own _ d)) => (passIn ρ rs).map (some (.own false d) :: ·)
    | _ => none
def backIn : List Rv → Env → Env → Option Env
  | [], _, ρ => some ρ
  | .dat _ :: rs, _ :: c, ρ => backIn rs c ρ
  | .slot i :: rs, some (.own _ d) :: c, ρ => (match ρ[i]? with
    | some (some (.own o _)) => backIn rs c (ρ.set i (some (.own o d)))
    | _ => none)
  | _, _, _ => none
/-- the callee's answer, and what its parameters' objects hold then -/
def callD (np : Nat) (φ : Env → FAns) (rs : List Rv) (ρ : Env) : Ans Rt := if rs.length = np ∧ (ats rs).Nodup then (match passIn ρ rs with
  | none => .bad
  | some ρc => (match φ ρc with
    | .ret r ρb => (match backIn rs ρb ρ with
      | some ρ' => .ok r ρ'
      | none => .bad)
    | .exc x ρb => (match backIn rs ρb ρ with
      | some ρ' => .exc x ρ'
      | none => .bad)
    | .bad => .bad)) else .bad
section
variable {K : PySem.W.Frag} {B : Base} {F : Hp} {ρ : Env} {σ : St} {H : Hp}
theorem ats_mem : ∀ {rs : List Rv} {i : Nat}, i ∈ ats rs → ∃ k : Nat, rs[k]? = some (.slot i)
  | [], _, h => by simp [ats] at h
  | .dat d :: rs, i, h => by
    obtain ⟨k, e⟩ := ats_mem (rs := rs) h
    exact ⟨k + 1, by simpa using e⟩
  | .slot j :: rs, i, h => by
    rcases List.mem_cons.mp h with e | h
    · exact ⟨0, by rw [e]; rfl⟩
    · obtain ⟨k, e⟩ := ats_mem (rs := rs) h
      exact ⟨k + 1, by simpa using e⟩
theorem mem_ats : ∀ {rs : List Rv} {i k : Nat}, rs[k]? = some (.slot i) → i ∈ ats rs
  | [], _, _, h => by simp at h
  | .dat d :: rs, i, 0, h => by simp at h
  | .dat d :: rs, i, k + 1, h => mem_ats (rs := rs) (k := k) (by simpa using h)
  | .slot j :: rs, i, 0, h => by
    have e : j = i := by simpa using h
    rw [e]
    exact List.mem_cons_self
  | .slot j :: rs, i, k + 1, h => List.mem_cons_of_mem _ (mem_ats (rs := rs) (k := k) (by simpa using h))
theorem ats_inj : ∀ {rs : List Rv} {i k l : Nat}, (ats rs).Nodup → rs[k]? = some (.slot i) → rs[l]? = some (.slot i) → k = l
  | [], _, _, _, _, h, _ => by simp at h
  | .dat d :: rs, i, 0, _, _, h, _ => by simp at h
  | .dat d :: rs, i, _ + 1, 0, _, _, h => by simp at h
  | .dat d :: rs, i, k + 1, l + 1, n, h, h' => congrArg (· + 1) (ats_inj (rs := rs) (k := k) (l := l) n (by simpa using h) (by simpa using h'))
  | .slot j :: rs, i, 0, 0, _, _, _ => rfl
  | .slot j :: rs, i, 0, l + 1, n, h, h' => by
    have e : j = i := by simpa using h
    exact absurd (mem_ats (rs := rs) (k := l) (by simpa [e] using h')) (List.nodup_cons.mp n).1
  | .slot j :: rs, i, k + 1, 0, n, h, h' => by
    have e : j = i := by simpa using h'
    exact absurd (mem_ats (rs := rs) (k := k) (by simpa [e] using h)) (List.nodup_cons.mp n).1
  | .slot j :: rs, i, k + 1, l + 1, n, h, h' => congrArg (· + 1) (ats_inj (rs := rs) (k := k) (l := l) (List.nodup_cons.mp n).2 (by simpa using h) (by simpa using h'))
theorem passIn_len : ∀ {rs : List Rv} {ρc : Env}, passIn ρ rs = some ρc → ρc.length = rs.length
  | [], _, h => by cases h; rfl
  | .dat d :: rs, _, h => by
    obtain ⟨t, e1, e2⟩ := Option.map_eq_some_iff.mp h
    subst e2
    simp [passIn_len e1]
  | .slot i :: rs, _, h => by
    unfold passIn at h
    split at h
    · obtain ⟨t, e1, e2⟩ := Option.map_eq_some_iff.mp h
      subst e2
      simp [passIn_len e1]
    · cases h
/-- what is handed in at place k -/
theorem passIn_at : ∀ {rs : List Rv} {ρc : Env} {k : Nat} {c : Cell}, passIn ρ rs = some ρc → ρc[k]? = some (some c) → (∃ d, rs[k]? = some (.dat d) ∧ c = .dat d) ∨ ∃ i o d, rs[k]? = some (.slot i) ∧ ρ[i]? = some (some (.own o d)) ∧ c = .own false d
  | [], _, _, _, h, e => by cases h; simp at e
  | .dat d :: rs, _, k, c, h, e => by
    obtain ⟨t, e1, e2⟩ := Option.map_eq_some_iff.mp h
    subst e2
    cases k with
    | zero =>
      have e' : Cell.dat d = c := by simpa using e
      exact .inl ⟨d, rfl, e'.symm⟩
    | succ k => simpa using passIn_at (k := k) e1 (by simpa using e)
  | .slot i :: rs, _, k, c, h, e => by
    unfold passIn at h
    split at h
    · rename_i o d ei
      obtain ⟨t, e1, e2⟩ := Option.map_eq_some_iff.mp h
      subst e2
      cases k with
      | zero =>
        have e' : Cell.own false d = c := by simpa using e
        exact .inr ⟨i, o, d, rfl, ei, e'.symm⟩
      | succ k => simpa using passIn_at (k := k) e1 (by simpa using e)
    · cases h
theorem RvsOk.len {rs : List Rv} {vs : List V} (q : RvsOk K F σ rs vs) : vs.length = rs.length := by
  induction q with
  | nil => rfl
  | cons a t ih => simp [ih]
theorem RvsOk.at : ∀ {rs : List Rv} {vs : List V} {k : Nat} {r : Rv}, RvsOk K F σ rs vs → rs[k]? = some r → ∃ v, vs[k]? = some v ∧ RvOk K F σ r v
  | _, _, _, _, .nil, e => by simp at e
  | _, _, 0, r, .cons a t, e => by simp at e; subst e; exact ⟨_, rfl, a⟩
  | _, _, k + 1, r, .cons a t, e => by
    obtain ⟨v, h1, h2⟩ := RvsOk.at (k := k) t (by simpa using e)
    exact ⟨v, by simpa using h1, h2⟩
def handed (σ : St) (rs : List Rv) (b : Addr) : Bool := (ats rs).any fun i => decide (σ[i]? = some (some (V.ref b)))
def keepG (σ : St) (rs : List Rv) (H : Hp) : Hp := fun b => if handed σ rs b = true then none else H b
theorem handed_of {rs : List Rv} {i : Nat} {p : Addr} (h : i ∈ ats rs) (e : σ[i]? = some (some (V.ref p))) : handed σ rs p = true :=
  List.any_eq_true.mpr ⟨i, h, by simp [e]⟩
theorem of_handed {rs : List Rv} {p : Addr} (h : handed σ rs p = true) : ∃ i ∈ ats rs, σ[i]? = some (some (V.ref p)) := by
  obtain ⟨i, h1, h2⟩ := List.any_eq_true.mp h
  exact ⟨i, h1, by simpa using h2⟩
theorem Sim.pass (S : Sim K B F ρ σ H) {rs : List Rv} {vs : List V} {ρc : Env} (q : RvsOk K F σ rs vs) (e : passIn ρ rs = some ρc) (nd : (ats rs).Nodup) :
    Sim K ⟨keepG σ rs H, F, H, vs.map some⟩ F ρc (vs.map some) H ∧ noOwn ρc := by
  have mapV : ∀ (k : Nat) (v : V), vs[k]? = some v → (vs.map some)[k]? = some (some v) := fun k v h => by rw [List.getElem?_map, h]; rfl
  refine ⟨{
    g := fun b o h => by
      have h' : (if handed σ rs b = true then none else H b) = some o := h
      split at h'
      · cases h'
      · exact h'
    f := S.f
    bf := Same.refl F
    fr := fun b h => .inl h
    gr := fun b h => h
    len := by rw [List.length_map, passIn_len e, q.len]
    dat := fun k d h => by
      rcases passIn_at e h with ⟨d', h1, h2⟩ | ⟨_, _, _, _, _, z⟩
      · cases h2
        obtain ⟨v, h3, h4⟩ := q.at h1
        exact ⟨v, mapV k v h3, h4⟩
      · cases z
    mu := fun k o d h => by
      rcases passIn_at e h with ⟨_, _, z⟩ | ⟨i, o', d', h1, h2, h3⟩
      · cases z
      · cases h3
        obtain ⟨v, h4, h5⟩ := q.at h1
        obtain ⟨p, c, a1, a2, a3, a4, a5, _⟩ := S.mu i o' _ h2
        have ev : σ[i]? = some (some v) := h5
        rw [a1] at ev
        cases ev
        refine ⟨p, c, mapV k _ h4, a2, a3, ?_, a5, (fun z => nomatch z), fun _ => mapV k _ h4⟩
        show keepG σ rs H p = none
        unfold keepG
        rw [if_pos (handed_of (mem_ats h1) a1)]
    apart := fun k l o o' d d' p a b a1 b1 => by
      rcases passIn_at e a with ⟨_, _, z⟩ | ⟨i, oi, di, h1, h2, h3⟩
      · cases z
      rcases passIn_at e b with ⟨_, _, z⟩ | ⟨j, oj, dj, g1, g2, g3⟩
      · cases z
      obtain ⟨v, h4, h5⟩ := q.at h1
      obtain ⟨v', g4, g5⟩ := q.at g1
      rw [mapV k v h4] at a1
      rw [mapV l v' g4] at b1
      cases a1
      cases b1
      have ij : i = j := S.apart i j oi oj di dj p h2 g2 h5 g5
      subst ij
      exact ats_inj nd h1 g1 }, fun k d h => ?_⟩
  rcases passIn_at e h with ⟨_, _, z⟩ | ⟨_, _, _, _, _, z⟩ <;> cases z
theorem backIn_ok : ∀ {rs : List Rv} {c ρ ρ' : Env}, backIn rs c ρ = some ρ' → (ats rs).Nodup → ρ'.length = ρ.length ∧ (∀ j : Nat, j ∉ ats rs → ρ'[j]? = ρ[j]?) ∧
    ∀ (k i : Nat), rs[k]? = some (.slot i) → ∃ o o' d0 d, ρ[i]? = some (some (.own o d0)) ∧ c[k]? = some (some (.own o' d)) ∧ ρ'[i]? = some (some (.own o d))
  | [], _, ρ, _, h, _ => by
    have e : ρ = _ := Option.some.inj h
    subst e
    exact ⟨rfl, fun _ _ => rfl, fun k i e => by simp at e⟩
  | .dat d :: rs, [], ρ, _, h, _ => by cases h
  | .dat d :: rs, c0 :: c, ρ, ρ', h, nd => by
    obtain ⟨l, a, b⟩ := backIn_ok (rs := rs) (c := c) (ρ := ρ) h nd
    refine ⟨l, a, fun k i e => ?_⟩
    cases k with
    | zero => simp at e
    | succ k => simpa using b k i (by simpa using e)
  | .slot i :: rs, [], ρ, _, h, _ => by cases h
  | .slot i :: rs, none :: c, ρ, _, h, _ => by cases h
  | .slot i :: rs, some (.dat _) :: c, ρ, _, h, _ => by cases h
  | .slot i :: rs, some (.own o1 d) :: c, ρ, ρ', h, nd => by
    unfold backIn at h
    split at h
    · rename_i o d0 ei
      have hi : i < ρ.length := (List.getElem?_eq_some_iff.mp ei).1
      obtain ⟨n1, n2⟩ := List.nodup_cons.mp nd
      obtain ⟨l, a, b⟩ := backIn_ok (rs := rs) (c := c) h n2
      refine ⟨by rw [l, List.length_set], fun j hj => ?_, fun k i' e => ?_⟩
      · obtain ⟨j1, j2⟩ := not_or.mp fun z => hj (List.mem_cons.mpr z)
        rw [a j j2, List.getElem?_set_ne (Ne.symm j1)]
      · cases k with
        | zero =>
          have ee : i = i' := by simpa using e
          subst ee
          exact ⟨o, o1, d0, d, ei, by simp, by rw [a i n1, List.getElem?_set_self hi]⟩
        | succ k =>
          have e' : rs[k]? = some (.slot i') := by simpa using e
          have ne : i' ≠ i := fun z => n1 (by rw [← z]; exact mem_ats e')
          obtain ⟨o2, o3, d1, d2, g1, g2, g3⟩ := b k i' e'
          rw [List.getElem?_set_ne (Ne.symm ne)] at g1
          exact ⟨o2, o3, d1, d2, g1, by simpa using g2, g3⟩
    · cases h
theorem Sim.after (S : Sim K B F ρ σ H) {rs : List Rv} {vs : List V} {ρb ρ' : Env} {F' H' : Hp} (q : RvsOk K F σ rs vs) (nd : (ats rs).Nodup) (s : Same F F')
    (S' : Sim K ⟨keepG σ rs H, F, H, vs.map some⟩ F' ρb (vs.map some) H') (e : backIn rs ρb ρ = some ρ') : Sim K B F' ρ' σ H' := by
  obtain ⟨l, a, b⟩ := backIn_ok e nd
  have mapV : ∀ (k : Nat) (v : V), vs[k]? = some v → (vs.map some)[k]? = some (some v) := fun k v h => by rw [List.getElem?_map, h]; rfl
  have cases' : ∀ (j : Nat) (o : Bool) (d : D), ρ'[j]? = some (some (.own o d)) → (∃ (k : Nat) (d0 : D) (o' : Bool), rs[k]? = some (.slot j) ∧ ρ[j]? = some (some (.own o d0)) ∧ ρb[k]? = some (some (.own o' d))) ∨ (j ∉ ats rs ∧ ρ[j]? = some (some (.own o d))) := fun j o d h => by
    by_cases hj : j ∈ ats rs
    · obtain ⟨k, hk⟩ := ats_mem hj
      obtain ⟨o1, o2, d0, d1, g1, g2, g3⟩ := b k j hk
      rw [g3] at h
      cases h
      exact .inl ⟨k, d0, o2, hk, g1, g2⟩
    · rw [a j hj] at h
      exact .inr ⟨hj, h⟩
  have any : ∀ (j : Nat) (o : Bool) (d : D), ρ'[j]? = some (some (.own o d)) → ∃ d0, ρ[j]? = some (some (.own o d0)) := fun j o d h => by
    rcases cases' j o d h with ⟨_, d0, _, _, g, _⟩ | ⟨_, g⟩
    · exact ⟨d0, g⟩
    · exact ⟨d, g⟩
  have nohand : ∀ (p : Addr), handed σ rs p = true → B.G p = none := fun p h => by
    obtain ⟨i, h1, h2⟩ := of_handed h
    obtain ⟨k, hk⟩ := ats_mem h1
    obtain ⟨o1, o2, d0, d1, g1, g2, g3⟩ := b k i hk
    obtain ⟨p', c, m1, m2, m3, m4, _⟩ := S.mu i o1 d0 g1
    rw [h2] at m1
    cases m1
    exact m4
  exact {
    g := fun p o h => by
      refine S'.g p o ?_
      show keepG σ rs H p = some o
      unfold keepG
      by_cases hp : handed σ rs p = true
      · rw [nohand p hp] at h
        cases h
      · rw [if_neg hp]
        exact S.g p o h
    f := S'.f
    bf := S.bf.trans s
    fr := fun p h => by
      rcases S'.fr p h with z | z
      · exact S.fr p z
      · refine .inr ?_
        cases e0 : B.H p with
        | none => rfl
        | some o => exact absurd z (S.gr p (by rw [e0]; simp))
    gr := fun p h => S'.gr p (S.gr p h)
    len := by rw [l]; exact S.len
    dat := fun j d h => by
      by_cases hj : j ∈ ats rs
      · obtain ⟨k, hk⟩ := ats_mem hj
        obtain ⟨_, _, _, _, _, _, g3⟩ := b k j hk
        rw [g3] at h
        cases h
      · rw [a j hj] at h
        obtain ⟨v, h1, h2⟩ := S.dat j d h
        exact ⟨v, h1, h2.up s⟩
    mu := fun j o d h => by
      rcases cases' j o d h with ⟨k, d0, o', hk, g1, g2⟩ | ⟨hj, g⟩
      · obtain ⟨p, c, m1, m2, m3, m4, m5, m6⟩ := S.mu j o d0 g1
        obtain ⟨v, h1, h2⟩ := q.at hk
        have ev : σ[j]? = some (some v) := h2
        rw [m1] at ev
        cases ev
        obtain ⟨p', c', n1, n2, n3, n4, n5, _⟩ := S'.mu k o' d g2
        rw [mapV k _ h1] at n1
        cases n1
        exact ⟨p, c', m1, n2, n3, m4, n5, m6⟩
      · obtain ⟨p, c, m1, m2, m3, m4, m5, m6⟩ := S.mu j o d g
        have hn : ¬ handed σ rs p = true := fun z => by
          obtain ⟨i, h1, h2⟩ := of_handed z
          obtain ⟨k, hk⟩ := ats_mem h1
          obtain ⟨o1, o2, d0, d1, g1, _, _⟩ := b k i hk
          have ij := S.apart i j o1 o d0 d p g1 g h2 m1
          exact hj (by rw [← ij]; exact h1)
        refine ⟨p, c, m1, S'.g p c ?_, m3.up s, m4, ?_, m6⟩
        · show keepG σ rs H p = some c
          unfold keepG
          rw [if_neg hn]
          exact m2
        · cases e0 : F' p with
          | none => rfl
          | some u =>
            rcases S'.fr p (by rw [e0]; simp) with z | z
            · exact absurd m5 z
            · have z' : H p = none := z
              rw [m2] at z'
              cases z'
    apart := fun i j o o' d d' p x y x1 y1 => by
      obtain ⟨d1, e1⟩ := any i o d x
      obtain ⟨d2, e2⟩ := any j o' d' y
      exact S.apart i j o o' d1 d2 p e1 e2 x1 y1 }
end

/-- the answer as data; as a new thing -/
def rtD (r : Rt) (ρ : Env) : Ans Rv := match r with
  | .dat d => .ok (.dat d) ρ
  | .own d => .ok (.dat d) ρ
def rtN (r : Rt) (ρ : Env) : Ans D := match r with
  | .dat _ => .bad
  | .own d => .ok d ρ
@[simp] theorem rtD_dat (d : D) (ρ : Env) : rtD (.dat d) ρ = .ok (.dat d) ρ := (rfl)
@[simp] theorem rtD_own (d : D) (ρ : Env) : rtD (.own d) ρ = .ok (.dat d) ρ := (rfl)
@[simp] theorem rtN_own (d : D) (ρ : Env) : rtN (.own d) ρ = .ok d ρ := (rfl)
def xFn (np : Nat) (φ : Env → FAns) (ψ : Den (List Rv)) : Den Rv := fun ρ => (ψ ρ).bind fun rs ρ1 => (callD np φ rs ρ1).bind rtD
def xFnN (np : Nat) (φ : Env → FAns) (ψ : Den (List Rv)) : Den D := fun ρ => (ψ ρ).bind fun rs ρ1 => (callD np φ rs ρ1).bind rtN
section
variable {X : Cx} {W : WX} {e : Expr} {es : List Expr} {p pos : Pos} {ψ : Den (List Rv)} {f : Addr} {fd : FuncData} {ps : List Str} {φ : Env → FAns} {x : Str} {j k : Nat}
theorem callD_sound {B : Base} {F : Hp} {ρ : Env} {σ : St} {H : Hp} {rs : List Rv} {vs : List V} (S : Sim X.K B F ρ σ H) (q : RvsOk X.K F σ rs vs) {P : Rt → Env → Prop} {E : Exc → Env → Prop} (h : Wp (callD ps.length φ rs ρ) P E) {Q : VK} {EE : XK}
    (hp : ∀ r ρ', P r ρ' → ∀ F' v H', Same F F' → Sim X.K B F' ρ' σ H' → RtOk X.K B F' H' r v → (∀ (i : Nat) (ow : Bool) (d : D) (pp : Addr), v = .ref pp → F' pp = none → H pp = none → ρ'[i]? = some (some (.own ow d)) → σ[i]? ≠ some (some (.ref pp))) → (∀ pp, v = .ref pp → (∃ d, r = .own d) → H pp = none) → Q v H')
    (he : ∀ x ρ', E x ρ' → ∀ F' H' cls d, Same F F' → Sim X.K B F' ρ' σ H' → ExcOk X.K F' H' x cls d → EE cls d H') : spD X.K ps.length φ vs H Q EE := by
  unfold callD at h
  by_cases nn : rs.length = ps.length ∧ (ats rs).Nodup
  · rw [if_pos nn] at h
    obtain ⟨hn, nd⟩ := nn
    cases e1 : passIn ρ rs with
    | none => rw [e1] at h; exact h.elim
    | some ρc =>
      rw [e1] at h
      simp only at h
      obtain ⟨Sc, no⟩ := S.pass q e1 nd
      refine ⟨by rw [q.len]; exact hn, _, F, ρc, Sc, no, ?_⟩
      cases e2 : φ ρc with
      | bad => rw [e2] at h; exact h.elim
      | ret r ρb =>
        rw [e2] at h
        simp only at h ⊢
        intro F' v H' s' S' rt
        cases e3 : backIn rs ρb ρ with
        | none => rw [e3] at h; exact h.elim
        | some ρ' =>
          rw [e3] at h
          have Sa := S.after q nd s' S' e3
          refine hp r ρ' h F' v H' s' Sa ?_ (fun i ow d pp ev f0 h0 ei z => ?_) fun pp ev er => ?_
          · cases r with
            | dat d => exact rt
            | own d =>
              obtain ⟨pp, c, r1, r2, r3, r4, r5, r6⟩ := rt
              have r6' : H pp = none := r6
              obtain ⟨g0, _, h0⟩ := S.free r6'
              exact ⟨pp, c, r1, r2, r3, r4, g0, h0⟩
          · have any : ∃ d0, ρ[i]? = some (some (.own ow d0)) := by
              obtain ⟨l, a, b⟩ := backIn_ok e3 nd
              by_cases hi : i ∈ ats rs
              · obtain ⟨kk, hk⟩ := ats_mem hi
                obtain ⟨o1, o2, d0, d1, g1, _, g3⟩ := b kk i hk
                rw [g3] at ei
                cases ei
                exact ⟨d0, g1⟩
              · rw [a i hi] at ei
                exact ⟨d, ei⟩
            obtain ⟨d0, e4⟩ := any
            obtain ⟨p', c, m1, m2, _⟩ := S.mu i ow d0 e4
            rw [z] at m1
            cases m1
            rw [h0] at m2
            cases m2
          · obtain ⟨d, rfl⟩ := er
            obtain ⟨p', c, r1, _, _, _, _, r6⟩ := rt
            rw [ev] at r1
            cases r1
            exact r6
      | exc x ρb =>
        rw [e2] at h
        simp only at h ⊢
        intro F' H' cls d s' S' ex
        cases e3 : backIn rs ρb ρ with
        | none => rw [e3] at h; exact h.elim
        | some ρ' =>
          rw [e3] at h
          exact he x ρ' h F' H' cls d s' (S.after q nd s' S' e3) ex
  · rw [if_neg nn] at h
    exact h.elim
/-- the callee runs -/
theorem run_G {pins : List (Addr × Obj)} {σ : St} {H : Hp} {s : Shared} {Q : VK} {us : List Value} {vs : List V} (G : FnG X.prog X.w X.K X.mg X.base j f fd ps φ) (C : Cok X W k) (hj : j ≤ k) (hb : Binds X.K fd ps []) (I : L2.Inv X pins σ H s) (r : Vals vs us)
    (h : spD X.K ps.length φ vs H Q fun cls d H' => W cls d σ H') : wpAny (model X.prog X.w) X.A (call (.ref f) us) (EP X pins σ Q) X.xe s := by
  have hl : us.length = ps.length := by rw [← r.length]; exact h.1
  have b := hb s us I.kIn (by rw [List.append_nil]; exact hl)
  rw [List.append_nil] at b
  refine wpAny_call (codeAny_mono (G.run X.A X.stack s H ⟨us, []⟩ us vs Q _ (C.rm.mono hj) C.gd I.env0 b r h) fun res s' hq => ?_)
  match res, hq with
  | .error err, hq => exact passAt C.tk σ pins H s err s' I hq
  | .ok (.ret u), hq => exact I.after hq
  | .ok .next, hq => exact hq.elim
  | .ok .brk, hq => exact hq.elim
  | .ok .cont, hq => exact hq.elim

theorem de_fn (G : FnG X.prog X.w X.K X.mg X.base j f fd ps φ) (C : Cok X W k) (hj : j ≤ k) (hg : Gl X x) (hm : X.mg x = some (.ref f)) (hk : PySem.W.keepIn X.K (.ref f) = true) (hb : Binds X.K fd ps []) (ha : DA X W (e :: es) ψ)
    (hdb : (x == ("__debug__" : Str)) = false := by decide) (he : starEach (e :: es) X.env = (false, eval e X.env) :: starEach es X.env := by rfl) (hpl : (backTo pos (starEach es X.env)).any (·.1) = false := by rfl) :
    DE X W (.Call (.Name x p) (e :: es) [] pos) (xFn ps.length φ ψ) := by
  refine ⟨fun pins s σ H Q I hq => wpAny_Call_Name_kw (ld_glob I hg hm ?_ hdb)⟩
  refine PySem.W.callWith_K (h₀ := X.base) I.ok.mod.kin hk (thn (ha.run pos pins s σ H (fun vs H1 => spD X.K ps.length φ vs H1 Q fun cls d H' => W cls d σ H') I ?_) fun us s1 ⟨vs, H1, I1, r, q⟩ => ⟨I1.kIn, run_G G C hj hb I1 r q⟩) he hpl
  obtain ⟨B, F, ρ, S, w⟩ := hq
  refine ⟨B, F, ρ, S, wp_mono (wp_bind w) (fun rs ρ1 w1 F1 vs H1 s1 S1 q1 => ?_) fun _ _ z => z⟩
  refine callD_sound S1 q1 (wp_bind w1) (fun r ρ2 w2 F2 v H2 s2 S2 rt hs hnew => ?_) fun x ρ2 w2 F2 H2 cls d s2 S2 ex => w2 F2 H2 cls d (s1.trans s2) S2 ex
  cases r with
  | dat d => exact w2 F2 v H2 (s1.trans s2) S2 rt
  | own d =>
    obtain ⟨pp, c, rfl, r2, r3, r4, r5, r6⟩ := rt
    have so : Same F2 (upd F2 pp c) := same_upd r4
    have hn := hnew pp rfl ⟨d, rfl⟩
    exact w2 (upd F2 pp c) _ H2 ((s1.trans s2).trans so) (S2.frozen r2 r4 r6 fun i ow d' ei => hs i ow d' pp rfl r4 hn ei) (r3.dr so upd_same)
theorem dn_fn (G : FnG X.prog X.w X.K X.mg X.base j f fd ps φ) (C : Cok X W k) (hj : j ≤ k) (hg : Gl X x) (hm : X.mg x = some (.ref f)) (hk : PySem.W.keepIn X.K (.ref f) = true) (hb : Binds X.K fd ps []) (ha : DA X W (e :: es) ψ)
    (hdb : (x == ("__debug__" : Str)) = false := by decide) (he : starEach (e :: es) X.env = (false, eval e X.env) :: starEach es X.env := by rfl) (hpl : (backTo pos (starEach es X.env)).any (·.1) = false := by rfl) :
    DN X W (.Call (.Name x p) (e :: es) [] pos) (xFnN ps.length φ ψ) := by
  refine ⟨fun pins s σ H Q I hq => wpAny_Call_Name_kw (ld_glob I hg hm ?_ hdb)⟩
  refine PySem.W.callWith_K (h₀ := X.base) I.ok.mod.kin hk (thn (ha.run pos pins s σ H (fun vs H1 => spD X.K ps.length φ vs H1 Q fun cls d H' => W cls d σ H') I ?_) fun us s1 ⟨vs, H1, I1, r, q⟩ => ⟨I1.kIn, run_G G C hj hb I1 r q⟩) he hpl
  obtain ⟨B, F, ρ, S, w⟩ := hq
  refine ⟨B, F, ρ, S, wp_mono (wp_bind w) (fun rs ρ1 w1 F1 vs H1 s1 S1 q1 => ?_) fun _ _ z => z⟩
  refine callD_sound S1 q1 (wp_bind w1) (fun r ρ2 w2 F2 v H2 s2 S2 rt hs hnew => ?_) fun x ρ2 w2 F2 H2 cls d s2 S2 ex => w2 F2 H2 cls d (s1.trans s2) S2 ex
  cases r with
  | dat d => exact w2.elim
  | own d =>
    obtain ⟨pp, c, rfl, r2, r3, r4, r5, r6⟩ := rt
    have hn := hnew pp rfl ⟨d, rfl⟩
    exact w2 F2 pp H2 (s1.trans s2) S2 ⟨⟨c, r2, r3⟩, r4, r5, r6, fun i ow d' ei => hs i ow d' pp rfl r4 hn ei⟩
/-- a call without arguments -/
theorem de_fn0 (G : FnG X.prog X.w X.K X.mg X.base j f fd [] φ) (C : Cok X W k) (hj : j ≤ k) (hg : Gl X x) (hm : X.mg x = some (.ref f)) (hk : PySem.W.keepIn X.K (.ref f) = true) (hb : Binds X.K fd [] [])
    (hdb : (x == ("__debug__" : Str)) = false := by decide) : DE X W (.Call (.Name x p) [] [] pos) (xFn 0 φ xNil) := by
  refine ⟨fun pins s σ H Q I hq => wpAny_Call_Name_kw (ld_glob I hg hm ?_ hdb)⟩
  refine PySem.W.callWith_K0 I.kIn hk (run_G (us := []) G C hj hb I .nil ?_)
  obtain ⟨B, F, ρ, S, w⟩ := hq
  have w1 := wp_bind w
  refine callD_sound S (RvsOk.nil) (ps := []) (wp_bind w1) (fun r ρ2 w2 F2 v H2 s2 S2 rt hs hnew => ?_) fun x ρ2 w2 F2 H2 cls d s2 S2 ex => w2 F2 H2 cls d s2 S2 ex
  cases r with
  | dat d => exact w2 F2 v H2 s2 S2 rt
  | own d =>
    obtain ⟨pp, c, rfl, r2, r3, r4, r5, r6⟩ := rt
    have so : Same F2 (upd F2 pp c) := same_upd r4
    have hn := hnew pp rfl ⟨d, rfl⟩
    exact w2 (upd F2 pp c) _ H2 (s2.trans so) (S2.frozen r2 r4 r6 fun i ow d' ei => hs i ow d' pp rfl r4 hn ei) (r3.dr so upd_same)
end

/-! ### the law's end -/
section
open PySem.W PyProof.Rows
theorem law_core {P : Program} {w : World} {K : PySem.W.Frag} {mg mb : Str → Option Value} {k : Nat} {fa a : Addr} {fd : FuncData} {x : Str} {φ : DL.Env → FAns} {t : Shared} {vs : List Value} {ns : List Int} {H : Hp}
    (kin : K.In t.heap) (nsG : t.heap.Ns mainGlobals mg) (nsB : t.heap.Ns builtinsNs mb) (hbb : ∀ x : Str, x ≠ "__name__" → mb x = bootBuiltins x) (free : t.heap.NoLimit) (nog : t.gens = #[])
    (oa : t.heap.get? a = some { cls := .type "list", data := .seq vs.toArray }) (room : Room k callerA)
    (G : ∀ base : Heap, K.In base → base.Ns mainGlobals mg → FnG P w K mg base k fa fd [x] φ) (bind : ∀ (s : Shared) (u : Value), BindsTo s fd ⟨[u], []⟩ [(x, u)])
    (good : ∃ ρb, φ [some (.dat (.list (ns.map .int)))] = .ret (.dat (.bool true)) ρb)
    (seq : SqL K H a (ns.map V.int)) (hok : HOk P w H t.heap) (only : ∀ b u, H b = some u → b = a ∧ ∃ o xs, u = .frz o (.lst xs)) (apart : H a ≠ none → K.lookup a = none) :
    codeAny (model P w) callerA (.call (.ref fa) ⟨[.ref a], []⟩) (fun r s' => r = .ok (.ret (.bool true)) ∧ OldK t.heap s'.heap ∧ s'.os = t.os ∧ AllBare s'.gens) t := by
  have bare : ∀ {b : Addr} {o : Obj}, t.heap.get? b = some o → (∀ v n, o.data ≠ .seq v n) → H b = none := fun {b o} e hd => by
    cases q : H b with
    | none => rfl
    | some u =>
      obtain ⟨rfl, _⟩ := only b u q
      rw [oa] at e
      cases e
      exact absurd rfl (hd _ _)
  have keepNs : ∀ {b : Addr} {m : Str → Option Value}, t.heap.Ns b m → (hidT t.heap H).Ns b m := fun {b m} ⟨o, es, ep, e, d, r⟩ => ⟨o, es, ep, hidT_get e (bare e fun v n z => by rw [d] at z; cases z), d, r⟩
  have kinB : K.In (hidT t.heap H) := fun b o e => by
    refine hidT_get (kin b o e) ?_
    cases q : H b with
    | none => rfl
    | some u =>
      obtain ⟨rfl, _⟩ := only b u q
      rw [apart (by rw [q]; simp)] at e
      cases e
  obtain ⟨mc, f1, f2⟩ := free
  have M : Mod K mg (hidT t.heap H) := ⟨kinB, keepNs nsG, ⟨mb, keepNs nsB, hbb⟩, ⟨mc, keepNs f1, f2⟩⟩
  have e0 : Env0 P w K mg (hidT t.heap H) callerA [] t H := ⟨rfl, M, fun b o e => of_hidT e, Nat.le_of_eq (hidT_size _ _), trivial, fun b hb => by simp [frs] at hb, hok, .of_eq nog⟩
  obtain ⟨ρb, eφ⟩ := good
  have S : Sim K ⟨fun _ => none, H, H, [some (V.ref a)]⟩ H [some (.dat (.list (ns.map .int)))] [some (V.ref a)] H := {
    g := fun b o z => nomatch z
    f := Same.refl H
    bf := Same.refl H
    fr := fun b z => .inl z
    gr := fun b z => z
    len := (rfl)
    dat := fun i d z => by
      cases i with
      | zero =>
        have e : PyData.list (ns.map .int) = d := by simpa using z
        subst e
        exact ⟨_, rfl, .lst seq (DrAll.ints ns)⟩
      | succ i => simp at z
    mu := fun i o d z => by cases i <;> simp at z
    apart := fun i j o o' d d' p z => by cases i <;> simp at z }
  have sp : spD K 1 φ [V.ref a] H (fun v _ => v = .bl true) fun _ _ _ => False := by
    refine ⟨rfl, _, H, _, S, fun i d z => by cases i <;> simp at z, ?_⟩
    rw [eφ]
    intro F' v H' _ _ q
    have q' : Dr K F' v (.bool true) := q
    cases q'
    rfl
  refine codeAny_mono ((G _ kinB (keepNs nsG)).run callerA [] t H ⟨[.ref a], []⟩ [.ref a] [.ref a] _ _ room rfl e0 (bind t (.ref a)) (.cons rfl .nil) sp) fun r s' h => ?_
  match r, h with
  | .error e, h =>
    obtain ⟨_, _, _, _, _, _, _, _, _, _, _, _, z⟩ := h
    exact z.elim
  | .ok .next, h => exact h.elim
  | .ok .brk, h => exact h.elim
  | .ok .cont, h => exact h.elim
  | .ok (.ret u), h =>
    obtain ⟨v, H', os, ab, un, hok', rv, q⟩ := h
    have q' : v = .bl true := q
    subst q'
    obtain rfl : u = Value.bool true := rv
    refine ⟨rfl, OldK.of_keep fun b o e => ?_, os, ab⟩
    cases q : H b with
    | none => exact un.keep b o e q (by simp [frs]) (by simp)
    | some u =>
      obtain ⟨_, oo, xs, rfl⟩ := only b u q
      obtain ⟨g1, _⟩ := hok b _ q
      obtain ⟨g2, _⟩ := hok' b _ (un.frzs b oo _ q)
      rw [e] at g1
      cases g1
      exact g2
/-- the goal behind k_head, from the law's denotation -/
theorem law_walk {l : PySem.W.OpenLaw} {n k : Nat} {q : Program} {loose : List Str} {XP : (Str → Option Value) → Heap → Prop} {YP : World → Heap → Prop} {d : DefRec} {K : Params → PySem.W.Frag} {x : Str} {φ : DL.Env → FAns}
    (hn : l.most = some n) (hn2 : n ≤ sizeLine) (hdf : d.params.defaults = []) (room : Room k callerA) (hY : ∀ (w : World) (h : Heap), YP w h → (K w.params).In h)
    (F : ∀ (w : World) (mg : Str → Option Value) (fa : Addr) (h : Heap), (K w.params).In h → h.Ns mainGlobals mg → mg d.name = some (.ref fa) →
      ∃ fd : FuncData, (∀ (s : Shared) (u : Value), BindsTo s fd ⟨[u], []⟩ [(x, u)]) ∧ ∀ base : Heap, (K w.params).In base → base.Ns mainGlobals mg → FnG l.prog w (K w.params) mg base k fa fd [x] φ)
    (good : ∀ ns : List Int, ns.length ≤ n → ∃ ρb, φ [some (.dat (.list (ns.map .int)))] = .ret (.dat (.bool true)) ρb) :
    PySem.W.WalkO q loose XP YP l.row.toRowW d [] (fun f vs => PySem.call f vs) := by
  refine Att.attach_call hn hdf fun w s₀ t mg mb fa o pm cd doc a vs ns GG Y ho hd hcd hmg hobj hints hlen hg => ?_
  have kin := hY w _ Y
  obtain ⟨fd, hb, hF⟩ := F w mg fa _ kin GG.T.g hmg
  have rv := vals_ints hints
  have len : ns.length ≤ sizeLine := Nat.le_trans hlen hn2
  cases e : (K w.params).lookup a with
  | some oo =>
    have eo := kin a oo e
    rw [hobj] at eo
    cases eo
    refine law_core (H := fun _ => none) kin GG.T.g GG.T.b GG.T.builtins GG.T.nolimit hg hobj room hF hb (good ns hlen) (.inr ⟨_, vs.toArray, _, e, rfl, rfl, rfl, ?_, by simpa using rv⟩) (fun b u z => nomatch z) (fun b u z => nomatch z) fun z => absurd rfl z
    have := rv.length
    simp at this
    simp
    omega
  | none =>
    refine law_core (H := upd (fun _ => none) a (.frz { cls := .type "list", data := .seq vs.toArray } (.lst (ns.map V.int)))) kin GG.T.g GG.T.b GG.T.builtins GG.T.nolimit hg hobj room hF hb (good ns hlen) (.inl (.inr ⟨_, upd_same⟩)) (fun b u z => ?_) (fun b u z => ?_) fun _ => e
    · by_cases hba : b = a
      · subst hba
        rw [upd_same] at z
        cases z
        exact ⟨hobj, by rw [List.length_map]; exact len, vs, _, rv, hobj⟩
      · rw [upd_ne hba] at z
        cases z
    · by_cases hba : b = a
      · subst hba
        rw [upd_same] at z
        cases z
        exact ⟨rfl, _, _, rfl⟩
      · rw [upd_ne hba] at z
        cases z
end
end DL


/-! D layer, 6: texts, enumerate, zip walked; comprehensions. -/
namespace DL
open PySem PySem.Spec L2

/-! ### a walk that gives new tuples -/
def Jr (K : PySem.W.Frag) (F : Hp) (rows : List (List D)) : It :=
  ⟨fun i H => i < rows.length ∧ Same F H, fun i H x H' => ∃ T xs ds, x = .ref T ∧ H T = none ∧ H' = upd H T (.tup xs) ∧ rows[i]? = some ds ∧ DrAll K F xs ds, fun i H => i = rows.length ∧ Same F H⟩
structure Rows (P : Program) (w : World) (K : PySem.W.Frag) (tg : Expr) (F : Hp) (rows : List (List D)) (e : Addr) (fp : List Addr) (tn : Nat → Heap → Prop) : Prop where
  mem : e ∈ fp
  obj : ∀ i h, tn i h → ∀ b ∈ fp, ∃ o, h.get? b = some o ∧ ∀ v, o.data ≠ .cell v
  keep : ∀ i h h', tn i h → (∀ b ∈ fp, ∀ o, h.get? b = some o → h'.get? b = some o) → tn i h'
  short : ∀ ds ∈ rows, ds.length ≤ sizeLine
  run : ∀ (X : Cx), X.prog = P → X.w = w → X.K = K → X.calm = true → ∀ (i : Nat) (pins : List (Addr × Obj)) (s : Shared) (σ : St) (H : Hp), L2.Inv X pins σ H s → Same F H → (∀ b ∈ fp, H b = none) → tn i s.heap →
    ∃ (fp' wr : List Addr) (Y : Nat → Heap → Value → Heap → Prop) (St : Nat → Heap → Prop), GoesN P w X.A tg e fp' wr rows.length Y St ∧ St i s.heap ∧ (∀ b ∈ wr, b ∈ fp) ∧ (∀ h, St (i + 1) h → tn (i + 1) h) ∧
      ∀ h₀ v h', i < rows.length → Y i h₀ v h' → ∃ (T : Addr) (xs : List V) (us : List Value) (ds : List D), v = .ref T ∧ h₀.objs.size ≤ T ∧ Vals xs us ∧ h'.IsTuple T us.toArray ∧ rows[i]? = some ds ∧ DrAll K F xs ds
  self : ∀ (A : Around) (i : Nat) (s : Shared) (Q : Value → Shared → Prop) (E : Value → Shared → Prop), tn i s.heap → Q (.ref e) s → wpAny (model P w) A (pyIter (.ref e)) Q E s
theorem turn_rows {P : Program} {w : World} {K : PySem.W.Frag} {tg : Expr} {F : Hp} {rows : List (List D)} {e : Addr} {fp : List Addr} {tn : Nat → Heap → Prop} (R : Rows P w K tg F rows e fp tn) : Turn P w K tg (Jr K F rows) fp e tn where
  mem := R.mem
  obj := R.obj
  keep := R.keep
  self := R.self
  item := by
    intro X hP hw hK hc i pins s σ H E I hf st hg
    obtain ⟨hi, sf⟩ := hg
    obtain ⟨fp', wr, Y, St, G, st0, hwr, hst, hY⟩ := R.run X hP hw hK hc i pins s σ H I sf (fun b hb => (hf b hb).1) st
    subst hP hw hK
    refine G.goes i s _ E hi st0 fun v h' tk y st1 k _ => ?_
    obtain ⟨T, xs, us, ds, rfl, hT, rv, tup, er, dr⟩ := hY _ _ _ hi y
    have hz : xs.length ≤ sizeLine := by rw [dr.length]; exact R.short ds (List.mem_of_getElem? er)
    have nT : H T = none := I.hok.fresh hT
    have I1 := I.turnedNew (t' := tk) (h' := h') (ch := fp) (ob := .tup xs) (fun b o hb q => k b o (fun z => hb (hwr b z)) q) hf hT ⟨hz, us, rv, tup⟩
    refine ⟨.ref T, _, I1, rfl, ⟨T, xs, ds, rfl, nT, rfl, er, dr⟩, hst _ st1, fun b hb => ?_⟩
    rw [upd_ne]
    · exact (hf b hb).1
    · rintro rfl
      obtain ⟨o, ho, _⟩ := R.obj i _ st b hb
      exact absurd (Nat.lt_of_lt_of_le (Heap.lt_size ho) hT) (Nat.lt_irrefl _)
  done := by
    intro X hP hw hK hc i pins s σ H E I hf st hg
    obtain ⟨rfl, sf⟩ := hg
    obtain ⟨fp', wr, Y, St, G, st0, hwr, hst, hY⟩ := R.run X hP hw hK hc _ pins s σ H I sf (fun b hb => (hf b hb).1) st
    subst hP hw hK
    refine wpAny_mono (G.stops s (fun s1 => L2.Inv X pins σ H s1) E st0 fun h' tk k _ => ?_) (fun _ _ z => z) fun _ _ z => z
    exact I.turnedL (t' := tk) (ch := fp) (fun b o hb q => k b o (fun z => hb (hwr b z)) q) hf
theorem jr_ok {K : PySem.W.Frag} {F : Hp} {rows : List (List D)} : ItOk K F (Jr K F rows) (rows.map .tuple) := by
  refine ⟨fun i d B F1 ρ σ H s1 S e => ?_, fun H f => ⟨by rw [List.length_map], f⟩⟩
  rw [List.getElem?_map] at e
  obtain ⟨ds, e1, e2⟩ := Option.map_eq_some_iff.mp e
  subst e2
  refine ⟨⟨(List.getElem?_eq_some_iff.mp e1).1, s1.trans S.f⟩, fun x H' y => ?_⟩
  obtain ⟨T, xs, ds', rfl, nT, rfl, er, dr⟩ := y
  rw [e1] at er
  cases er
  obtain ⟨S', s'⟩ := S.made (o := .tup xs) nT
  exact ⟨_, s', S', .tup (SqT.of upd_same) ((dr.up s1).up s')⟩

/-! ### what can be walked by values: a list, a tuple, a text -/
inductive SrcV (K : PySem.W.Frag) (F : Hp) : V → List D → Prop where
  | lst {a : Addr} {vs : List V} {ds : List D} (q : SqL K F a vs) (r : DrAll K F vs ds) : SrcV K F (.ref a) ds
  | tup {a : Addr} {vs : List V} {ds : List D} (q : SqT K F a vs) (r : DrAll K F vs ds) : SrcV K F (.ref a) ds
  | str (z : Str) : SrcV K F (.str z) (z.cps.toList.map fun c => .str ⟨#[c]⟩)
/-- the iterator's own record over a source -/
inductive SrcT (K : PySem.W.Frag) (F : Hp) (ds : List D) (it : Addr) : (Nat → Heap → Prop) → Prop where
  | lst {a : Addr} {vs : List V} (q : SqL K F a vs) (r : DrAll K F vs ds) : SrcT K F ds it (fun i h => h.IsListIter it a i)
  | tup {a : Addr} {vs : List V} (q : SqT K F a vs) (r : DrAll K F vs ds) : SrcT K F ds it (fun i h => h.IsTupleIter it a i)
  | str (z : Str) (t : Tok) (ty : String) (h : ty = "str_ascii_iterator" ∨ ty = "str_iterator") (e : ds = z.cps.toList.map fun c => .str ⟨#[c]⟩) : SrcT K F ds it (fun i h => h.IsStrIter it ty z t i)
theorem SrcT.obj {K : PySem.W.Frag} {F : Hp} {ds : List D} {it : Addr} {tn : Nat → Heap → Prop} (S : SrcT K F ds it tn) {i : Nat} {h : Heap} (st : tn i h) : ∃ o, h.get? it = some o ∧ ∀ v, o.data ≠ .cell v := by
  cases S with
  | lst q r => obtain ⟨o, ho, hc, hd⟩ := st; exact ⟨o, ho, fun v z => by rw [hd] at z; cases z⟩
  | tup q r => obtain ⟨o, ho, hc, hd⟩ := st; exact ⟨o, ho, fun v z => by rw [hd] at z; cases z⟩
  | str z t ty h e => obtain ⟨o, ho, hc, hd⟩ := st; exact ⟨o, ho, fun v z => by rw [hd] at z; cases z⟩
theorem SrcT.cls {K : PySem.W.Frag} {F : Hp} {ds : List D} {it : Addr} {tn : Nat → Heap → Prop} (S : SrcT K F ds it tn) {i : Nat} {h : Heap} (st : tn i h) : ∃ o, h.get? it = some o ∧ o.cls ≠ .type "list" ∧ o.cls ≠ .type "tuple" := by
  cases S with
  | lst q r => obtain ⟨o, ho, hc, hd⟩ := st; exact ⟨o, ho, by rw [hc]; decide, by rw [hc]; decide⟩
  | tup q r => obtain ⟨o, ho, hc, hd⟩ := st; exact ⟨o, ho, by rw [hc]; decide, by rw [hc]; decide⟩
  | str z t ty h e =>
    obtain ⟨o, ho, hc, hd⟩ := st
    rcases h with rfl | rfl
    · exact ⟨o, ho, by rw [hc]; decide, by rw [hc]; decide⟩
    · exact ⟨o, ho, by rw [hc]; decide, by rw [hc]; decide⟩
theorem SrcT.keep {K : PySem.W.Frag} {F : Hp} {ds : List D} {it : Addr} {tn : Nat → Heap → Prop} (S : SrcT K F ds it tn) {i : Nat} {h h' : Heap} (st : tn i h) (k : ∀ o, h.get? it = some o → h'.get? it = some o) : tn i h' := by
  cases S with
  | lst q r => obtain ⟨o, ho, hc, hd⟩ := st; exact ⟨o, k o ho, hc, hd⟩
  | tup q r => obtain ⟨o, ho, hc, hd⟩ := st; exact ⟨o, k o ho, hc, hd⟩
  | str z t ty h e => obtain ⟨o, ho, hc, hd⟩ := st; exact ⟨o, k o ho, hc, hd⟩
/-- what a source's iterator draws -/
theorem SrcT.draws {K : PySem.W.Frag} {F : Hp} {ds : List D} {it : Addr} {tn : Nat → Heap → Prop} (S : SrcT K F ds it tn) {X : Cx} (hK : X.K = K) {pins : List (Addr × Obj)} {s : Shared} {σ : St} {H : Hp} {i : Nat} (I : L2.Inv X pins σ H s) (sf : Same F H) (hn : H it = none) (st : tn i s.heap) :
    ∃ (fp : List Addr) (Pd : Nat → Value → Prop) (St : Nat → Heap → Prop), (∀ A : Around, A.handled = none → Draws X.prog X.w A it fp ds.length Pd St) ∧ St i s.heap ∧ it ∈ fp ∧ (∀ j h, St j h → tn j h) ∧
      (∀ b ob, s.heap.get? b = some ob → H b = none → ob.cls ≠ .type "list" → ob.cls ≠ .type "tuple" → b ≠ it → b ∉ fp) ∧
      (∀ b ob, s.heap.get? b = some ob → H b = none → X.K.lookup b = none → b ≠ it → b ∉ fp) ∧
      ∀ x, Pd i x → i < ds.length → ∃ v d, RelV v x ∧ ds[i]? = some d ∧ Dr K F v d := by
  subst hK
  cases S with
  | lst q r =>
    rename_i a vs
    obtain ⟨its, rv, p, hz⟩ := I.list (sf.seq q)
    have len : its.toArray.size = ds.length := by rw [List.size_toArray, ← rv.length, r.length]
    have nl : a ≠ it := fun z => by
      obtain ⟨o, n, ho, hc, _⟩ := p
      obtain ⟨o', ho', hc', _⟩ := st
      rw [z, ho'] at ho
      cases ho
      rw [hc] at hc'
      exact absurd hc' (by decide)
    refine ⟨_, _, fun i h => h.IsListIter it a i ∧ h.IsList a its.toArray, fun A hA => by rw [← len]; exact Draws.list hA it a nl its.toArray, ⟨st, p.isList⟩, by simp, fun j h z => z.1, fun b ob hb hH h1 h2 hne hm => ?_, fun b ob hb hH hk hne hm => ?_, fun x hx hi => ?_⟩
    · have e : b = it ∨ b = a := by simpa using hm
      rcases e with e | e
      · exact hne e
      · obtain ⟨o, n, ho, hc, _⟩ := p
        rw [e, ho] at hb
        cases hb
        exact h1 hc
    · have e : b = it ∨ b = a := by simpa using hm
      rcases e with e | e
      · exact hne e
      · subst e
        rcases sf.seq q with (z | ⟨o, z⟩) | ⟨o, _, _, z, _⟩
        · rw [hH] at z; cases z
        · rw [hH] at z; cases z
        · rw [hk] at z; cases z
    · have hx' : its[i]? = some x := by simpa using hx
      obtain ⟨d, hd⟩ : ∃ d, ds[i]? = some d := ⟨ds[i], List.getElem?_eq_getElem hi⟩
      obtain ⟨v, h1, h2⟩ := r.get hd
      obtain ⟨u, h3, h4⟩ := rv.get h1
      rw [hx'] at h3
      cases h3
      exact ⟨v, d, h4, hd, h2⟩
  | tup q r =>
    rename_i a vs
    obtain ⟨its, rv, p, hz⟩ := I.tuple (sqT_mono sf q)
    have len : its.toArray.size = ds.length := by rw [List.size_toArray, ← rv.length, r.length]
    have nl : a ≠ it := fun z => by
      obtain ⟨o, ho, hc, _⟩ := p
      obtain ⟨o', ho', hc', _⟩ := st
      rw [z, ho'] at ho
      cases ho
      rw [hc] at hc'
      exact absurd hc' (by decide)
    refine ⟨_, _, fun i h => h.IsTupleIter it a i ∧ h.IsTuple a its.toArray, fun A hA => by rw [← len]; exact Draws.tuple hA it a nl its.toArray, ⟨st, p⟩, by simp, fun j h z => z.1, fun b ob hb hH h1 h2 hne hm => ?_, fun b ob hb hH hk hne hm => ?_, fun x hx hi => ?_⟩
    · have e : b = it ∨ b = a := by simpa using hm
      rcases e with e | e
      · exact hne e
      · obtain ⟨o, ho, hc, _⟩ := p
        rw [e, ho] at hb
        cases hb
        exact h2 hc
    · have e : b = it ∨ b = a := by simpa using hm
      rcases e with e | e
      · exact hne e
      · subst e
        rcases sqT_mono sf q with (z | ⟨o, z⟩) | ⟨o, _, _, z, _⟩
        · rw [hH] at z; cases z
        · rw [hH] at z; cases z
        · rw [hk] at z; cases z
    · have hx' : its[i]? = some x := by simpa using hx
      obtain ⟨d, hd⟩ : ∃ d, ds[i]? = some d := ⟨ds[i], List.getElem?_eq_getElem hi⟩
      obtain ⟨v, h1, h2⟩ := r.get hd
      obtain ⟨u, h3, h4⟩ := rv.get h1
      rw [hx'] at h3
      cases h3
      exact ⟨v, d, h4, hd, h2⟩
  | str z t ty h e =>
    subst e
    have len : z.cps.size = (z.cps.toList.map fun c => PyData.str ⟨#[c]⟩).length := by simp
    have fin : ∀ (x : Value), (∃ c u, z.cps[i]? = some c ∧ x = Value.str ⟨#[c]⟩ u) → ∃ v d, RelV v x ∧ (z.cps.toList.map fun c => PyData.str ⟨#[c]⟩)[i]? = some d ∧ Dr X.K F v d := fun x hx => by
      obtain ⟨c, u, h1, rfl⟩ := hx
      exact ⟨.str ⟨#[c]⟩, .str ⟨#[c]⟩, ⟨u, rfl⟩, by rw [List.getElem?_map, Array.getElem?_toList, h1]; rfl, .str _⟩
    rcases h with rfl | rfl
    · exact ⟨_, _, _, fun A hA => by rw [← len]; exact Draws.strAscii hA it z t, st, by simp, fun j h z => z, fun b ob _ _ _ _ hne hm => hne (by simpa using hm), fun b ob _ _ _ hne hm => hne (by simpa using hm), fun x hx _ => fin x hx⟩
    · exact ⟨_, _, _, fun A hA => by rw [← len]; exact Draws.strWide hA it z t, st, by simp, fun j h z => z, fun b ob _ _ _ _ hne hm => hne (by simpa using hm), fun b ob _ _ _ hne hm => hne (by simpa using hm), fun x hx _ => fin x hx⟩
/-- how a source begins -/
theorem SrcV.begins {K : PySem.W.Frag} {F : Hp} {v : V} {ds : List D} (S : SrcV K F v ds) {X : Cx} (hK : X.K = K) {pins : List (Addr × Obj)} {s : Shared} {σ : St} {H : Hp} {u : Value} (I : L2.Inv X pins σ H s) (sf : Same F H) (r : RelV v u) (it : Addr) :
    ∃ (o : Obj) (Hb : Heap → Prop) (tn : Nat → Heap → Prop), Begins u o Hb ∧ Hb s.heap ∧ SrcT K F ds it tn ∧ ∀ h : Heap, h.get? it = some o → tn 0 h := by
  subst hK
  cases S with
  | lst q r' =>
    cases r
    obtain ⟨its, rv, p, hz⟩ := I.list (sf.seq q)
    exact ⟨_, _, _, begins_list _ its.toArray, p.isList, .lst q r', fun h e => ⟨_, e, rfl, rfl⟩⟩
  | tup q r' =>
    cases r
    obtain ⟨its, rv, p, hz⟩ := I.tuple (sqT_mono sf q)
    exact ⟨_, _, _, begins_tuple _ its.toArray, p, .tup q r', fun h e => ⟨_, e, rfl, rfl⟩⟩
  | str z =>
    obtain ⟨t, rfl⟩ := r
    refine ⟨_, _, _, begins_text z t, trivial, .str z t (strIterType z) ?_ rfl, fun h e => ⟨_, e, rfl, rfl⟩⟩
    unfold strIterType
    split
    · exact .inl rfl
    · exact .inr rfl

/-! ### enumerate -/
def enumL (k : Int) (ds : List D) : List (List D) := ds.mapIdx fun i d => [.int (k + (i : Int)), d]
theorem rows_enum {P : Program} {w : World} {K : PySem.W.Frag} {elts : List Expr} {kk : Nat} {tpos : Pos} {F : Hp} {ds : List D} {e it : Addr} {k : Int} {tn : Nat → Heap → Prop} (S : SrcT K F ds it tn) (hne : e ≠ it) :
    Rows P w K (.Tuple elts kk tpos) F (enumL k ds) e [e, it] (fun i h => (∃ old, IsEnum h e it (k + (i : Int)) old) ∧ tn i h) where
  mem := by simp
  obj := fun i h st b hb => by
    obtain ⟨⟨old, he⟩, st⟩ := st
    have e' : b = e ∨ b = it := by simpa using hb
    rcases e' with z | z
    · rw [z]; exact ⟨_, he, fun v q => nomatch q⟩
    · rw [z]; exact S.obj st
  keep := fun i h h' st q => by
    obtain ⟨⟨old, he⟩, st⟩ := st
    exact ⟨⟨old, q e (by simp) _ he⟩, S.keep st fun o z => q it (by simp) o z⟩
  short := fun row hr => by
    unfold enumL at hr
    obtain ⟨i, hi, rfl⟩ := List.mem_mapIdx.mp hr
    show 2 ≤ sizeLine
    decide
  run := fun X hP hw hK hc i pins s σ H I sf hf st => by
    obtain ⟨⟨old, he⟩, st⟩ := st
    subst hP hw
    obtain ⟨fp, Pd, St, D, st0, hm, htn, hno, _, hx⟩ := S.draws hK I sf (hf it (by simp)) st
    have hef : e ∉ fp := hno e _ he (hf e (by simp)) (fun z => absurd (Value.type.inj z) (by decide)) (fun z => absurd (Value.type.inj z) (by decide)) hne
    have len : (enumL k ds).length = ds.length := by unfold enumL; simp
    rw [len]
    refine ⟨_, _, _, _, GoesN.enumFrom k (D X.A.in1 (I.ok.hd hc)) e hne hef hm, ⟨⟨old, he⟩, st0⟩, fun b hb => hb, fun h z => ⟨z.1, htn _ _ z.2⟩, fun h₀ v h' hi y => ?_⟩
    obtain ⟨T, t, x, rfl, hT, hp, tup⟩ := y
    obtain ⟨v, d, r1, r2, r3⟩ := hx x hp hi
    refine ⟨T, [.int (k + (i : Int)), v], [.int (k + (i : Int)) t, x], [.int (k + (i : Int)), d], rfl, hT, .cons ⟨t, rfl⟩ (.cons r1 .nil), tup, ?_, .cons (.int _) (.cons r3 .nil)⟩
    unfold enumL
    rw [List.getElem?_mapIdx, r2]
    rfl
  self := fun A i s Q E st h => let ⟨⟨_, he⟩, _⟩ := st; wpAny_pyIter_enum he h
/-- the items of what can be walked, as data -/
def itemsOf : D → Option (List D)
  | .list ds => some ds
  | .tuple ds => some ds
  | .str z => some (z.cps.toList.map fun c => .str ⟨#[c]⟩)
  | _ => none
theorem src_of {K : PySem.W.Frag} {F : Hp} {v : V} {d : D} {ds : List D} (r : Dr K F v d) (e : itemsOf d = some ds) : SrcV K F v ds := by
  cases r <;> simp only [itemsOf, reduceCtorEq, Option.some.injEq] at e
  · subst e; exact .str _
  · subst e; exact .lst (by assumption) (by assumption)
  · subst e; exact .tup (by assumption) (by assumption)
def gEnum1 : List D → Option (List D)
  | [d] => (itemsOf d).map fun ds => (enumL 0 ds).map .tuple
  | _ => none
def gEnum2 : List D → Option (List D)
  | [d, .int k] => if -(2 ^ 63) ≤ k ∧ k < 2 ^ 63 then (itemsOf d).map fun ds => (enumL k ds).map .tuple else none
  | _ => none
/-- the arguments as data, then the walk -/
def xWalk (g : List D → Option (List D)) (φ : Den (List Rv)) : Den (List D) := fun ρ => (φ ρ).bind fun rs ρ1 => ofO ((dats rs).bind g) ρ1
set_option maxHeartbeats 1000000 in
theorem meets_enum1 {v : Value} {o : Obj} {Hb : Heap → Prop} (B : Begins v o Hb) :
    Meets (Builtin.«enumerate.__new__» ⟨[.type "enumerate", v], []⟩) (fun _ R s => Hb s.heap ∧
      R (.ok (.ret (.ref (s.heap.push o).objs.size))) { s with heap := (s.heap.push o).push { cls := .type "enumerate", data := .fields #[.none, .bool false, .ref s.heap.objs.size, rawInt 0, .none, .none] } }) :=
  .of_wp fun prog w A R s h => by
    obtain ⟨h1, h⟩ := h
    obtain ⟨hp, gl, dl, tk, osx⟩ := s
    have hsub := PySem.sub_enumerate
    have q1 : ∀ {A' : Around} {E' : Value → Shared → Prop} {Q' : Value → Shared → Prop}, Q' (.ref hp.objs.size) ⟨hp.push o, gl, dl, tk, osx⟩ → wpAny (model prog w) A' (pyIter v) Q' E' ⟨hp, gl, dl, tk, osx⟩ :=
      fun qq => B.iter prog w _ _ ⟨hp, gl, dl, tk, osx⟩ _ h1 qq
    wp_walk using q1
    refine wpAny_stack_any fun st => wpAny_pure ?_
    split
    · rename_i c _ _ _ _ _
      cases (c == Value.type "enumerate")
      · wp_walk using q1
        exact ⟨_, rfl, h⟩
      · wp_walk using q1
        exact ⟨_, rfl, h⟩
    · wp_walk using q1
      exact ⟨_, rfl, h⟩
theorem call_enum1 {prog : Program} {w : World} {A : Around} {E : Value → Shared → Prop} {s : Shared} {v : Value} {o : Obj} {Hb : Heap → Prop} {Q : Value → Shared → Prop} (B : Begins v o Hb) (h1 : Hb s.heap)
    (h : ∀ h', IsEnum h' (s.heap.objs.size + 1) s.heap.objs.size 0 .none → h'.get? s.heap.objs.size = some o →
      (∀ b o, s.heap.get? b = some o → h'.get? b = some o) → Q (.ref (s.heap.objs.size + 1)) { s with heap := h' }) :
    wpAny (model prog w) A (call (.type "enumerate") [v]) Q E s := by
  refine callType_new F.called_enumerate (by decide) (F.typeCall_enumerate_1 _) (F.newCall_enumerate_1 _) (fun obj => F.args_object_init_2 obj _) F.entry_enumerate_new (meets_enum1 B) ⟨h1, ?_⟩
  have hz : (s.heap.push o).objs.size = s.heap.objs.size + 1 := Heap.size_push ..
  show _ ∧ _
  rw [hz]
  have he : IsEnum ((s.heap.push o).push { cls := .type "enumerate", data := .fields #[.none, .bool false, .ref s.heap.objs.size, rawInt 0, .none, .none] }) (s.heap.objs.size + 1) s.heap.objs.size 0 .none := by
    have ht := Heap.get?_push_size (s.heap.push o) (o := { cls := .type "enumerate", data := .fields #[.none, .bool false, .ref s.heap.objs.size, rawInt 0, .none, .none] }) rfl
    rwa [hz] at ht
  exact ⟨⟨_, he, rfl⟩, h _ he (Heap.get?_push_of_some _ (Heap.get?_push_size _ B.free)) fun b ob x => Heap.get?_push_of_some _ (Heap.get?_push_of_some _ x)⟩
section
variable {X : Cx} {W : WX} {tg e a b : Expr} {elts : List Expr} {kk : Nat} {tpos p pos : Pos} {φ : Den Rv} {ψ : Den (List Rv)}
theorem di_enum (hg : Gl X "enumerate") (hm : X.mg "enumerate" = none) (ha : DA X W [a] ψ) (hs : starEach [a] X.env = [(false, eval a X.env)] := by rfl) : DI X W (.Tuple elts kk tpos) (.Call (.Name "enumerate" p) [a] [] pos) (xWalk gEnum1 ψ) := by
  refine ⟨fun pins s σ H R I hq => ?_⟩
  obtain ⟨B, F, ρ, S, w⟩ := hq
  refine PyProof.Rows.Call_ (ld_blt I hg hm PyProof.Rows.boot_enumerate (PyProof.Rows.callWith_type1 (thn (ha.run pos pins s σ H (fun vs H1 => ∃ v ds F1, vs = [v] ∧ Same F1 H1 ∧ SrcV X.K F1 v ds ∧ R (Jr X.K F1 (enumL 0 ds)) H1) I ?_) fun us s1 hh => ?_) hs rfl))
  · refine ⟨B, F, ρ, S, wp_mono (wp_bind w) (fun rs ρ1 w1 F1 vs H1 s1 S1 q1 => ?_) fun _ _ z => z⟩
    obtain ⟨rows, e1, w2⟩ := wp_ofO w1
    obtain ⟨ds, e2, e3⟩ := Option.bind_eq_some_iff.mp e1
    have r := dats_ok e2 q1
    unfold gEnum1 at e3
    split at e3
    · cases r with
      | cons r1 t =>
        cases t
        obtain ⟨items, e4, e5⟩ := Option.map_eq_some_iff.mp e3
        subst e5
        exact ⟨_, items, F1, rfl, S1.f, src_of r1 e4, w2 F1 _ H1 s1 S1 jr_ok⟩
    · cases e3
  · obtain ⟨vs, H1, I1, r1, v, ds, F1, rfl, sf, src, q⟩ := hh
    cases r1 with
    | cons r rr =>
      cases rr
      obtain ⟨o, Hb, tn, Bg, hb, st, h0⟩ := src.begins rfl I1 sf r s1.heap.objs.size
      refine call_enum1 Bg hb fun h' he hit hk => wpAny_pyIter_enum he ?_
      have I2 : L2.Inv X pins σ H1 { s1 with heap := h' } := I1.kept (t' := s1.toks) hk
      refine ⟨s1.heap.objs.size + 1, [s1.heap.objs.size + 1, s1.heap.objs.size], _, _, H1, rfl, I2, turn_rows (rows_enum (k := 0) st (Nat.succ_ne_self _)), ⟨⟨.none, he⟩, h0 h' hit⟩, fun b hb => ?_, q⟩
      have hle : s1.heap.objs.size ≤ b := by
        rcases List.mem_cons.mp hb with z | z
        · rw [z]; exact Nat.le_succ _
        · rw [List.mem_singleton.mp z]; exact Nat.le_refl _
      exact I1.fpOk hle (I1.hok.fresh hle)
theorem di_enumK (hg : Gl X "enumerate") (hm : X.mg "enumerate" = none) (ha : DA X W [a, b] ψ) (hs : starEach [a, b] X.env = (false, eval a X.env) :: starEach [b] X.env := by rfl) (hp : (backTo pos (starEach [b] X.env)).any (·.1) = false := by rfl) : DI X W (.Tuple elts kk tpos) (.Call (.Name "enumerate" p) [a, b] [] pos) (xWalk gEnum2 ψ) := by
  refine ⟨fun pins s σ H R I hq => ?_⟩
  obtain ⟨B, F, ρ, S, w⟩ := hq
  refine PyProof.Rows.Call_ (ld_blt I hg hm PyProof.Rows.boot_enumerate (PyProof.Rows.callWith_type1 (thn (ha.run pos pins s σ H (fun vs H1 => ∃ v k ds F1, vs = [v, .int k] ∧ -(2 ^ 63) ≤ k ∧ k < 2 ^ 63 ∧ Same F1 H1 ∧ SrcV X.K F1 v ds ∧ R (Jr X.K F1 (enumL k ds)) H1) I ?_) fun us s1 hh => ?_) hs hp))
  · refine ⟨B, F, ρ, S, wp_mono (wp_bind w) (fun rs ρ1 w1 F1 vs H1 s1 S1 q1 => ?_) fun _ _ z => z⟩
    obtain ⟨rows, e1, w2⟩ := wp_ofO w1
    obtain ⟨ds, e2, e3⟩ := Option.bind_eq_some_iff.mp e1
    have r := dats_ok e2 q1
    unfold gEnum2 at e3
    split at e3
    · cases r with
      | cons r1 t =>
        cases t with
        | cons r2 t2 =>
          cases t2
          split at e3
          · rename_i hk
            obtain ⟨items, e4, e5⟩ := Option.map_eq_some_iff.mp e3
            subst e5
            cases r2
            exact ⟨_, _, items, F1, rfl, hk.1, hk.2, S1.f, src_of r1 e4, w2 F1 _ H1 s1 S1 jr_ok⟩
          · cases e3
    · cases e3
  · obtain ⟨vs, H1, I1, r1, v, k, ds, F1, rfl, k0, k1, sf, src, q⟩ := hh
    cases r1 with
    | cons r rr =>
      cases rr with
      | cons r2 rr =>
        cases rr
        obtain ⟨t, rfl⟩ := r2
        obtain ⟨o, Hb, tn, Bg, hb, st, h0⟩ := src.begins rfl I1 sf r s1.heap.objs.size
        refine enum_begins Bg hb k0 k1 fun h' he hit hsz hk => wpAny_pyIter_enum he ?_
        have I2 : L2.Inv X pins σ H1 { s1 with heap := h' } := I1.kept (t' := s1.toks) hk
        refine ⟨s1.heap.objs.size + 1, [s1.heap.objs.size + 1, s1.heap.objs.size], _, _, H1, rfl, I2, turn_rows (rows_enum (k := k) st (Nat.succ_ne_self _)), ⟨⟨.none, by simpa using he⟩, h0 h' hit⟩, fun b hb => ?_, q⟩
        have hle : s1.heap.objs.size ≤ b := by
          rcases List.mem_cons.mp hb with z | z
          · rw [z]; exact Nat.le_succ _
          · rw [List.mem_singleton.mp z]; exact Nat.le_refl _
        exact I1.fpOk hle (I1.hok.fresh hle)
end
/-! ### zip of two -/
def zipL : List D → List D → List (List D)
  | x :: xs, y :: ys => [x, y] :: zipL xs ys
  | _, _ => []
theorem zipL_length : ∀ (xs ys : List D), (zipL xs ys).length = min xs.length ys.length
  | [], ys => by cases ys <;> simp [zipL]
  | x :: xs, [] => by simp [zipL]
  | x :: xs, y :: ys => by simp only [zipL, List.length_cons, zipL_length xs ys]; omega
theorem zipL_get : ∀ (xs ys : List D) (i : Nat) (a b : D), xs[i]? = some a → ys[i]? = some b → (zipL xs ys)[i]? = some [a, b]
  | x :: xs, y :: ys, 0, a, b, e, f => by cases e; cases f; rfl
  | x :: xs, y :: ys, i + 1, a, b, e, f => zipL_get xs ys i a b e f
theorem zipL_short : ∀ (xs ys : List D), ∀ r ∈ zipL xs ys, r.length = 2
  | x :: xs, y :: ys, r, h => by
    rcases List.mem_cons.mp h with e | e
    · rw [e]; rfl
    · exact zipL_short xs ys r e
theorem rows_zip {P : Program} {w : World} {K : PySem.W.Frag} {elts : List Expr} {kk : Nat} {tpos : Pos} {F : Hp} {xs ys : List D} {z TI TO i1 i2 : Addr} {tn1 tn2 : Nat → Heap → Prop} (S1 : SrcT K F xs i1 tn1) (S2 : SrcT K F ys i2 tn2)
    (zT : TI ≠ z) (zO : TO ≠ z) (TO' : TI ≠ TO) (T1 : TI ≠ i1) (T2 : TI ≠ i2) (O1 : TO ≠ i1) (O2 : TO ≠ i2) (z1 : z ≠ i1) (z2 : z ≠ i2) (i12 : i1 ≠ i2) (kO : K.lookup TO = none) :
    Rows P w K (.Tuple elts kk tpos) F (zipL xs ys) z [z, TI, TO, i1, i2] (fun i h => (IsZip h z TI TO .none ∧ IsTupOf2 h TI (.ref i1) (.ref i2) ∧ ∃ a1 a2, IsTupOf2 h TO a1 a2) ∧ (tn1 i h ∧ tn2 i h) ∧ (∃ o, h.get? i1 = some o ∧ o.cls ≠ .type "list" ∧ o.cls ≠ .type "tuple") ∧ ∃ o, h.get? i2 = some o ∧ o.cls ≠ .type "list" ∧ o.cls ≠ .type "tuple") where
  mem := by simp
  obj := fun i h st b hb => by
    obtain ⟨⟨hz, hI, a1, a2, hO⟩, ⟨st1, st2⟩, _⟩ := st
    have e' : b = z ∨ b = TI ∨ b = TO ∨ b = i1 ∨ b = i2 := by simpa using hb
    rcases e' with q | q | q | q | q
    · rw [q]; exact ⟨_, hz, fun v q => nomatch q⟩
    · rw [q]; exact ⟨_, hI, fun v q => nomatch q⟩
    · rw [q]; exact ⟨_, hO, fun v q => nomatch q⟩
    · rw [q]; exact S1.obj st1
    · rw [q]; exact S2.obj st2
  keep := fun i h h' st k => by
    obtain ⟨⟨hz, hI, a1, a2, hO⟩, ⟨st1, st2⟩, ⟨o1, ho1, hc1⟩, o2, ho2, hc2⟩ := st
    exact ⟨⟨k z (by simp) _ hz, k TI (by simp) _ hI, a1, a2, k TO (by simp) _ hO⟩, ⟨S1.keep st1 fun o q => k i1 (by simp) o q, S2.keep st2 fun o q => k i2 (by simp) o q⟩, ⟨o1, k i1 (by simp) _ ho1, hc1⟩, o2, k i2 (by simp) _ ho2, hc2⟩
  short := fun row hr => by rw [zipL_short xs ys row hr]; show 2 ≤ sizeLine; decide
  run := fun X hP hw hK hc i pins s σ H I sf hf st => by
    obtain ⟨⟨hz, hI, a1, a2, hO⟩, ⟨st1, st2⟩, ⟨o1, ho1, hc1⟩, o2, ho2, hc2⟩ := st
    subst hP hw
    obtain ⟨fp1, Pd1, St1, D1, sa1, hm1, ht1, hn1, hl1, hx1⟩ := S1.draws hK I sf (hf i1 (by simp)) st1
    obtain ⟨fp2, Pd2, St2, D2, sa2, hm2, ht2, hn2, hl2, hx2⟩ := S2.draws hK I sf (hf i2 (by simp)) st2
    have hh := I.ok.hd hc
    have sep : ZipSep2 z TI TO i1 i2 fp1 fp2 :=
      { TIz := zT, TOz := zO, TITO := TO', TIi1 := T1, mem1 := hm1, zf1 := hn1 z _ hz (hf z (by simp)) (fun q => absurd (Value.type.inj q) (by decide)) (fun q => absurd (Value.type.inj q) (by decide)) z1, Tf1 := hl1 TO _ hO (hf TO (by simp)) (hK ▸ kO) O1,
        TIi2 := T2, mem2 := hm2, zf2 := hn2 z _ hz (hf z (by simp)) (fun q => absurd (Value.type.inj q) (by decide)) (fun q => absurd (Value.type.inj q) (by decide)) z2, Tf2 := hl2 TO _ hO (hf TO (by simp)) (hK ▸ kO) O2,
        sep1_2 := hn2 i1 _ ho1 (hf i1 (by simp)) hc1.1 hc1.2 i12, sep2_1 := hn1 i2 _ ho2 (hf i2 (by simp)) hc2.1 hc2.2 (Ne.symm i12) }
    rw [zipL_length]
    refine ⟨_, _, _, _, GoesN.zip2 sep (D1 X.A.in1 hh) (D2 X.A.in1 hh), ⟨hz, hI, ⟨a1, a2, hO⟩, sa1, sa2⟩, fun b hb => ?_, fun h q => ?_, fun h₀ v h' hi y => ?_⟩
    · have e' : b = z ∨ b = TO ∨ b = i1 ∨ b = i2 := by simpa using hb
      rcases e' with q | q | q | q <;> simp [q]
    · obtain ⟨q1, q2, q3, q4, q5⟩ := q
      refine ⟨⟨q1, q2, q3⟩, ⟨ht1 _ _ q4, ht2 _ _ q5⟩, ?_, ?_⟩
      · exact S1.cls (ht1 _ _ q4)
      · exact S2.cls (ht2 _ _ q5)
    · obtain ⟨T, x, y', rfl, hT, p1, p2, tup⟩ := y
      obtain ⟨v1, d1, r1, g1, k1⟩ := hx1 x p1 (by omega)
      obtain ⟨v2, d2, r2, g2, k2⟩ := hx2 y' p2 (by omega)
      exact ⟨T, [v1, v2], [x, y'], [d1, d2], rfl, hT, .cons r1 (.cons r2 .nil), tup, zipL_get _ _ _ _ _ g1 g2, .cons k1 (.cons k2 .nil)⟩
  self := fun A i s Q E st h => wpAny_pyIter_zip st.1.1 h
def gZip : List D → Option (List D)
  | [a, b] => (itemsOf a).bind fun xs => (itemsOf b).map fun ys => (zipL xs ys).map .tuple
  | _ => none
section
variable {X : Cx} {W : WX} {tg e a b : Expr} {elts : List Expr} {kk : Nat} {tpos p pos : Pos} {φ : Den Rv} {ψ : Den (List Rv)}
theorem di_zip (hg : Gl X "zip") (hm : X.mg "zip" = none) (ha : DA X W [a, b] ψ) (hs : starEach [a, b] X.env = (false, eval a X.env) :: starEach [b] X.env := by rfl) (hp : (backTo pos (starEach [b] X.env)).any (·.1) = false := by rfl) : DI X W (.Tuple elts kk tpos) (.Call (.Name "zip" p) [a, b] [] pos) (xWalk gZip ψ) := by
  refine ⟨fun pins s σ H R I hq => ?_⟩
  obtain ⟨B, F, ρ, S, w⟩ := hq
  refine PyProof.Rows.Call_ (ld_blt I hg hm PyProof.Rows.boot_zip (PyProof.Rows.callWith_type1 (thn (ha.run pos pins s σ H (fun vs H1 => ∃ v v2 xs ys F1, vs = [v, v2] ∧ Same F1 H1 ∧ SrcV X.K F1 v xs ∧ SrcV X.K F1 v2 ys ∧ R (Jr X.K F1 (zipL xs ys)) H1) I ?_) fun us s1 hh => ?_) hs hp))
  · refine ⟨B, F, ρ, S, wp_mono (wp_bind w) (fun rs ρ1 w1 F1 vs H1 s1 S1 q1 => ?_) fun _ _ z => z⟩
    obtain ⟨rows, e1, w2⟩ := wp_ofO w1
    obtain ⟨ds, e2, e3⟩ := Option.bind_eq_some_iff.mp e1
    have r := dats_ok e2 q1
    unfold gZip at e3
    split at e3
    · cases r with
      | cons r1 t =>
        cases t with
        | cons r2 t2 =>
          cases t2
          obtain ⟨xs, e4, e5⟩ := Option.bind_eq_some_iff.mp e3
          obtain ⟨ys, e6, e7⟩ := Option.map_eq_some_iff.mp e5
          subst e7
          exact ⟨_, _, xs, ys, F1, rfl, S1.f, src_of r1 e4, src_of r2 e6, w2 F1 _ H1 s1 S1 jr_ok⟩
    · cases e3
  · obtain ⟨vs, H1, I1, r1, v, v2, xs, ys, F1, rfl, sf, src, src2, q⟩ := hh
    cases r1 with
    | cons r rr =>
      cases rr with
      | cons r2 rr =>
        cases rr
        obtain ⟨o1, Hb1, tn1, B1, hb1, st1, h1⟩ := src.begins rfl I1 sf r s1.heap.objs.size
        obtain ⟨o2, Hb2, tn2, B2, hb2, st2, h2⟩ := src2.begins rfl I1 sf r2 (s1.heap.objs.size + 1)
        refine zip_begins2 B1 B2 hb1 hb2 fun h' hz hI hO hi1 hi2 hsz hk => wpAny_pyIter_zip hz ?_
        have I2 : L2.Inv X pins σ H1 { s1 with heap := h' } := I1.kept (t' := s1.toks) hk
        have ne : ∀ {i j : Nat}, i ≠ j → s1.heap.objs.size + i ≠ s1.heap.objs.size + j := fun h z => h (Nat.add_left_cancel z)
        have kO : X.K.lookup (s1.heap.objs.size + 3) = none := by
          cases e : X.K.lookup (s1.heap.objs.size + 3) with
          | none => rfl
          | some o => exact absurd (Nat.lt_of_lt_of_le (Heap.lt_size (I1.kIn _ o e)) (Nat.le_add_right _ 3)) (Nat.lt_irrefl _)
        refine ⟨s1.heap.objs.size + 4, [s1.heap.objs.size + 4, s1.heap.objs.size + 2, s1.heap.objs.size + 3, s1.heap.objs.size, s1.heap.objs.size + 1], _, _, H1, rfl, I2,
          turn_rows (rows_zip st1 st2 (ne (by decide)) (ne (by decide)) (ne (by decide)) (ne (j := 0) (by decide)) (ne (by decide)) (ne (j := 0) (by decide)) (ne (by decide)) (ne (j := 0) (by decide)) (ne (by decide)) (ne (i := 0) (by decide)) kO),
          ⟨⟨hz, hI, _, _, hO⟩, ⟨h1 h' hi1, h2 h' hi2⟩, st1.cls (h1 h' hi1), st2.cls (h2 h' hi2)⟩, fun c hb => ?_, q⟩
        have e' : c = s1.heap.objs.size + 4 ∨ c = s1.heap.objs.size + 2 ∨ c = s1.heap.objs.size + 3 ∨ c = s1.heap.objs.size ∨ c = s1.heap.objs.size + 1 := by simpa using hb
        have hle : s1.heap.objs.size ≤ c := by
          rcases e' with z | z | z | z | z
          · rw [z]; exact Nat.le_add_right _ _
          · rw [z]; exact Nat.le_add_right _ _
          · rw [z]; exact Nat.le_add_right _ _
          · rw [z]; exact Nat.le_refl _
          · rw [z]; exact Nat.le_add_right _ _
        exact I1.fpOk hle (I1.hok.fresh hle)
end
end DL


/-! D layer, 7: list comprehensions. -/
namespace DL
open PySem PySem.Spec L2

def noX {α : Type} : Ans α → Ans α
  | .exc _ _ => .bad
  | m => m
theorem wp_noX {α : Type} {m : Ans α} {P : α → Env → Prop} {E E' : Exc → Env → Prop} (h : Wp (noX m) P E) : Wp m P E' := by
  cases m with
  | ok a ρ => exact h
  | exc x ρ => exact (show False from h).elim
  | bad => exact h
/-- the slots of a block's own names forgotten -/
def wipeE (ρ : Env) : List Nat → Env
  | [] => ρ
  | v :: vs => (wipeE ρ vs).set v none
def datOnly : Option (Option Cell) → Option Cell
  | some (some (.dat d)) => some (.dat d)
  | _ => none
/-- behind the block: its own names are what they were -/
def unwipe (ρ0 ρ : Env) : List Nat → Env
  | [] => ρ
  | v :: vs => (unwipe ρ0 ρ vs).set v (datOnly ρ0[v]?)
theorem wipeE_length (ρ : Env) : ∀ vs : List Nat, (wipeE ρ vs).length = ρ.length
  | [] => rfl
  | v :: vs => by unfold wipeE; rw [List.length_set, wipeE_length ρ vs]
theorem unwipe_length (ρ0 ρ : Env) : ∀ vs : List Nat, (unwipe ρ0 ρ vs).length = ρ.length
  | [] => rfl
  | v :: vs => by unfold unwipe; rw [List.length_set, unwipe_length ρ0 ρ vs]
theorem unwipe_some {ρ0 ρ : Env} {i : Nat} {c : Cell} : ∀ {vs : List Nat}, (unwipe ρ0 ρ vs)[i]? = some (some c) → (ρ0[i]? = some (some c) ∧ ∃ d, c = .dat d) ∨ (i ∉ vs ∧ ρ[i]? = some (some c))
  | [], h => .inr ⟨by simp, h⟩
  | v :: vs, h => by
    unfold unwipe at h
    by_cases hi : v = i
    · subst hi
      by_cases hv : v < (unwipe ρ0 ρ vs).length
      · rw [List.getElem?_set_self hv] at h
        have h := Option.some.inj h
        unfold datOnly at h
        split at h
        · rename_i d e
          cases h
          exact .inl ⟨e, d, rfl⟩
        · cases h
      · rw [List.getElem?_eq_none (by simpa using hv)] at h
        cases h
    · rw [List.getElem?_set_ne hi] at h
      rcases unwipe_some h with q | ⟨q1, q2⟩
      · exact .inl q
      · exact .inr ⟨by simp only [List.mem_cons, not_or]; exact ⟨fun e => hi e.symm, q1⟩, q2⟩
section
variable {K : PySem.W.Frag} {B : Base} {F : Hp} {ρ : Env} {σ : St} {H : Hp}
theorem Sim.wiped (S : Sim K B F ρ σ H) : ∀ vs : List Nat, Sim K B F (wipeE ρ vs) (wipe σ vs) H
  | [] => S
  | v :: vs => by
    have S1 := Sim.wiped S vs
    unfold wipeE wipe
    by_cases h : v < (wipeE ρ vs).length
    · exact S1.setNone h
    · have hn : ¬ v < (wipe σ vs).length := by rw [S1.len]; exact h
      rw [List.set_eq_of_length_le (by omega), List.set_eq_of_length_le (by omega)]
      exact S1
theorem wipe_out {σ : St} {i : Nat} : ∀ {vs : List Nat}, i ∉ vs → (wipe σ vs)[i]? = σ[i]?
  | [], _ => rfl
  | v :: vs, h => by
    unfold wipe
    rw [List.getElem?_set_ne (fun e => h (by rw [e]; exact List.mem_cons_self))]
    exact wipe_out fun z => h (List.mem_cons_of_mem _ z)
theorem wipe_at {σ : St} {i : Nat} : ∀ {vs : List Nat}, i ∈ vs → (wipe σ vs)[i]? = (σ[i]?).map fun _ => none
  | v :: vs, h => by
    unfold wipe
    by_cases q : v = i
    · subst q
      by_cases hv : v < (wipe σ vs).length
      · rw [List.getElem?_set_self hv]
        have : v < σ.length := by rw [← wipe_length σ vs]; exact hv
        rw [List.getElem?_eq_getElem this]
        rfl
      · rw [List.getElem?_eq_none (by simpa using hv)]
        have : ¬ v < σ.length := by rw [← wipe_length σ vs]; exact hv
        rw [List.getElem?_eq_none (by omega)]
        rfl
    · rw [List.getElem?_set_ne q]
      rcases List.mem_cons.mp h with e | e
      · exact absurd e.symm q
      · exact wipe_at e
theorem wipe_idem {σ : St} {vs : List Nat} : wipe (wipe σ vs) vs = wipe σ vs := by
  apply List.ext_getElem?
  intro i
  by_cases h : i ∈ vs
  · rw [wipe_at h, wipe_at h]
    cases σ[i]? <;> rfl
  · rw [wipe_out h]
theorem Sim.unwiped (S : Sim K B F ρ σ H) {vs : List Nat} {F' : Hp} {ρ' : Env} {H' : Hp} (s : Same F F') (S' : Sim K B F' ρ' (wipe σ vs) H') : Sim K B F' (unwipe ρ ρ' vs) σ H' := by
  have own : ∀ {i : Nat} {o : Bool} {d : D}, (unwipe ρ ρ' vs)[i]? = some (some (.own o d)) → i ∉ vs ∧ ρ'[i]? = some (some (.own o d)) := fun {i o d} h => by
    rcases unwipe_some h with ⟨_, d', q⟩ | q
    · cases q
    · exact q
  exact {
    g := S'.g, f := S'.f, bf := S'.bf, fr := S'.fr, gr := S'.gr
    len := by rw [unwipe_length, ← S'.len, wipe_length]
    dat := fun i d h => by
      rcases unwipe_some h with ⟨q, _⟩ | ⟨q1, q2⟩
      · obtain ⟨v, e1, e2⟩ := S.dat i d q
        exact ⟨v, e1, e2.up s⟩
      · obtain ⟨v, e1, e2⟩ := S'.dat i d q2
        exact ⟨v, by rw [wipe_out q1] at e1; exact e1, e2⟩
    mu := fun i o d h => by
      obtain ⟨q1, q2⟩ := own h
      obtain ⟨p, c, e1, e⟩ := S'.mu i o d q2
      exact ⟨p, c, by rw [wipe_out q1] at e1; exact e1, e⟩
    apart := fun i j o o' d d' p h h' e e' => by
      obtain ⟨q1, q2⟩ := own h
      obtain ⟨q3, q4⟩ := own h'
      exact S'.apart i j o o' d d' p q2 q4 (by rw [wipe_out q1]; exact e) (by rw [wipe_out q3]; exact e') }
/-- beside the slots, an object that nobody may touch -/
def Base.plus (B : Base) (a : Addr) (o : HO) : Base := ⟨upd B.G a o, B.F, upd B.H a o, B.σ⟩
structure Apart (B : Base) (F : Hp) (ρ : Env) (σ : St) (H : Hp) (a : Addr) (o : HO) : Prop where
  at' : H a = some o
  f0 : F a = none
  ns : ∀ (i : Nat) (ow : Bool) (d : D), ρ[i]? = some (some (.own ow d)) → σ[i]? ≠ some (some (.ref a))
theorem Sim.guard (S : Sim K B F ρ σ H) {a : Addr} {o : HO} (h : Apart B F ρ σ H a o) : Sim K (B.plus a o) F ρ σ H where
  g := fun b x e => by
    by_cases q : b = a
    · subst q
      have e : upd B.G b o b = some x := e
      rw [upd_same] at e
      rw [← e]
      exact h.at'
    · have e : upd B.G a o b = some x := e
      rw [upd_ne q] at e
      exact S.g b x e
  f := S.f
  bf := S.bf
  fr := fun b e => by
    by_cases q : b = a
    · subst q
      exact absurd h.f0 e
    · rcases S.fr b e with z | z
      · exact .inl z
      · exact .inr (by show upd B.H a o b = none; rw [upd_ne q]; exact z)
  gr := fun b e => by
    by_cases q : b = a
    · subst q
      rw [h.at']
      simp
    · have e : upd B.H a o b ≠ none := e
      rw [upd_ne q] at e
      exact S.gr b e
  len := S.len
  dat := S.dat
  mu := fun i ow d e => by
    obtain ⟨p, c, h1, h2, h3, h4, h5, h6, h7⟩ := S.mu i ow d e
    have q : p ≠ a := fun z => h.ns i ow d e (by rw [← z]; exact h1)
    exact ⟨p, c, h1, h2, h3, by show upd B.G a o p = none; rw [upd_ne q]; exact h4, h5, fun z => by show upd B.H a o p = none; rw [upd_ne q]; exact h6 z, h7⟩
  apart := S.apart
theorem Sim.unguard {a : Addr} {o : HO} (S : Sim K (B.plus a o) F ρ σ H) (g0 : B.G a = none) (f0 : B.F a = none) (h0 : B.H a = none) : Sim K B F ρ σ H ∧ Apart B F ρ σ H a o := by
  refine ⟨{ g := fun b x e => ?_, f := S.f, bf := S.bf, fr := fun b e => ?_, gr := fun b e => ?_, len := S.len, dat := S.dat, mu := fun i ow d e => ?_, apart := S.apart }, ?_, ?_, fun i ow d e z => ?_⟩
  · refine S.g b x (show upd B.G a o b = some x from ?_)
    rw [upd_ne]
    · exact e
    · rintro rfl
      rw [g0] at e
      cases e
  · rcases S.fr b e with z | z
    · exact .inl z
    · have z : upd B.H a o b = none := z
      by_cases q : b = a
      · subst q
        rw [upd_same] at z
        cases z
      · rw [upd_ne q] at z
        exact .inr z
  · refine S.gr b (show upd B.H a o b ≠ none from ?_)
    exact upd_some e
  · obtain ⟨p, c, h1, h2, h3, h4, h5, h6, h7⟩ := S.mu i ow d e
    have h4 : upd B.G a o p = none := h4
    have q : p ≠ a := fun z => by
      rw [z, upd_same] at h4
      cases h4
    rw [upd_ne q] at h4
    refine ⟨p, c, h1, h2, h3, h4, h5, fun z => ?_, h7⟩
    have := h6 z
    have this : upd B.H a o p = none := this
    rw [upd_ne q] at this
    exact this
  · exact S.g a o (show upd B.G a o a = some o from upd_same)
  · cases e : F a with
    | none => rfl
    | some x =>
      rcases S.fr a (by rw [e]; simp) with z | z
      · exact absurd f0 z
      · have z : upd B.H a o a = none := z
        rw [upd_same] at z
        cases z
  · obtain ⟨p, c, h1, h2, h3, h4, h5, h6, h7⟩ := S.mu i ow d e
    rw [z] at h1
    cases h1
    have h4 : upd B.G a o a = none := h4
    rw [upd_same] at h4
    cases h4
/-- the guarded object changed -/
theorem Sim.other (S : Sim K B F ρ σ H) {a : Addr} {o o' : HO} (h : Apart B F ρ σ H a o) (g0 : B.G a = none) : Sim K B F ρ σ (upd H a o') ∧ Apart B F ρ σ (upd H a o') a o' := by
  refine ⟨{ g := fun b x e => ?_, f := fun b x e => ?_, bf := S.bf, fr := S.fr, gr := fun b e => upd_some (S.gr b e), len := S.len, dat := S.dat, mu := fun i ow d e => ?_, apart := S.apart }, upd_same, h.f0, h.ns⟩
  · rw [upd_ne]
    · exact S.g b x e
    · rintro rfl
      rw [g0] at e
      cases e
  · rw [upd_ne]
    · exact S.f b x e
    · rintro rfl
      rw [h.f0] at e
      cases e
  · obtain ⟨p, c, h1, h2, h3, h4⟩ := S.mu i ow d e
    have q : p ≠ a := fun z => h.ns i ow d e (by rw [← z]; exact h1)
    exact ⟨p, c, h1, by rw [upd_ne q]; exact h2, h3, h4⟩
end

/-! ### the tests of a clause -/
def tDTs (K : PySem.W.Frag) (τ : Den Bool) : TT := tDT K W0 τ
def xYes : Den Bool := fun ρ => .ok true ρ
def DTs (X : Cx) (es : List Expr) (τ : Den Bool) : Prop := PTs X es (tDT X.K W0 τ)
theorem dts_nil {X : Cx} : DTs X [] xYes := ⟨fun pins s σ H Q I hq => by
  obtain ⟨B, F, ρ, S, w⟩ := hq
  exact pts_nil.run pins s σ H Q I (w F H (Same.refl F) S)⟩
theorem dts_one {X : Cx} {c : Expr} {τ : Den Bool} (h : DT X W0 c τ) : DTs X [c] τ := pts_one h

/-- the items of a comprehension -/
def lcD (vs : List Nat) (γ : DenG) (τ : Den Bool) (φ : Den Rv) : List D → Env → Ans (List D)
  | [], ρ => .ok [] ρ
  | d :: ds, ρ => match γ d ρ with
    | none => .bad
    | some ρ1 => (noX (τ ρ1)).bind fun b ρ2 => if b then (noX (φ ρ2)).bind fun r ρ3 => (frz r ρ3).bind fun x ρ4 => (lcD vs γ τ φ ds (wipeE ρ4 vs)).bind fun rest ρ5 => .ok (x :: rest) ρ5
      else lcD vs γ τ φ ds (wipeE ρ2 vs)
def xLc (ι : Den (List D)) (vs : List Nat) (γ : DenG) (τ : Den Bool) (φ : Den Rv) : Den D := fun ρ => (ι ρ).bind fun ds ρ1 => if ds.length ≤ sizeLine then (noX (lcD vs γ τ φ ds (wipeE ρ1 vs))).bind fun xs ρ2 => .ok (.list xs) (unwipe ρ1 ρ2 vs) else .bad
section
variable {X : Cx} {W : WX}
theorem lcD_sound {K : PySem.W.Frag} {ι : Den (List D)} {is vs : List Nat} {γ : DenG} {τ : Den Bool} {φ : Den Rv} (hv : ∀ i ∈ is, i ∈ vs) {σ : St} {H : Hp} {Q : VK} (h : tDN K W (xLc ι vs γ τ φ) σ H Q) :
    tLc (tDI K W ι) (tDG K is γ) (tDT K W0 τ) (tDE K W0 φ) vs σ H Q := by
  obtain ⟨B, F, ρ, S, w⟩ := h
  refine ⟨B, F, ρ, S, wp_mono (wp_bind w) (fun ds ρ1 w1 F1 J H1 s1 S1 J1 => ?_) fun _ _ z => z⟩
  intro D hD
  split at w1
  · rename_i hz
    have fD : F1 D = none := (S1.free hD).2.1
    have gD : B.G D = none := (S1.free hD).1
    have hDn : B.H D = none := (S1.free hD).2.2
    have bD : B.F D = none := by
      cases e : B.F D with
      | none => rfl
      | some x => rw [S1.bf D x e] at fD; cases fD
    have S2 := (S1.wiped vs).fresh (o := .lst []) hD
    have A2 : Apart B F1 (wipeE ρ1 vs) (wipe σ vs) (upd H1 D (.lst [])) D (.lst []) := ⟨upd_same, fD, (S1.wiped vs).noslot hD⟩
    refine ⟨fun i m H' => m + i = ds.length ∧ ∃ F' ρ' acc as, Same F1 F' ∧ Sim K B F' ρ' (wipe σ vs) H' ∧ Apart B F' ρ' (wipe σ vs) H' D (.lst acc) ∧ DrAll K F' acc as ∧ acc.length ≤ i ∧
      Wp (lcD vs γ τ φ (ds.drop i) ρ') (fun rest ρ'' => ∀ F' p H', Same F1 F' → Sim K B F' (unwipe ρ1 ρ'' vs) σ H' → NewAt K B F' (unwipe ρ1 ρ'' vs) σ H' p (.list (as ++ rest)) → Q (.ref p) H') (fun _ _ => False), ⟨ds.length, rfl, F1, wipeE ρ1 vs, [], [], Same.refl F1, S2, A2, .nil, Nat.le_refl _, ?_⟩, fun i m H' hw => ?_⟩
    · rw [List.drop_zero]
      exact wp_noX (wp_mono (wp_bind w1) (fun rest ρ'' q F' p H' s' S' N => q F' p H' (s1.trans s') S' N) fun _ _ z => z)
    · obtain ⟨hm, F', ρ', acc, as, s', S', A', dr, la, w'⟩ := hw
      by_cases hl : i < ds.length
      · have ed : ds.drop i = ds[i] :: ds.drop (i + 1) := List.drop_eq_getElem_cons hl
        have eg : ds[i]? = some ds[i] := List.getElem?_eq_getElem hl
        obtain ⟨h1, h2⟩ := J1.1 i ds[i] B F' ρ' (wipe σ vs) H' s' S' eg
        refine .inr ⟨h1, _, fun H2 hn => ⟨m - 1, by omega, by omega, hn⟩, fun x H2 y => ?_⟩
        have S3 := S'.guard A'
        obtain ⟨_, h3⟩ := J1.1 i ds[i] (B.plus D (.lst acc)) F' ρ' (wipe σ vs) H' s' S3 eg
        obtain ⟨F4, s4, S4, r4⟩ := h3 x H2 y
        rw [ed] at w'
        unfold lcD at w'
        cases e1 : γ ds[i] ρ' with
        | none => rw [e1] at w'; exact w'.elim
        | some ρ2 =>
          rw [e1] at w'
          simp only at w'
          refine ⟨_, F4, ρ', ds[i], ρ2, S4, r4, e1, fun σ2 S5 hw2 => ⟨(hw2 vs hv).trans wipe_idem, ?_⟩⟩
          have hw2 := (hw2 vs hv).trans wipe_idem
          refine ⟨_, F4, ρ2, S5, wp_mono (wp_noX (wp_bind w')) (fun b ρ3 w3 F5 H5 s5 S6 => ?_) fun _ _ z => z⟩
          have dr5 := dr.up (s4.trans s5)
          cases b with
          | false =>
            simp only [Bool.false_eq_true, if_false] at w3 ⊢
            have S7 := S6.wiped vs
            rw [hw2] at S7
            obtain ⟨S8, A8⟩ := S7.unguard gD bD hDn
            exact ⟨F5, wipeE ρ3 vs, acc, as, s'.trans (s4.trans s5), S8, A8, dr5, by omega, w3⟩
          | true =>
            simp only [if_true] at w3 ⊢
            refine ⟨_, F5, ρ3, S6, wp_mono (wp_noX (wp_bind w3)) (fun r ρ4 w4 F6 v H6 s6 S7 r7 => ?_) fun _ _ z => z⟩
            obtain ⟨x', ρ5, e5, w5⟩ := wp_frz (wp_bind w4)
            obtain ⟨F7, s7, r8, S8⟩ := S7.frz r7 e5
            have S9 := S8.wiped vs
            rw [hw2] at S9
            obtain ⟨S10, A10⟩ := S9.unguard gD bD hDn
            obtain ⟨S11, A11⟩ := S10.other (o' := .lst (acc ++ [v])) A10 gD
            refine ⟨acc, A10.at', by omega, F7, wipeE ρ5 vs, acc ++ [v], as ++ [x'], s'.trans (s4.trans (s5.trans (s6.trans s7))), S11, A11, (dr5.up (s6.trans s7)).append (.cons r8 .nil), by rw [List.length_append]; show acc.length + 1 ≤ i + 1; omega, ?_⟩
            refine wp_mono (wp_bind w5) (fun rest ρ6 q F' p H' s'' S' N => ?_) fun _ _ z => z
            refine q F' p H' s'' S' ?_
            have e9 : as ++ x' :: rest = as ++ [x'] ++ rest := by simp
            rw [e9]
            exact N
      · have ei : i = ds.length := by omega
        subst ei
        rw [List.drop_length] at w'
        refine .inl ⟨J1.2 H' (s'.trans S'.f), ?_⟩
        have S3 := S1.unwiped s' S'
        refine w' F' D H' s' S3 ⟨⟨_, A'.at', ?_⟩, A'.f0, gD, hDn, fun j ow d e z => ?_⟩
        · rw [List.append_nil]
          exact dr
        · rcases unwipe_some e with ⟨_, d', q⟩ | ⟨q1, q2⟩
          · cases q
          · exact A'.ns j ow d q2 (by rw [wipe_out q1]; exact z)
  · exact w1.elim
/-- [elt for target in iter if test] -/
theorem dn_lc {k : Nat} (C : Cok X W k) {elt tg iter : Expr} {ifs : List Expr} {scope : Scope} {own : List (Str × Nat)} {pos : Pos} {ι : Den (List D)} {is : List Nat} {γ : DenG} {τ : Den Bool} {φ : Den Rv} (hi : DI X W tg iter ι) (ok : BlkOk X.N X.env.scope scope own) (hv : ∀ i ∈ is, i ∈ own.map (·.2))
    (hg : ∀ (s : Shared) (H : Hp) (C : Addr) (cl : List (Str × Addr)) (fp : List Addr), DG (X.blk s H scope (compEnvC scope cl C X.env) fp) tg is γ) (ht : ∀ (s : Shared) (H : Hp) (C : Addr) (cl : List (Str × Addr)) (fp : List Addr), DTs (X.blk s H scope (compEnvC scope cl C X.env) fp) ifs τ)
    (he : ∀ (s : Shared) (H : Hp) (C : Addr) (cl : List (Str × Addr)) (fp : List Addr), DE (X.blk s H scope (compEnvC scope cl C X.env) fp) W0 elt φ) (hs : ∀ x, foldedSetIterable iter X.env x = pure x := by intro _; rfl) :
    DN X W (.ListComp elt [⟨tg, iter, ifs, 0⟩] scope pos) (xLc ι (own.map (·.2)) γ τ φ) :=
  pe_imp (pe_lc (g := tDG X.K is γ) (tt := tDT X.K W0 τ) (te := tDE X.K W0 φ) C.calm C.nd hi ok hg ht he hs) fun σ H Q h => lcD_sound hv h
theorem Cok.blk {k : Nat} (C : Cok X W k) {s : Shared} {H : Hp} {scope : Scope} {cenv : PySem.Env} {fp : List Addr} : Cok (X.blk s H scope cenv fp) W0 k where
  calm := C.calm
  nd := C.nd
  po := PassesOwn.never
  rm := C.rm
  gd := C.gd
  tk := fun u s' ⟨_, _, _, _, _, _, _, _, _, _, _, _, _, _, _, _, w⟩ => w.elim
end
end DL


/-! D layer, 8: builtins over lists, texts and their methods, f-strings, repr, lists put together. -/
namespace DL
open PySem PySem.Spec L2

/-! ### lists of one kind -/
def intsD : List D → Option (List Int)
  | [] => some []
  | .int i :: r => (intsD r).map (i :: ·)
  | _ => none
def boolsD : List D → Option (List Bool)
  | [] => some []
  | .bool i :: r => (boolsD r).map (i :: ·)
  | _ => none
def strsD : List D → Option (List Str)
  | [] => some []
  | .str i :: r => (strsD r).map (i :: ·)
  | _ => none
theorem intsD_eq : ∀ {ds : List D} {ns : List Int}, intsD ds = some ns → ds = ns.map .int
  | [], _, h => by cases h; rfl
  | .int i :: r, ns, h => by
    obtain ⟨ms, h1, h2⟩ := Option.map_eq_some_iff.mp h
    subst h2
    rw [intsD_eq h1]
    rfl
theorem boolsD_eq : ∀ {ds : List D} {ns : List Bool}, boolsD ds = some ns → ds = ns.map .bool
  | [], _, h => by cases h; rfl
  | .bool i :: r, ns, h => by
    obtain ⟨ms, h1, h2⟩ := Option.map_eq_some_iff.mp h
    subst h2
    rw [boolsD_eq h1]
    rfl
theorem strsD_eq : ∀ {ds : List D} {ns : List Str}, strsD ds = some ns → ds = ns.map .str
  | [], _, h => by cases h; rfl
  | .str i :: r, ns, h => by
    obtain ⟨ms, h1, h2⟩ := Option.map_eq_some_iff.mp h
    subst h2
    rw [strsD_eq h1]
    rfl
@[simp] theorem intsD_map (ns : List Int) : intsD (ns.map .int) = some ns := by induction ns <;> simp_all [intsD]
@[simp] theorem boolsD_map (ns : List Bool) : boolsD (ns.map .bool) = some ns := by induction ns <;> simp_all [boolsD]
@[simp] theorem strsD_map (ns : List Str) : strsD (ns.map .str) = some ns := by induction ns <;> simp_all [strsD]
/-- the items of a list that is walked by a builtin: a list only -/
def lstOf : List D → Option (List D)
  | [.list ds] => some ds
  | _ => none
theorem lstOf_eq {ds xs : List D} (h : lstOf ds = some xs) : ds = [.list xs] := by
  unfold lstOf at h
  split at h
  · cases h; rfl
  · cases h
def gSum (as : List D) : Option D := (lstOf as).bind fun ds => (intsD ds).map fun ns => .int ns.sum
def gAny (as : List D) : Option D := (lstOf as).bind fun ds => (boolsD ds).map fun ns => .bool (ns.any id)
def gAll (as : List D) : Option D := (lstOf as).bind fun ds => (boolsD ds).map fun ns => .bool (ns.all id)
section
variable {X : Cx} {W : WX} {K : PySem.W.Frag}
theorem s1_sum : S1 K (rSum K) (lk gSum) := by
  refine s1_one (fun B F ρ σ H v a d dz Q S q e e2 k => ?_) fun ds dz e => ?_
  · obtain ⟨xs, e3, e4⟩ := Option.bind_eq_some_iff.mp e2
    obtain ⟨ns, e5, e6⟩ := Option.map_eq_some_iff.mp e4
    cases lstOf_eq e3
    subst e6
    obtain ⟨p, vs, rfl, h1, h2⟩ := S.items q e
    rw [intsD_eq e5] at h2
    cases h2.of_ints
    exact ⟨p, ns, rfl, h1, k F _ H (Same.refl F) S (.int _)⟩
  · obtain ⟨xs, e3, _⟩ := Option.bind_eq_some_iff.mp e
    exact ⟨_, lstOf_eq e3⟩
theorem s1_any : S1 K (rAny K) (lk gAny) := by
  refine s1_one (fun B F ρ σ H v a d dz Q S q e e2 k => ?_) fun ds dz e => ?_
  · obtain ⟨xs, e3, e4⟩ := Option.bind_eq_some_iff.mp e2
    obtain ⟨ns, e5, e6⟩ := Option.map_eq_some_iff.mp e4
    cases lstOf_eq e3
    subst e6
    obtain ⟨p, vs, rfl, h1, h2⟩ := S.items q e
    rw [boolsD_eq e5] at h2
    cases h2.of_bools
    exact ⟨p, ns, rfl, h1, k F _ H (Same.refl F) S (.bl _)⟩
  · obtain ⟨xs, e3, _⟩ := Option.bind_eq_some_iff.mp e
    exact ⟨_, lstOf_eq e3⟩
theorem s1_all : S1 K (rAll K) (lk gAll) := by
  refine s1_one (fun B F ρ σ H v a d dz Q S q e e2 k => ?_) fun ds dz e => ?_
  · obtain ⟨xs, e3, e4⟩ := Option.bind_eq_some_iff.mp e2
    obtain ⟨ns, e5, e6⟩ := Option.map_eq_some_iff.mp e4
    cases lstOf_eq e3
    subst e6
    obtain ⟨p, vs, rfl, h1, h2⟩ := S.items q e
    rw [boolsD_eq e5] at h2
    cases h2.of_bools
    exact ⟨p, ns, rfl, h1, k F _ H (Same.refl F) S (.bl _)⟩
  · obtain ⟨xs, e3, _⟩ := Option.bind_eq_some_iff.mp e
    exact ⟨_, lstOf_eq e3⟩
/-- tuple(a list | a tuple) -/
def gTuple : List D → Option D
  | [.list ds] => some (.tuple ds)
  | [.tuple ds] => some (.tuple ds)
  | _ => none
def rTuple (K : PySem.W.Frag) : List V → Hp → VK → Prop := fun xs H Q => ∃ p ys, xs = [.ref p] ∧ ((SqL K H p ys ∧ ∀ l, H l = none → Q (.ref l) (upd H l (.tup ys))) ∨ (SqT K H p ys ∧ Q (.ref p) H))
theorem s1_tuple : S1 K (rTuple K) (lk gTuple) := by
  refine s1_one (fun B F ρ σ H v a d dz Q S q e e2 k => ?_) (fun ds dz e => ?_)
  · unfold gTuple at e2
    split at e2
    · rename_i ds hd
      cases hd
      cases e2
      obtain ⟨p, vs, rfl, h1, h2⟩ := S.items q e
      exact ⟨p, vs, rfl, .inl ⟨h1, fun l n => S.newTup n h2 rfl k⟩⟩
    · rename_i ds hd
      cases hd
      cases e2
      obtain ⟨p, vs, rfl, h1, h2⟩ := S.tuple q e
      exact ⟨p, vs, rfl, .inr ⟨sqT_mono S.f h1, k F _ H (Same.refl F) S (.tup h1 h2)⟩⟩
    · cases e2
  · unfold gTuple at e
    split at e <;> first | exact ⟨_, rfl⟩ | cases e

/-! ### what makes a new list -/
theorem Sim.newL {B : Base} {F : Hp} {ρ : Env} {σ : St} {H : Hp} (S : Sim K B F ρ σ H) {p : Addr} {vs : List V} {ds : List D} (e : H p = none) (r : DrAll K F vs ds) : Sim K B F ρ σ (upd H p (.lst vs)) ∧ NewAt K B F ρ σ (upd H p (.lst vs)) p (.list ds) := by
  obtain ⟨g0, f0, h0⟩ := S.free e
  exact ⟨S.fresh e, ⟨⟨_, upd_same, r⟩, f0, g0, h0, S.noslot e⟩⟩
def S1N (K : PySem.W.Frag) (r : List V → Hp → VK → Prop) (g : Env → List Rv → Option D) : Prop :=
  ∀ (B : Base) (F : Hp) (ρ : Env) (σ : St) (H : Hp) (vs : List V) (rs : List Rv) (dz : D) (Q : VK), Sim K B F ρ σ H → RvsOk K F σ rs vs → g ρ rs = some dz →
    (∀ F' p H', Same F F' → Sim K B F' ρ σ H' → NewAt K B F' ρ σ H' p dz → Q (.ref p) H') → r vs H Q
def xCallN (g : Env → List Rv → Option D) (φ : Den (List Rv)) : Den D := fun ρ => (φ ρ).bind fun rs ρ1 => ofO (g ρ1 rs) ρ1
theorem tcb_soundN {r : List V → Hp → VK → Prop} {g : Env → List Rv → Option D} {ψ : Den (List Rv)} (hs : S1N X.K r g) {σ : St} {H : Hp} {Q : VK} (h : tDN X.K W (xCallN g ψ) σ H Q) : tCB r (tDA X.K W ψ) σ H Q := by
  obtain ⟨B, F, ρ, S, w⟩ := h
  refine ⟨B, F, ρ, S, wp_mono (wp_bind w) (fun rs ρ1 w1 F1 vs H1 s1 S1 q1 => ?_) fun _ _ z => z⟩
  obtain ⟨d, e1, w2⟩ := wp_ofO w1
  exact hs B F1 ρ1 σ H1 vs rs d Q S1 q1 e1 fun F2 v H2 s2 S2 q2 => w2 F2 v H2 (s1.trans s2) S2 q2
variable {e a b : Expr} {es : List Expr} {p pos : Pos} {φ χ : Den Rv} {ψ : Den (List Rv)}
theorem dn_callTy {T : String} {x : Str} {r : List V → Hp → VK → Prop} {g : Env → List Rv → Option D} (hc : CallR X (.type T) r) (hs : S1N X.K r g) (hg : Gl X x) (hm : X.mg x = none) (hv : bootBuiltins x = some (.type T)) (ha : DA X W (e :: es) ψ) (hn : x ≠ "__name__" := by decide) (hdb : (x == ("__debug__" : Str)) = false := by decide)
    (he : starEach (e :: es) X.env = (false, eval e X.env) :: starEach es X.env := by rfl) (hpl : (backTo pos (starEach es X.env)).any (·.1) = false := by rfl) : DN X W (.Call (.Name x p) (e :: es) [] pos) (xCallN g ψ) :=
  pe_imp (pe_callTy hc hg hm hv ha hn hdb he hpl) fun _ _ _ h => tcb_soundN hs h
theorem dn_callB {id : String} {x : Str} {r : List V → Hp → VK → Prop} {g : Env → List Rv → Option D} (hc : CallR X (.builtin id) r) (hs : S1N X.K r g) (hg : Gl X x) (hm : X.mg x = none) (hv : bootBuiltins x = some (.builtin id)) (ha : DA X W (e :: es) ψ) (hn : x ≠ "__name__" := by decide) (hdb : (x == ("__debug__" : Str)) = false := by decide)
    (he : starEach (e :: es) X.env = (false, eval e X.env) :: starEach es X.env := by rfl) (hpl : (backTo pos (starEach es X.env)).any (·.1) = false := by rfl) : DN X W (.Call (.Name x p) (e :: es) [] pos) (xCallN g ψ) :=
  pe_imp (pe_callB hc hg hm hv ha hn hdb he hpl) fun _ _ _ h => tcb_soundN hs h
/-- one argument, a new list -/
theorem s1n_one {r : List V → Hp → VK → Prop} {g : List D → Option D}
    (h : ∀ (B : Base) (F : Hp) (ρ : Env) (σ : St) (H : Hp) (v : V) (a : Rv) (d dz : D) (Q : VK), Sim K B F ρ σ H → RvOk K F σ a v → look ρ a = some d → g [d] = some dz → (∀ F' p H', Same F F' → Sim K B F' ρ σ H' → NewAt K B F' ρ σ H' p dz → Q (.ref p) H') → r [v] H Q)
    (h1 : ∀ ds dz, g ds = some dz → ∃ d, ds = [d]) : S1N K r (lk g) := by
  intro B F ρ σ H vs rs dz Q S q e k
  obtain ⟨ds, e1, e2⟩ := lk_one e
  obtain ⟨d, rfl⟩ := h1 _ _ e2
  obtain ⟨a, rfl, e4⟩ := looks_one e1
  cases q with
  | cons q1 t =>
    cases t
    exact h B F ρ σ H _ a d dz Q S q1 e4 e2 k
/-- list(a list | a tuple | a text) -/
def gList : List D → Option D
  | [.list ds] => some (.list ds)
  | [.tuple ds] => some (.list ds)
  | [.str z] => if z.length ≤ sizeLine then some (.list (z.cps.toList.map fun c => .str ⟨#[c]⟩)) else none
  | _ => none
def rList (K : PySem.W.Frag) : List V → Hp → VK → Prop := fun xs H Q => (∃ p ys, xs = [.ref p] ∧ (SqL K H p ys ∨ SqT K H p ys) ∧ ∀ l, H l = none → Q (.ref l) (upd H l (.lst ys))) ∨
  ∃ z, xs = [.str z] ∧ z.length ≤ sizeLine ∧ ∀ l, H l = none → Q (.ref l) (upd H l (.lst (z.cps.toList.map fun c => V.str ⟨#[c]⟩)))
theorem vals_of_get : ∀ {xs : List V} {us : List Value}, xs.length = us.length → (∀ (j : Nat) (x : V) (u : Value), xs[j]? = some x → us[j]? = some u → RelV x u) → Vals xs us
  | [], [], _, _ => .nil
  | x :: xs, u :: us, hl, h => .cons (h 0 x u rfl rfl) (vals_of_get (Nat.succ.inj hl) fun j => h (j + 1))
theorem call_listStr (hc : X.calm = true) : CallR X (.type "list") (fun xs H Q => ∃ z, xs = [.str z] ∧ z.length ≤ sizeLine ∧ ∀ l, H l = none → Q (.ref l) (upd H l (.lst (z.cps.toList.map fun c => V.str ⟨#[c]⟩)))) := by
  intro pins s σ H xs us Q I r h
  obtain ⟨z, rfl, hz, h⟩ := h
  cases r with
  | cons r rr =>
    cases rr
    obtain ⟨t, rfl⟩ := r
    refine PySem.call_list_str (I.ok.hd hc) z t (fun h' tk acc' c' hk hS hacc => ?_) hz
    have new : ObjOk X.prog X.w (upd H s.heap.objs.size (.lst (z.cps.toList.map fun c => V.str ⟨#[c]⟩))) h' s.heap.objs.size (.lst (z.cps.toList.map fun c => V.str ⟨#[c]⟩)) := by
      refine ⟨by rw [List.length_map, Array.length_toList]; exact hz, acc'.toList, c', ?_, by simpa using hS⟩
      refine vals_of_get (by simp [hacc.1]) fun j x u e1 e2 => ?_
      obtain ⟨c, u', h1, h2⟩ := hacc.2 j u (by simpa using e2)
      subst h2
      rw [List.getElem?_map] at e1
      have h1' : z.cps.toList[j]? = some c := by simpa using h1
      rw [h1'] at e1
      cases e1
      exact ⟨u', rfl⟩
    exact ⟨.ref _, _, I.laid (t' := tk) hk (Nat.le_refl _) new, rfl, h _ I.fresh⟩
theorem call_listA (hc : X.calm = true) : CallR X (.type "list") (rList X.K) := callR_or call_list_of (call_listStr hc)
theorem DrAll.signs {F : Hp} : ∀ (cs : List Nat), DrAll K F (cs.map fun c => V.str ⟨#[c]⟩) (cs.map fun c => PyData.str ⟨#[c]⟩)
  | [] => .nil
  | c :: cs => .cons (.str _) (DrAll.signs cs)
theorem s1n_list : S1N K (rList K) (lk gList) := by
  refine s1n_one (fun B F ρ σ H v a d dz Q S q e e2 k => ?_) (fun ds dz e => ?_)
  · unfold gList at e2
    split at e2
    · rename_i ds hd
      cases hd
      cases e2
      obtain ⟨p, vs, rfl, h1, h2⟩ := S.items q e
      exact .inl ⟨p, vs, rfl, .inl h1, fun l n => let ⟨S', N⟩ := S.newL n h2; k F l _ (Same.refl F) S' N⟩
    · rename_i ds hd
      cases hd
      cases e2
      obtain ⟨p, vs, rfl, h1, h2⟩ := S.tuple q e
      exact .inl ⟨p, vs, rfl, .inr (sqT_mono S.f h1), fun l n => let ⟨S', N⟩ := S.newL n h2; k F l _ (Same.refl F) S' N⟩
    · rename_i z hd
      cases hd
      obtain ⟨hz, e2⟩ := if_some e2
      subst e2
      exact .inr ⟨z, by rw [S.str q e], hz, fun l n => let ⟨S', N⟩ := S.newL n (DrAll.signs _); k F l _ (Same.refl F) S' N⟩
    · cases e2
  · unfold gList at e
    split at e <;> first | exact ⟨_, rfl⟩ | cases e
/-! ### lists one behind the other, lists and texts many times -/
def rCatL (K : PySem.W.Frag) : R2 := fun x y H Q => ∃ l b xs zs, x = .ref l ∧ y = .ref b ∧ SqL K H l xs ∧ SqL K H b zs ∧ xs.length + zs.length ≤ sizeLine ∧ ∀ p, H p = none → Q (.ref p) (upd H p (.lst (xs ++ zs)))
theorem op_catL : OpR X (binaryOp .Add) (rCatL X.K) := by
  intro pins s σ H x y v u Q I rx ry h
  obtain ⟨l, b, xs, zs, rfl, rfl, hH, hB, hz, q⟩ := h
  cases rx
  cases ry
  obtain ⟨its, r, ⟨o, n, ho, hc, _, hd⟩, _⟩ := I.list hH
  obtain ⟨its2, r2, ⟨o2, n2, ho2, hc2, _, hd2⟩, _⟩ := I.list hB
  obtain ⟨cls, dd, data, sl⟩ := o
  obtain ⟨cls2, dd2, data2, sl2⟩ := o2
  simp only at hc hd hc2 hd2
  subst hc hd hc2 hd2
  have hz2 : its.toArray.size + its2.toArray.size ≤ sizeLine := by
    rw [List.size_toArray, List.size_toArray, ← r.length, ← r2.length]
    exact hz
  refine concat_meets ⟨_, ho, rfl⟩ ⟨_, ho2, rfl⟩ noFill_list_add seq_list_add PySem.F.slot_list_add PySem.F.entry_list_add (PySem.F.args_list_add_2 _ _) (PyProof.Rows.list_addW l b its.toArray its2.toArray n n2 dd dd2 sl sl2 hz2) ⟨ho, ho2, ?_⟩
  have ea : its.toArray ++ its2.toArray = (its ++ its2).toArray := by simp
  rw [ea]
  exact ⟨.ref _, _, I.lnew (t' := s.toks) (r.append r2) (by rw [List.length_append]; omega), rfl, q _ I.fresh⟩
def rRepL (K : PySem.W.Frag) : R2 := fun x y H Q => ∃ l k xs, x = .ref l ∧ y = .int k ∧ SqL K H l xs ∧ -(2 ^ 63) ≤ k ∧ k < 2 ^ 63 ∧ xs.length * k.toNat ≤ sizeLine ∧ ∀ p, H p = none → Q (.ref p) (upd H p (.lst (List.replicate k.toNat xs).flatten))
theorem op_repL : OpR X (binaryOp .Mult) (rRepL X.K) := by
  intro pins s σ H x y v u Q I rx ry h
  obtain ⟨l, k, xs, rfl, rfl, hH, h1, h2, hz, q⟩ := h
  cases rx
  obtain ⟨t, rfl⟩ := ry
  obtain ⟨its, r, ⟨o, n, ho, hc, _, hd⟩, _⟩ := I.list hH
  obtain ⟨cls, dd, data, sl⟩ := o
  simp only at hc hd
  subst hc hd
  have hlen : its.toArray.size * k.toNat ≤ sizeLine := by rw [List.size_toArray, ← r.length]; exact hz
  have hcap : ¬ its.toArray.size * k.toNat > (2 ^ 63 - 1) / 8 := by
    have : (sizeLine : Nat) ≤ (2 ^ 63 - 1) / 8 := by decide
    omega
  have hlong : ¬ Builtin.List.listTooLong (its.toArray.size * k.toNat) = true := by
    rw [notLongL hlen]
    exact Bool.false_ne_true
  have hfit : ¬ (!Builtin.List.listFitsIndex k) = true := by
    rw [fitsIndex_both h1 h2]
    exact Bool.false_ne_true
  refine wpAny_binaryOp_repeat_ref (T := "list") (U := "int") (by decide) ⟨_, ho, rfl⟩ (fun s' => typeIs_int s' k t) noFill_list_mul F.fills_int_mul F.slot_int_rmul repeat_list F.slot_int_index.lookup
    (call_meets F.slot_int_rmul (typeIs_int s k t) F.entry_int_rmul (F.args_int_rmul_2 _ _) (lm_int_rmul_list_any k t l its.toArray n dd sl)
      ⟨ho, rfl, ⟨_, ho, rfl⟩, call_meets F.slot_list_mul ⟨_, ho, rfl⟩ F.entry_list_mul (F.args_list_mul_2 _ _) (lm_list_mul_any l its.toArray n dd sl k t hfit hcap hlong) ⟨ho, ?_⟩⟩)
  rw [PyProof.Rows.listMul_foldl_if, List.toList_toArray]
  exact ⟨.ref _, _, I.lnew (t' := s.toks) (r.rep k.toNat) (by rw [PyProof.Rows.lm_len_rep_flat, Nat.mul_comm]; exact hz), rfl, q _ I.fresh⟩
def gRep : D → D → Option D
  | .list xs, .int k => if -(2 ^ 63) ≤ k ∧ k < 2 ^ 63 ∧ xs.length * k.toNat ≤ sizeLine then some (.list (List.replicate k.toNat xs).flatten) else none
  | _, _ => none
def S2N (K : PySem.W.Frag) (r : R2) (op : D → D → Option D) : Prop :=
  ∀ (B : Base) (F : Hp) (ρ : Env) (σ : St) (H : Hp) (x y : V) (a b : Rv) (da db dz : D) (Q : VK), Sim K B F ρ σ H → RvOk K F σ a x → RvOk K F σ b y → look ρ a = some da → look ρ b = some db → op da db = some dz →
    (∀ F' p H', Same F F' → Sim K B F' ρ σ H' → NewAt K B F' ρ σ H' p dz → Q (.ref p) H') → r x y H Q
/-- a new list out of two values -/
def xOpN (op : D → D → Option D) (φ ψ : Den Rv) : Den D := fun ρ => (φ ρ).bind fun a ρ1 => (ψ ρ1).bind fun b ρ2 => (appl2 op a b ρ2).bind fun r ρ3 => match r with
  | .dat d => .ok d ρ3
  | .slot _ => .bad
theorem dn_op {op : Operator} {r : R2} {g : D → D → Option D} (ho : OpR X (binaryOp op) r) (hs : S2N X.K r g) {ψ : Den Rv} (ha : DE X W a φ) (hb : DE X W b ψ) : DN X W (.BinOp a op b pos) (xOpN g φ ψ) := by
  refine pe_imp (pe_op ho ha hb) fun σ H Q h => ?_
  obtain ⟨B, F, ρ, S, w⟩ := h
  refine ⟨B, F, ρ, S, wp_mono (wp_bind w) (fun a ρ1 w1 F1 x H1 s1 S1 q1 => ?_) fun _ _ z => z⟩
  refine ⟨B, F1, ρ1, S1, wp_mono (wp_bind w1) (fun b ρ2 w2 F2 y H2 s2 S2 q2 => ?_) fun _ _ z => z.up s1⟩
  obtain ⟨da, db, dz, e1, e2, e3, w3⟩ := wp_appl2 (wp_bind w2)
  exact hs B F2 ρ2 σ H2 x y _ _ da db dz Q S2 (q1.up s2) q2 e1 e2 e3 fun F3 p H3 s3 S3 N3 => w3 F3 p H3 ((s1.trans s2).trans s3) S3 N3
theorem s2n_cat : S2N K (rCatL K) gCat := by
  intro B F ρ σ H x y a b da db dz Q S ra rb ea eb e q
  cases da <;> cases db <;> simp only [gCat, reduceCtorEq] at e
  obtain ⟨hc, e⟩ := if_some e
  subst e
  obtain ⟨p, vs, rfl, h1, h2⟩ := S.items ra ea
  obtain ⟨p', us, rfl, g1, g2⟩ := S.items rb eb
  exact ⟨p, p', vs, us, rfl, rfl, h1, g1, by rw [h2.length, g2.length]; exact hc, fun l n => let ⟨S', N⟩ := S.newL n (h2.append g2); q F l _ (Same.refl F) S' N⟩
theorem DrAll.rep {F : Hp} {vs : List V} {ds : List D} (r : DrAll K F vs ds) : ∀ n : Nat, DrAll K F (List.replicate n vs).flatten (List.replicate n ds).flatten
  | 0 => .nil
  | n + 1 => by
    rw [List.replicate_succ, List.replicate_succ, List.flatten_cons, List.flatten_cons]
    exact r.append (DrAll.rep r n)
theorem s2n_rep : S2N K (rRepL K) gRep := by
  intro B F ρ σ H x y a b da db dz Q S ra rb ea eb e q
  cases da <;> cases db <;> simp only [gRep, reduceCtorEq] at e
  obtain ⟨hc, e⟩ := if_some e
  subst e
  obtain ⟨p, vs, rfl, h1, h2⟩ := S.items ra ea
  exact ⟨p, _, vs, rfl, S.int rb eb, h1, hc.1, hc.2.1, by rw [h2.length]; exact hc.2.2, fun l n => let ⟨S', N⟩ := S.newL n (h2.rep _); q F l _ (Same.refl F) S' N⟩
/-- a + b of ints, texts, tuples, lists; as data -/
def gAddA (a b : D) : Option D := (gAdd a b).or (gCat a b)
theorem s2_cat : S2 K (rCatL K) gCat := by
  intro B F ρ σ H x y a b da db dz Q S ra rb ea eb e q
  cases da <;> cases db <;> simp only [gCat, reduceCtorEq] at e
  obtain ⟨hc, e⟩ := if_some e
  obtain ⟨p, vs, rfl, h1, h2⟩ := S.items ra ea
  obtain ⟨p', us, rfl, g1, g2⟩ := S.items rb eb
  exact ⟨p, p', vs, us, rfl, rfl, h1, g1, by rw [h2.length, g2.length]; exact hc, fun l n => S.newLst n (h2.append g2) e.symm q⟩
def rAddA (K : PySem.W.Frag) : R2 := fun x y H Q => rAdd K x y H Q ∨ rCatL K x y H Q
theorem op_addL : OpR X (binaryOp .Add) (rAddA X.K) := OpR.or op_addA op_catL
theorem s2_addL : S2 K (rAddA K) gAddA := S2.or s2_add s2_cat
/-- a text times an int -/
def strRep (n : Nat) (z : Str) : Str := ⟨(List.replicate n z.cps.toList).flatten.toArray⟩
def rMulS : R2 := fun x y H Q => ∃ z k, x = .str z ∧ y = .int k ∧ 1 ≤ k ∧ k < 2 ^ 40 ∧ z.length * k.toNat ≤ sizeLine ∧ Q (.str (strRep k.toNat z)) H
theorem foldl_app (z : Array Nat) : ∀ (n : Nat) (acc : Array Nat), (List.replicate n z).foldl (· ++ ·) acc = acc ++ (List.replicate n z.toList).flatten.toArray
  | 0, acc => by simp
  | n + 1, acc => by
    rw [List.replicate_succ, List.foldl_cons, foldl_app z n, List.replicate_succ, List.flatten_cons, Array.append_assoc]
    congr 1
    apply Array.ext'
    simp
theorem op_mulS : OpR X (binaryOp .Mult) rMulS := by
  intro pins s σ H x y v u Q I rx ry h
  obtain ⟨z, k, rfl, rfl, h1, h2, hz, q⟩ := h
  obtain ⟨t, rfl⟩ := rx
  obtain ⟨t', rfl⟩ := ry
  have hn : ¬ k < 1 := by omega
  refine PySem.P.mul_str (by rw [decide_eq_false (by omega), decide_eq_false (by omega)]; rfl) (fun _ _ => ?_) (fun _ _ => ?_) ?_
  · have hk : (z.length : Int) * k ≤ 2 ^ 24 := by
      have : ((z.length * k.toNat : Nat) : Int) ≤ (2 ^ 24 : Nat) := by exact_mod_cast hz
      have e2 : ((z.length * k.toNat : Nat) : Int) = (z.length : Int) * k := by
        rw [Int.natCast_mul, Int.toNat_of_nonneg (by omega)]
      rw [e2] at this
      exact_mod_cast this
    intro hg
    have h3 : (2 ^ 63 - 1) / k + 1 ≤ (z.length : Int) := hg
    have h5 : (2 ^ 63 - 1) % k < k := Int.emod_lt_of_pos _ (by omega)
    have h6 := Int.mul_ediv_add_emod (2 ^ 63 - 1) k
    have h7 : ((2 ^ 63 - 1) / k + 1) * k ≤ (z.length : Int) * k := Int.mul_le_mul_of_nonneg_right h3 (by omega)
    have h8 : ((2 ^ 63 - 1) / k + 1) * k = k * ((2 ^ 63 - 1) / k) + k := by rw [Int.add_mul, Int.one_mul, Int.mul_comm]
    omega
  · unfold Builtin.Str.tooLong
    exact decide_eq_false (by have : sizeLine = 2 ^ 24 := rfl; omega)
  · rw [if_neg hn]
    split
    · rename_i hc
      have e : strRep k.toNat z = z := by
        unfold strRep
        rcases (Bool.or_eq_true _ _).mp hc with e | e
        · have e1 : k = 1 := by simpa using e
          subst e1
          simp
        · have e1 : z.cps = #[] := by
            have : z.cps.size = 0 := by simpa [Str.length] using e
            exact Array.eq_empty_of_size_eq_zero this
          cases z with
          | mk c =>
            simp only at e1
            subst e1
            simp [PyProof.Rows.lm_rep_nil]
      rw [e] at q
      exact ⟨.str z, H, I, ⟨t, rfl⟩, q⟩
    · have e : (⟨(List.replicate k.toNat z.cps).foldl (· ++ ·) #[]⟩ : Str) = strRep k.toNat z := by
        rw [foldl_app]
        unfold strRep
        simp
      rw [e]
      refine ⟨?_, .str _, H, I.tok _, ⟨_, rfl⟩, q⟩
      unfold strRep
      show (List.toArray _).size ≤ _
      rw [List.size_toArray, PyProof.Rows.lm_len_rep_flat]
      have : z.cps.toList.length = z.length := by simp [Str.length]
      rw [this, Nat.mul_comm]
      exact hz
end
end DL


/-! D layer, 9: membership, many times, methods of texts, f-strings, repr. -/
namespace DL
open PySem PySem.Spec L2
section
variable {X : Cx} {W : WX} {K : PySem.W.Frag} {e a b o : Expr} {es : List Expr} {p pos apos : Pos} {φ χ : Den Rv} {ψ : Den (List Rv)}

/-! ### texts many times -/
def gMulS : D → D → Option D
  | .str z, .int k => if 1 ≤ k ∧ k < 2 ^ 40 ∧ z.length * k.toNat ≤ sizeLine then some (.str (strRep k.toNat z)) else none
  | _, _ => none
theorem s2_mulS : S2 K rMulS gMulS := by
  intro B F ρ σ H x y a b da db dz Q S ra rb ea eb e q
  cases da <;> cases db <;> simp only [gMulS, reduceCtorEq] at e
  obtain ⟨hc, e⟩ := if_some e
  subst e
  exact ⟨_, _, S.str ra ea, S.int rb eb, hc.1, hc.2.1, hc.2.2, q F _ H (Same.refl F) S (.str _)⟩
theorem s2_rep : S2 K (rRepL K) gRep := by
  intro B F ρ σ H x y a b da db dz Q S ra rb ea eb e q
  cases da <;> cases db <;> simp only [gRep, reduceCtorEq] at e
  obtain ⟨hc, e⟩ := if_some e
  subst e
  obtain ⟨p, vs, rfl, h1, h2⟩ := S.items ra ea
  exact ⟨p, _, vs, rfl, S.int rb eb, h1, hc.1, hc.2.1, by rw [h2.length]; exact hc.2.2, fun l n => S.newLst n (h2.rep _) rfl q⟩
def gMulA (a b : D) : Option D := (gMul a b).or ((gMulS a b).or (gRep a b))
def rMulA (K : PySem.W.Frag) : R2 := fun x y H Q => rI CMul (fun i j => .int (i * j)) x y H Q ∨ (rMulS x y H Q ∨ rRepL K x y H Q)
theorem op_mulA : OpR X (binaryOp .Mult) (rMulA X.K) := OpR.or op_mul (OpR.or op_mulS op_repL)
theorem s2_mulA : S2 K (rMulA K) gMulA := S2.or s2_mul (S2.or s2_mulS s2_rep)

/-! ### membership -/
def oneSign (y : Str) : Option Nat := if y.length = 1 then some (y.cps.getD 0 0) else none
theorem oneSign_eq {y : Str} {c : Nat} (h : oneSign y = some c) : y = ⟨#[c]⟩ := by
  unfold oneSign at h
  obtain ⟨h1, h2⟩ := if_some h
  cases y with
  | mk l =>
    have h1 : l.size = 1 := h1
    obtain ⟨x, hx⟩ := Array.size_eq_one_iff.mp h1
    subst hx
    cases h2
    rfl
def hasSign (y z : Str) : Option Bool := (oneSign y).map fun c => decide (c ∈ z.cps.toList)
def gInS (neg : Bool) : D → D → Option D
  | .str y, .str z => (hasSign y z).map fun r => .bool (if neg then !r else r)
  | _, _ => none
theorem s2_inS : S2 K (fun x y H Q => ∃ (c : Nat) (z : Str), x = .str ⟨#[c]⟩ ∧ y = .str z ∧ Q (.bl (decide (c ∈ z.cps.toList))) H) (gInS false) := by
  intro B F ρ σ H x y a b da db dz Q S ra rb ea eb e q
  cases da <;> cases db <;> simp only [gInS, reduceCtorEq] at e
  obtain ⟨r, e1, e2⟩ := Option.map_eq_some_iff.mp e
  obtain ⟨c, e3, e4⟩ := Option.map_eq_some_iff.mp e1
  subst e2 e4
  exact ⟨c, _, by rw [S.str ra ea, oneSign_eq e3], S.str rb eb, q F _ H (Same.refl F) S (.bl _)⟩
theorem s2_notInS : S2 K (fun x y H Q => ∃ (c : Nat) (z : Str), x = .str ⟨#[c]⟩ ∧ y = .str z ∧ Q (.bl (!decide (c ∈ z.cps.toList))) H) (gInS true) := by
  intro B F ρ σ H x y a b da db dz Q S ra rb ea eb e q
  cases da <;> cases db <;> simp only [gInS, reduceCtorEq] at e
  obtain ⟨r, e1, e2⟩ := Option.map_eq_some_iff.mp e
  obtain ⟨c, e3, e4⟩ := Option.map_eq_some_iff.mp e1
  subst e2 e4
  exact ⟨c, _, by rw [S.str ra ea, oneSign_eq e3], S.str rb eb, q F _ H (Same.refl F) S (.bl _)⟩
def gInL (neg : Bool) : D → D → Option D
  | d, .list ds => if SeqAt.shaped d = true ∧ SeqAt.shaped (.list ds) = true then some (.bool (if neg then !(ds.any fun z => PyData.eqv z d) else ds.any fun z => PyData.eqv z d)) else none
  | _, _ => none
theorem s2_inL : S2 K (rInD K) (gInL false) := by
  intro B F ρ σ H x y a b da db dz Q S ra rb ea eb e q
  cases db <;> simp only [gInL, reduceCtorEq] at e
  obtain ⟨hc, e⟩ := if_some e
  subst e
  exact ⟨da, _, Dr.dp _ _ (SeqAt.canLay_of_shaped hc.1) (S.look ra ea), Dr.dp _ _ (SeqAt.canLay_of_shaped hc.2) (S.look rb eb), hc.1, hc.2, q F _ H (Same.refl F) S (.bl _)⟩
theorem s2_notInL : S2 K (rNotInD K) (gInL true) := by
  intro B F ρ σ H x y a b da db dz Q S ra rb ea eb e q
  cases db <;> simp only [gInL, reduceCtorEq] at e
  obtain ⟨hc, e⟩ := if_some e
  subst e
  exact ⟨da, _, Dr.dp _ _ (SeqAt.canLay_of_shaped hc.1) (S.look ra ea), Dr.dp _ _ (SeqAt.canLay_of_shaped hc.2) (S.look rb eb), hc.1, hc.2, q F _ H (Same.refl F) S (.bl _)⟩
def gIn (neg : Bool) (a b : D) : Option D := (gInS neg a b).or (gInL neg a b)
def rInA (K : PySem.W.Frag) : R2 := fun x y H Q => (∃ (c : Nat) (z : Str), x = .str ⟨#[c]⟩ ∧ y = .str z ∧ Q (.bl (decide (c ∈ z.cps.toList))) H) ∨ rInD K x y H Q
def rNotInA (K : PySem.W.Frag) : R2 := fun x y H Q => (∃ (c : Nat) (z : Str), x = .str ⟨#[c]⟩ ∧ y = .str z ∧ Q (.bl (!decide (c ∈ z.cps.toList))) H) ∨ rNotInD K x y H Q
theorem op_inA {k : Nat} (r : Room k X.A) : OpR X (compareOp .In) (rInA X.K) := OpR.or op_in_sign (op_inD (by have := r.un; omega))
theorem op_notInA {k : Nat} (r : Room k X.A) : OpR X (compareOp .NotIn) (rNotInA X.K) := OpR.or op_notIn_sign (op_notInD (by have := r.un; omega))
theorem s2_inA : S2 K (rInA K) (gIn false) := S2.or s2_inS s2_inL
theorem s2_notInA : S2 K (rNotInA K) (gIn true) := S2.or s2_notInS s2_notInL

/-! ### methods of a text -/
def SMt (K : PySem.W.Frag) (r : V → List V → Hp → VK → Prop) (g : Str → List D → Option D) : Prop :=
  ∀ (B : Base) (F : Hp) (ρ : Env) (σ : St) (H : Hp) (z : Str) (vs : List V) (rs : List Rv) (ds : List D) (dz : D) (Q : VK), Sim K B F ρ σ H → RvsOk K F σ rs vs → looks ρ rs = some ds → g z ds = some dz →
    (∀ F' v H', Same F F' → Sim K B F' ρ σ H' → Dr K F' v dz → Q v H') → r (.str z) vs H Q
def strOf : Rv → Option Str
  | .dat (.str z) => some z
  | _ => none
theorem strOf_eq {r : Rv} {z : Str} (h : strOf r = some z) : r = .dat (.str z) := by
  unfold strOf at h
  split at h
  · cases h; rfl
  · cases h
def xMt0 (g : Str → List D → Option D) (φ : Den Rv) : Den Rv := fun ρ => (φ ρ).bind fun r ρ1 => (ofO ((strOf r).bind fun z => g z []) ρ1).bind fun d ρ2 => .ok (.dat d) ρ2
def xMt1 (g : Str → List D → Option D) (φ χ : Den Rv) : Den Rv := fun ρ => (φ ρ).bind fun r ρ1 => (ofO (strOf r) ρ1).bind fun z ρ2 => (χ ρ2).bind fun q ρ3 => (ofO ((looks ρ3 [q]).bind fun ds => g z ds) ρ3).bind fun d ρ4 => .ok (.dat d) ρ4
theorem de_mt0 {id : String} {name : Str} {r : V → List V → Hp → VK → Prop} {g : Str → List D → Option D} (slot : Slot "str" name id) (ty : typeOf (.builtin id) = pure (.type "method_descriptor")) (rule : MtR X id r) (hs : SMt X.K r g) (ho : DE X W o φ)
    (hbase : attributeBase o name X.env (eval o X.env) = eval o X.env := by rfl) (hline : (apos.endLine == pos.line) = true := by rfl) : DE X W (.Call (.Attribute o name apos) [] [] pos) (xMt0 g φ) := by
  refine pe_imp (pe_m0 slot ty rule ho hbase hline) fun σ H Q h => ?_
  obtain ⟨B, F, ρ, S, w⟩ := h
  refine ⟨B, F, ρ, S, wp_mono (wp_bind w) (fun a ρ1 w1 F1 x H1 s1 S1 q1 => ?_) fun _ _ z => z⟩
  obtain ⟨d, e1, w2⟩ := wp_ofO (wp_bind w1)
  obtain ⟨z, e2, e3⟩ := Option.bind_eq_some_iff.mp e1
  cases strOf_eq e2
  have q1 : Dr X.K F1 x (.str z) := q1
  cases q1
  exact ⟨⟨z, rfl⟩, hs B F1 ρ1 σ H1 z [] [] [] d Q S1 .nil rfl e3 fun F2 v H2 s2 S2 q2 => w2 F2 v H2 (s1.trans s2) S2 q2⟩
theorem de_mt1 {id : String} {name : Str} {r : V → List V → Hp → VK → Prop} {g : Str → List D → Option D} (slot : Slot "str" name id) (ty : typeOf (.builtin id) = pure (.type "method_descriptor")) (rule : MtR X id r) (hs : SMt X.K r g) (ho : DE X W o φ) (he : DE X W e χ)
    (hse : starEach [e] X.env = [(false, eval e X.env)] := by rfl) (hbase : attributeBase o name X.env (eval o X.env) = eval o X.env := by rfl) (hline : (apos.endLine == pos.line) = true := by rfl) : DE X W (.Call (.Attribute o name apos) [e] [] pos) (xMt1 g φ χ) := by
  refine pe_imp (pe_m1 slot ty rule ho he hse hbase hline) fun σ H Q h => ?_
  obtain ⟨B, F, ρ, S, w⟩ := h
  refine ⟨B, F, ρ, S, wp_mono (wp_bind w) (fun a ρ1 w1 F1 x H1 s1 S1 q1 => ?_) fun _ _ z => z⟩
  obtain ⟨z, e1, w2⟩ := wp_ofO (wp_bind w1)
  cases strOf_eq e1
  have q1 : Dr X.K F1 x (.str z) := q1
  cases q1
  refine ⟨⟨z, rfl⟩, B, F1, ρ1, S1, wp_mono (wp_bind w2) (fun b ρ2 w3 F2 y H2 s2 S2 q2 => ?_) fun _ _ z => z.up s1⟩
  obtain ⟨d, e3, w4⟩ := wp_ofO (wp_bind w3)
  obtain ⟨ds, e4, e5⟩ := Option.bind_eq_some_iff.mp e3
  exact hs B F2 ρ2 σ H2 z [y] [b] ds d Q S2 (.cons q2 .nil) e4 e5 fun F3 v H3 s3 S3 q3 => w4 F3 v H3 ((s1.trans s2).trans s3) S3 q3
/-- one text as the argument -/
theorem smt_str {r : V → List V → Hp → VK → Prop} {g : Str → List D → Option D} (h1 : ∀ z ds dz, g z ds = some dz → ∃ y, ds = [.str y])
    (h : ∀ (B : Base) (F : Hp) (ρ : Env) (σ : St) (H : Hp) (z y : Str) (dz : D) (Q : VK), Sim K B F ρ σ H → g z [.str y] = some dz → (∀ F' v H', Same F F' → Sim K B F' ρ σ H' → Dr K F' v dz → Q v H') → r (.str z) [.str y] H Q) : SMt K r g := by
  intro B F ρ σ H z vs rs ds dz Q S q e1 e2 k
  obtain ⟨y, rfl⟩ := h1 _ _ _ e2
  obtain ⟨a, rfl, e4⟩ := looks_one e1
  cases q with
  | cons q1 t =>
    cases t
    cases S.str q1 e4
    exact h B F ρ σ H z y dz Q S e2 k
def gSplit (z : Str) : List D → Option D
  | [.str y] => if (y.length == 0) = false ∧ z.length + 2 ≤ sizeLine then some (.list ((PySem.Txt.split z y).map .str)) else none
  | _ => none
theorem smt_split : SMt K (fun x xs H Q => ∃ a b, x = .str a ∧ xs = [.str b] ∧ (b.length == 0) = false ∧ a.length + 2 ≤ sizeLine ∧ rNewStrs (PySem.Txt.split a b) H Q) gSplit := by
  refine smt_str (fun z ds dz e => ?_) fun B F ρ σ H z y dz Q S e k => ?_
  · unfold gSplit at e
    split at e
    · exact ⟨_, rfl⟩
    · cases e
  · obtain ⟨hc, e⟩ := if_some (show (if (y.length == 0) = false ∧ z.length + 2 ≤ sizeLine then some (PyData.list ((PySem.Txt.split z y).map .str)) else none) = some dz from e)
    exact ⟨z, y, rfl, rfl, hc.1, hc.2, fun p n => S.newLst n (DrAll.strs _) e.symm k⟩
def gStarts (z : Str) : List D → Option D
  | [.str y] => some (.bool (PySem.Txt.startswith z y))
  | _ => none
theorem smt_starts : SMt K (fun x xs H Q => ∃ a b, x = .str a ∧ xs = [.str b] ∧ Q (.bl (PySem.Txt.startswith a b)) H) gStarts := by
  refine smt_str (fun z ds dz e => ?_) fun B F ρ σ H z y dz Q S e k => ?_
  · unfold gStarts at e
    split at e
    · exact ⟨_, rfl⟩
    · cases e
  · cases e
    exact ⟨z, y, rfl, rfl, k F _ H (Same.refl F) S (.bl _)⟩
def gEnds (z : Str) : List D → Option D
  | [.str y] => some (.bool (PySem.Txt.endswith z y))
  | _ => none
theorem smt_ends : SMt K (fun x xs H Q => ∃ a b, x = .str a ∧ xs = [.str b] ∧ Q (.bl (PySem.Txt.endswith a b)) H) gEnds := by
  refine smt_str (fun z ds dz e => ?_) fun B F ρ σ H z y dz Q S e k => ?_
  · unfold gEnds at e
    split at e
    · exact ⟨_, rfl⟩
    · cases e
  · cases e
    exact ⟨z, y, rfl, rfl, k F _ H (Same.refl F) S (.bl _)⟩
def gJoin (z : Str) : List D → Option D
  | [.list ds] => (strsD ds).bind fun ys => if (ys.map (·.length)).sum + ys.length * z.length ≤ 16777216 then some (.str (PySem.Txt.join z ys)) else none
  | [.tuple ds] => (strsD ds).bind fun ys => if (ys.map (·.length)).sum + ys.length * z.length ≤ 16777216 then some (.str (PySem.Txt.join z ys)) else none
  | _ => none
theorem smt_join : SMt K (fun x xs H Q => ∃ a p, ∃ ys : List Str, x = .str a ∧ xs = [.ref p] ∧ (SqL K H p (ys.map V.str) ∨ SqT K H p (ys.map V.str)) ∧
    (ys.map (·.length)).sum + ys.length * a.length ≤ 16777216 ∧ Q (.str (PySem.Txt.join a ys)) H) gJoin := by
  intro B F ρ σ H z vs rs ds dz Q S q e1 e2 k
  unfold gJoin at e2
  split at e2
  · obtain ⟨ys, e3, e4⟩ := Option.bind_eq_some_iff.mp e2
    obtain ⟨hc, e5⟩ := if_some e4
    subst e5
    obtain ⟨a, rfl, e6⟩ := looks_one e1
    cases q with
    | cons q1 t =>
      cases t
      obtain ⟨p, vs, rfl, h1, h2⟩ := S.items q1 e6
      rw [strsD_eq e3] at h2
      cases h2.of_strs
      exact ⟨z, p, ys, rfl, rfl, .inl h1, hc, k F _ H (Same.refl F) S (.str _)⟩
  · obtain ⟨ys, e3, e4⟩ := Option.bind_eq_some_iff.mp e2
    obtain ⟨hc, e5⟩ := if_some e4
    subst e5
    obtain ⟨a, rfl, e6⟩ := looks_one e1
    cases q with
    | cons q1 t =>
      cases t
      obtain ⟨p, vs, rfl, h1, h2⟩ := S.tuple q1 e6
      rw [strsD_eq e3] at h2
      cases h2.of_strs
      exact ⟨z, p, ys, rfl, rfl, .inr (sqT_mono S.f h1), hc, k F _ H (Same.refl F) S (.str _)⟩
  · cases e2
/-- x.index(y), where y stands in x -/
def rIndexS : V → List V → Hp → VK → Prop := fun x xs H Q => ∃ (a b : Str) (k : Nat), x = .str a ∧ xs = [.str b] ∧ PySem.Txt.index0 a b = some k ∧ Q (.int (k : Nat)) H
theorem mt_indexS (hc : X.calm = true) : MtR X "str.index" rIndexS := by
  intro pins s σ H x xs v us Q I rx rs h
  obtain ⟨a, b, k, rfl, rfl, e, h⟩ := h
  obtain ⟨t, rfl⟩ := rx
  cases rs with
  | cons r1 rs =>
    cases rs
    obtain ⟨u, rfl⟩ := r1
    unfold PySem.Txt.index0 at e
    cases q : Builtin.Str.occurrences a b 0 a.length 1 with
    | nil => rw [q] at e; cases e
    | cons m rest =>
      rw [q] at e
      cases e
      exact PySem.SC.index q ⟨.int (k : Nat), H, I.tok _, ⟨_, rfl⟩, h⟩
def gIndex (z : Str) : List D → Option D
  | [.str y] => (PySem.Txt.index0 z y).map fun k => .int (k : Nat)
  | _ => none
theorem smt_index : SMt K rIndexS gIndex := by
  refine smt_str (fun z ds dz e => ?_) fun B F ρ σ H z y dz Q S e k => ?_
  · unfold gIndex at e
    split at e
    · exact ⟨_, rfl⟩
    · cases e
  · obtain ⟨j, e1, e2⟩ := Option.map_eq_some_iff.mp (show (PySem.Txt.index0 z y).map (fun k => PyData.int (k : Nat)) = some dz from e)
    subst e2
    exact ⟨z, y, j, rfl, rfl, e1, k F _ H (Same.refl F) S (.int _)⟩
/-! ### f-strings -/
def asText (d : D) : Option D := match d with
  | .str y => if y.length ≤ sizeLine then some (.str y) else none
  | .int i => if i.natAbs.log2 < 1920 then some (.str (toString i)) else none
  | _ => none
def xFmt (φ : Den Rv) : Den Rv := fun ρ => (φ ρ).bind fun r ρ1 => (ofO ((look ρ1 r).bind asText) ρ1).bind fun d ρ2 => .ok (.dat d) ρ2
theorem de_fmt (he : DE X W e φ) : DE X W (.FormattedValue e (-1) none pos) (xFmt φ) := by
  refine pe_imp (pe_fmt he) fun σ H Q h => ?_
  obtain ⟨B, F, ρ, S, w⟩ := h
  refine ⟨B, F, ρ, S, wp_mono (wp_bind w) (fun a ρ1 w1 F1 x H1 s1 S1 q1 => ?_) fun _ _ z => z⟩
  obtain ⟨dz, e1, w2⟩ := wp_ofO (wp_bind w1)
  obtain ⟨d, e2, e3⟩ := Option.bind_eq_some_iff.mp e1
  unfold asText at e3
  split at e3
  · obtain ⟨hz, e4⟩ := if_some e3
    subst e4
    exact .inl ⟨_, S1.str q1 e2, hz, w2 F1 _ H1 s1 S1 (.str _)⟩
  · obtain ⟨hz, e4⟩ := if_some e3
    subst e4
    exact .inr ⟨_, S1.int q1 e2, hz, w2 F1 _ H1 s1 S1 (.str _)⟩
  · cases e3
end
end DL
namespace DL
open PySem PySem.Spec L2 PyProof.Rows Builtin Float
/-- {x:03d} and its like, of an int that is not too long -/
theorem pad_field {prog : Program} {w : World} {A : Around} {E : Value → Shared → Prop} {s : Shared} {i : Int} {tk : Tok} {sp : Str} {g : FormatSpec} {Q : Value → Shared → Prop}
    (small : i.natAbs.log2 < 1920) (hp : parseFormatSpec sp.cps.toList "int" 62 = .ok g) (hne : (sp.length == 0) = false)
    (hasc : ((sp.cps.toList.drop 1).any (· ≥ 128) || (sp.cps.getD 0 0 ≥ 128 && !([60, 62, 61, 94] : List Nat).contains (sp.cps.getD 1 0))) = false) (good : intSpecGood sp g = true) (hsz : sp.length ≤ sizeLine)
    (q : ∀ u k, Q (.str (intSpecText g i) u) { s with toks := k }) : wpAny (model prog w) A (formatField (.int i tk) sp) Q E s := by
  unfold intSpecGood at good
  simp only [Bool.and_eq_true] at good
  obtain ⟨⟨⟨⟨⟨⟨g1, g2⟩, g3⟩, g4⟩, g5⟩, g6⟩, g7⟩ := good
  replace g1 := beq_iff_eq.mp g1
  replace g2 := Option.isNone_iff_eq_none.mp g2
  replace g3 : g.noNeg0 = false := (by simpa using g3)
  replace g4 : g.alt = false := (by simpa using g4)
  replace g5 : g.width.getD 0 ≤ 100000 := (by simpa using g5)
  replace g6 := Option.isNone_iff_eq_none.mp g6
  replace g7 := Option.isNone_iff_eq_none.mp g7
  have few : (Nat.toDigits 10 i.natAbs).length ≤ 2000 := by
    have h1 : i.natAbs < 10 ^ 2000 := Nat.lt_of_lt_of_le (lt_of_log2 small) (by decide +kernel)
    have h2 := (Nat.length_repr_le_iff (n := i.natAbs) (k := 2000) (by decide)).mpr h1
    rwa [← String.length_toList, Nat.toList_repr] at h2
  have hlen : (intSpecText g i).length ≤ sizeLine := by rw [intSpecText_length i g6 g7, sizeLine_eq]; split <;> omega
  refine (show wpAny _ _ (holding [.int i tk] (pyFormat (.int i tk) sp)) Q E s from wpAny_holding ?_)
  unfold pyFormat; refine wpAny_bind (wpAny_mkStr ?_ hsz)
  refine wpAny_bind (m := callSpecial? (.int i tk) (Str.ofString "__format__") [.str sp s.toks]) (wpAny_callSpecial?_slot (name := Str.ofString "__format__") (typeIs_int _ i tk) PySem.F.slot_int_format ?_)
  refine wpAny_call (codeAny_call_builtin PySem.F.slot_int_format.plain PySem.F.entry_int_format (PySem.F.slot_int_format.check _ _ _ _ _ _ _ _ (typeIs_int _ i tk) (PySem.F.args_int_format_2 _ _) ?_))
  unfold Builtin.«int.__format__»
  simp only [selfAndOne, noKeywords, Int.intOfSelf, asInt?, asStr?, List.isEmpty_nil, if_true, pure_bind, bind_pure, bind_assoc, hne, hasc, Bool.false_eq_true, if_false, show (Value.str sp s.toks == Value.none) = false from rfl]
  refine wpAny_bind (wpAny_typeNameOf (T := "str") (typeIs_str _ _ _) (by decide) fun _ => ?_)
  first | refine wpAny_bind (wpAny_typeNameOfCut_int ?_) | refine wpAny_bind (wpAny_typeNameOf_int ?_)
  simp only [hp, g1]
  rw [if_pos (by decide)]
  show wpAny _ _ (if _ then _ else _) _ _ _; rw [if_neg (by simp [g2])]
  show wpAny _ _ (if _ then _ else _) _ _ _; rw [if_neg (by simp [g3])]
  show wpAny _ _ (if _ then _ else _) _ _ _; rw [if_neg (by decide)]
  show wpAny _ _ (do let lim ← Builtin.overDigitLimit? i; _) _ _ _
  refine wpAny_bind ?_
  rw [PySem.overDigitLimit_small small]
  refine wpAny_pure ?_
  show wpAny _ _ (if _ then _ else _) _ _ _; rw [if_neg (by simpa using (show ¬ (g.width.getD 0 > 100000) from Nat.not_lt.mpr g5))]
  show wpAny _ _ (retStr _) _ _ _; unfold retStr
  refine wpAny_bind (wpAny_mkStr (wpAny_pure ?_) ?hs2)
  case hs2 =>
    simp only [g4, Bool.false_eq_true, if_false, show ((10 : Nat) == 10) = true by decide, if_true]; conv => lhs; arg 1; whnf
    simp only [intSpecText, intField', g6, g7, g4, Bool.false_eq_true, if_false, show ((10 : Nat) == 10) = true by decide, if_true] at hlen ⊢; exact hlen
  dsimp only; refine wpAny_bind (wpAny_isInstance (typeIs_str _ _ _) isSubtype_str_str (wpAny_pure ?_))
  simp only [g4, Bool.false_eq_true, if_false, show ((10 : Nat) == 10) = true by decide, if_true]; conv => arg 1; arg 1; whnf
  simp only [intSpecText, intField', g6, g7, g4, Bool.false_eq_true, if_false, show ((10 : Nat) == 10) = true by decide, if_true] at q ⊢
  exact q _ _
end DL
namespace DL
open PySem PySem.Spec L2
section
variable {X : Cx} {W : WX} {K : PySem.W.Frag} {e v1 v2 spec : Expr} {es : List Expr} {p pos apos : Pos} {φ χ : Den Rv} {ψ : Den (List Rv)}
def padD (sp : Str) (d : D) : Option D := match d with
  | .int i => if PyProof.Rows.intSpecOk sp = true ∧ i.natAbs.log2 < 1920 ∧ sp.length ≤ sizeLine then some (.str (PyProof.Rows.intSpecTextOf sp i)) else none
  | _ => none
def xPad (sp : Str) (φ : Den Rv) : Den Rv := fun ρ => (φ ρ).bind fun r ρ1 => (ofO ((look ρ1 r).bind (padD sp)) ρ1).bind fun d ρ2 => .ok (.dat d) ρ2
theorem de_pad {sp : Str} {j p1 p2} (he : DE X W e φ) : DE X W (.FormattedValue e (-1) (some (.JoinedStr [.Constant (.str sp) j p1] p2)) pos) (xPad sp φ) := by
  refine ⟨fun pins s σ H Q I h => ?_⟩
  obtain ⟨B, F, ρ, S, w⟩ := h
  refine wpAny_FormattedValue_spec (thn (he.run pins s σ H (fun x H1 => ∃ i : Int, x = .int i ∧ PyProof.Rows.intSpecOk sp = true ∧ i.natAbs.log2 < 1920 ∧ sp.length ≤ sizeLine ∧ Q (.str (PyProof.Rows.intSpecTextOf sp i)) H1) I ?_) fun v s1 hv => ?_)
  · refine ⟨B, F, ρ, S, wp_mono (wp_bind w) (fun a ρ1 w1 F1 x H1 s1 S1 q1 => ?_) fun _ _ z => z⟩
    obtain ⟨dz, e1, w2⟩ := wp_ofO (wp_bind w1)
    obtain ⟨d, e2, e3⟩ := Option.bind_eq_some_iff.mp e1
    unfold padD at e3
    split at e3
    · obtain ⟨hz, e4⟩ := if_some e3
      subst e4
      exact ⟨_, S1.int q1 e2, hz.1, hz.2.1, hz.2.2, w2 F1 _ H1 s1 S1 (.str _)⟩
    · cases e3
  · obtain ⟨x, H1, I1, r1, i, rfl, h1, h2, h3, q⟩ := hv
    obtain ⟨t, rfl⟩ := r1
    have hsp : PE X (.JoinedStr [.Constant (.str sp) j p1] p2) (tC (.str sp)) := pe_joined1 pe_str
    refine thn (hsp.run pins s1 σ H1 (fun y H2 => y = .str sp ∧ H2 = H1) I1 ⟨rfl, rfl⟩) fun r s2 hr => ?_
    obtain ⟨y, H2, I2, r2, rfl, rfl⟩ := hr
    obtain ⟨t2, rfl⟩ := r2
    refine ⟨sp, t2, rfl, ?_⟩
    unfold PyProof.Rows.intSpecOk at h1
    cases hps : PySem.Builtin.Float.parseFormatSpec sp.cps.toList "int" 62 with
    | error m => rw [hps] at h1; simp at h1
    | ok f =>
      rw [hps] at h1
      simp only [Bool.and_eq_true, Bool.not_eq_true'] at h1
      have et : PyProof.Rows.intSpecTextOf sp i = PyProof.Rows.intSpecText f i := by unfold PyProof.Rows.intSpecTextOf; rw [hps]
      rw [et] at q
      exact pad_field h2 hps h1.1.1 h1.1.2 h1.2 h3 fun u k => ⟨.str _, H2, I2.tok _, ⟨_, rfl⟩, q⟩
/-- the parts one behind the other -/
def joinE : List (Den Rv) → Str → Env → Ans Rv
  | [], acc, ρ => .ok (.dat (.str acc)) ρ
  | φ :: r, acc, ρ => (φ ρ).bind fun v ρ1 => (ofO (strOf v) ρ1).bind fun y ρ2 => if (acc ++ y).length ≤ sizeLine then joinE r (acc ++ y) ρ2 else .bad
def xJoined (φs : List (Den Rv)) : Den Rv := fun ρ => joinE φs Str.empty ρ
inductive DJ (X : Cx) (W : WX) : List Expr → List (Den Rv) → Prop where
  | nil : DJ X W [] []
  | cons {e : Expr} {φ : Den Rv} {es : List Expr} {φs : List (Den Rv)} (h : DE X W e φ) (r : DJ X W es φs) : DJ X W (e :: es) (φ :: φs)
theorem DJ.pj {es : List Expr} {φs : List (Den Rv)} (h : DJ X W es φs) : PJ X es (φs.map (tDE X.K W)) := by
  induction h with
  | nil => exact .nil
  | cons h _ ih => exact .cons h ih
theorem joinE_sound {σ : St} {B : Base} {Q : Str → Hp → Prop} : ∀ {φs : List (Den Rv)} {acc : Str} {H : Hp} {F : Hp} {ρ : Env}, Sim K B F ρ σ H →
    Wp (joinE φs acc ρ) (fun r ρ' => ∀ F' H', Same F F' → Sim K B F' ρ' σ H' → ∀ z, r = .dat (.str z) → Q z H') (XQ K W B F σ) → tJs (φs.map (tDE K W)) acc σ H Q
  | [], acc, H, F, ρ, S, w => w F H (Same.refl F) S acc rfl
  | φ :: r, acc, H, F, ρ, S, w => by
    refine ⟨B, F, ρ, S, wp_mono (wp_bind w) (fun a ρ1 w1 F1 x H1 s1 S1 q1 => ?_) fun _ _ z => z⟩
    obtain ⟨y, e1, w2⟩ := wp_ofO (wp_bind w1)
    cases strOf_eq e1
    have q1 : Dr K F1 x (.str y) := q1
    cases q1
    by_cases hz : (acc ++ y).length ≤ sizeLine
    · rw [if_pos hz] at w2
      refine ⟨y, rfl, hz, joinE_sound S1 (wp_mono w2 (fun r ρ2 w3 F2 H2 s2 S2 z hz => w3 F2 H2 (s1.trans s2) S2 z hz) fun _ _ z => z.up s1)⟩
    · rw [if_neg hz] at w2
      exact w2.elim
theorem joinE_str : ∀ {φs : List (Den Rv)} {acc : Str} {ρ ρ' : Env} {r : Rv}, joinE φs acc ρ = .ok r ρ' → ∃ z, r = .dat (.str z)
  | [], acc, ρ, ρ', r, h => by cases h; exact ⟨_, rfl⟩
  | φ :: φs, acc, ρ, ρ', r, h => by
    unfold joinE at h
    cases e1 : φ ρ with
    | bad => rw [e1] at h; cases h
    | exc x ρ1 => rw [e1] at h; cases h
    | ok v ρ1 =>
      rw [e1] at h
      have h : ((ofO (strOf v) ρ1).bind fun y ρ2 => if (acc ++ y).length ≤ sizeLine then joinE φs (acc ++ y) ρ2 else .bad) = .ok r ρ' := h
      cases e2 : strOf v with
      | none => rw [e2] at h; cases h
      | some y =>
        rw [e2] at h
        have h : (if (acc ++ y).length ≤ sizeLine then joinE φs (acc ++ y) ρ1 else .bad) = .ok r ρ' := h
        by_cases hz : (acc ++ y).length ≤ sizeLine
        · rw [if_pos hz] at h
          exact joinE_str h
        · rw [if_neg hz] at h
          cases h
theorem de_joined {φs : List (Den Rv)} (h : DJ X W (v1 :: v2 :: es) φs) : DE X W (.JoinedStr (v1 :: v2 :: es) pos) (xJoined φs) := by
  refine pe_imp (pe_joined h.pj) fun σ H Q hq => ?_
  obtain ⟨B, F, ρ, S, w⟩ := hq
  refine joinE_sound S ?_
  cases e : joinE φs Str.empty ρ with
  | bad => rw [show xJoined φs ρ = _ from e] at w; exact w.elim
  | exc x ρ1 => rw [show xJoined φs ρ = _ from e] at w; exact w
  | ok r ρ1 =>
    rw [show xJoined φs ρ = _ from e] at w
    obtain ⟨z, rfl⟩ := joinE_str e
    intro F' H' s' S' z' hz
    cases hz
    exact w F' _ H' s' S' (.str _)

/-! ### repr -/
def rRepr (K : PySem.W.Frag) : List V → Hp → VK → Prop := fun xs H Q => ∃ x d, xs = [x] ∧ Dp K H x d ∧ SeqAt.shaped d = true ∧ d.showable = true ∧ d.shown.length ≤ sizeLine ∧ Q (.str d.shown) H
theorem call_repr {k : Nat} (C : Cok X W k) : CallR X (.builtin "repr") (rRepr X.K) := by
  intro pins s σ H xs us Q I r h
  obtain ⟨x, d, rfl, hd, hs, hw, hz, q⟩ := h
  cases r with
  | cons r rr =>
    cases rr
    have hu := C.rm.un
    have hdp := SeqAt.depth_of_shaped hs
    obtain ⟨as, hr⟩ := Dp.reads I d x _ hd r
    cases hd with
    | non =>
      cases r
      exact PySem.P.repr_of_none ⟨.str _, H, I.tok _, ⟨_, rfl⟩, q⟩
    | bl b =>
      cases r
      exact PySem.P.repr_of_bool ⟨.str _, H, I.tok _, ⟨_, rfl⟩, q⟩
    | int i =>
      obtain ⟨t, rfl⟩ := r
      exact PySem.P.repr_of_int (by simpa [PyData.showable] using hw) ⟨.str _, H, I.tok _, ⟨_, rfl⟩, q⟩
    | str z =>
      obtain ⟨t, rfl⟩ := r
      exact PySem.P.repr_of_str ⟨.str _, H, I.tok _, ⟨_, rfl⟩, q⟩ hz
    | lst _ _ =>
      cases r
      exact repr_of_reads' hr hw (PyData.noDict_hsm (PyData.hasDict_of_canLay _ (SeqAt.canLay_of_shaped hs))) C.gd (by omega) (fun b o e => e) (fun h' u tk hk => ⟨.str _, H, I.kept hk, ⟨u, rfl⟩, q⟩) hz
    | tup _ _ =>
      cases r
      exact repr_of_reads' hr hw (PyData.noDict_hsm (PyData.hasDict_of_canLay _ (SeqAt.canLay_of_shaped hs))) C.gd (by omega) (fun b o e => e) (fun h' u tk hk => ⟨.str _, H, I.kept hk, ⟨u, rfl⟩, q⟩) hz
def gRepr : List D → Option D
  | [d] => if SeqAt.shaped d = true ∧ d.showable = true ∧ d.shown.length ≤ sizeLine then some (.str d.shown) else none
  | _ => none
theorem s1_repr : S1 K (rRepr K) (lk gRepr) := by
  refine s1_one (fun B F ρ σ H v a d dz Q S q e e2 k => ?_) (fun ds dz e => ?_)
  · obtain ⟨hc, e2⟩ := if_some (show (if SeqAt.shaped d = true ∧ d.showable = true ∧ d.shown.length ≤ sizeLine then some (PyData.str d.shown) else none) = some dz from e2)
    subst e2
    exact ⟨v, d, rfl, Dr.dp _ _ (SeqAt.canLay_of_shaped hc.1) (S.look q e), hc.1, hc.2.1, hc.2.2, k F _ H (Same.refl F) S (.str _)⟩
  · unfold gRepr at e
    split at e <;> first | exact ⟨_, rfl⟩ | cases e
end
end DL


/-! D layer, 10: several names stored at once, some with new lists. -/
namespace DL
open PySem PySem.Spec L2
/-- a value, or a new list or dict -/
inductive Nv where
  | dat (d : D)
  | new (d : D)
def Nv.cell : Nv → Cell
  | .dat d => .dat d
  | .new d => .own true d
def newVs : List Nv → List V → List V
  | .new _ :: ns, v :: vs => v :: newVs ns vs
  | .dat _ :: ns, _ :: vs => newVs ns vs
  | _, _ => []
def NvsOk (K : PySem.W.Frag) (B : Base) (F : Hp) (ρ : Env) (σ : St) (H : Hp) : List Nv → List V → Prop
  | [], [] => True
  | .dat d :: ns, v :: vs => Dr K F v d ∧ NvsOk K B F ρ σ H ns vs
  | .new d :: ns, v :: vs => (∃ p, v = .ref p ∧ NewAt K B F ρ σ H p d ∧ V.ref p ∉ newVs ns vs) ∧ NvsOk K B F ρ σ H ns vs
  | _, _ => False
def tDM (K : PySem.W.Frag) (W : WX) (ψ : Den (List Nv)) : TA := fun σ H Q => ∃ B F ρ, Sim K B F ρ σ H ∧
  Wp (ψ ρ) (fun ns ρ' => ∀ F' vs H', Same F F' → Sim K B F' ρ' σ H' → NvsOk K B F' ρ' σ H' ns vs → Q vs H') (XQ K W B F σ)
def DM (X : Cx) (W : WX) (es : List Expr) (ψ : Den (List Nv)) : Prop := PA X es (tDM X.K W ψ)
def mNil : Den (List Nv) := fun ρ => .ok [] ρ
def datOf : Rv → Option D
  | .dat d => some d
  | .slot _ => none
theorem datOf_eq {r : Rv} {d : D} (h : datOf r = some d) : r = .dat d := by
  cases r with
  | dat d' => cases h; rfl
  | slot i => cases h
def mDat (φ : Den Rv) (ψ : Den (List Nv)) : Den (List Nv) := fun ρ => (φ ρ).bind fun r ρ1 => (ofO (datOf r) ρ1).bind fun d ρ2 => (ψ ρ2).bind fun ns ρ3 => .ok (.dat d :: ns) ρ3
def mNew (φ : Den D) (ψ : Den (List Nv)) : Den (List Nv) := fun ρ => (φ ρ).bind fun d ρ1 => (ψ ρ1).bind fun ns ρ2 => .ok (.new d :: ns) ρ2
def parE : List Nat → List Nv → Env → Option Env
  | [], [], ρ => some ρ
  | i :: is, n :: ns, ρ => if canSet ρ i then parE is ns (ρ.set i (some n.cell)) else none
  | _, _, _ => none
def parS : List Nat → List V → St → St
  | i :: is, v :: vs, σ => parS is vs (σ.set i (some v))
  | _, _, σ => σ
/-- the names is = the values, at once -/
def yPar (is : List Nat) (ψ : Den (List Nv)) : DenS := fun ρ => oBind (ψ ρ) fun ns ρ1 => match parE is ns ρ1 with
  | some ρ2 => .next ρ2
  | none => .bad
section
variable {K : PySem.W.Frag} {B : Base} {F : Hp} {ρ : Env} {σ : St} {H : Hp}
theorem NewAt.set {p : Addr} {d : D} (n : NewAt K B F ρ σ H p d) {i : Nat} {c : Option Cell} {v : V} (hi : i < ρ.length) (hs : σ.length = ρ.length) (h : (∃ d, c = some (.dat d)) ∨ v ≠ .ref p) : NewAt K B F (ρ.set i c) (σ.set i (some v)) H p d := by
  refine ⟨n.ct, n.f0, n.g0, n.h0, fun j ow d' e z => ?_⟩
  by_cases q : j = i
  · subst q
    rw [List.getElem?_set_self hi] at e
    rw [List.getElem?_set_self (by omega)] at z
    rcases h with ⟨d'', rfl⟩ | h
    · cases e
    · cases z
      exact h rfl
  · rw [List.getElem?_set_ne (Ne.symm q)] at e z
    exact n.ns j ow d' e z
theorem NvsOk.set {i : Nat} {c : Option Cell} {v : V} (hi : i < ρ.length) (hs : σ.length = ρ.length) : ∀ {ns : List Nv} {vs : List V}, NvsOk K B F ρ σ H ns vs → (∃ d, c = some (.dat d)) ∨ v ∉ newVs ns vs → NvsOk K B F (ρ.set i c) (σ.set i (some v)) H ns vs
  | [], [], _, _ => trivial
  | .dat d :: ns, w :: vs, h, k => ⟨h.1, NvsOk.set hi hs h.2 k⟩
  | .new d :: ns, w :: vs, h, k => by
    obtain ⟨⟨p, rfl, n, ap⟩, r⟩ := h
    have k' : (∃ d, c = some (.dat d)) ∨ (v ≠ .ref p ∧ v ∉ newVs ns vs) := k.imp id fun k => by
      have k : v ∉ V.ref p :: newVs ns vs := k
      simpa using k
    exact ⟨⟨p, rfl, n.set hi hs (k'.imp id And.left), ap⟩, NvsOk.set hi hs r (k'.imp id And.right)⟩
theorem Sim.par : ∀ {is : List Nat} {ns : List Nv} {vs : List V} {ρ ρ2 : Env} {σ : St}, Sim K B F ρ σ H → NvsOk K B F ρ σ H ns vs → parE is ns ρ = some ρ2 → Sim K B F ρ2 (parS is vs σ) H ∧ is.length = vs.length
  | [], [], [], ρ, ρ2, σ, S, _, e => by cases e; exact ⟨S, rfl⟩
  | [], [], v :: vs, _, _, _, _, h, _ => h.elim
  | [], n :: ns, vs, _, _, _, _, _, e => by cases e
  | i :: is, [], vs, _, _, _, _, _, e => by cases e
  | i :: is, n :: ns, [], _, _, _, _, h, _ => by cases n <;> exact h.elim
  | i :: is, n :: ns, v :: vs, ρ, ρ2, σ, S, h, e => by
    unfold parE at e
    by_cases hc : canSet ρ i = true
    · rw [if_pos hc] at e
      have hi := canSet_lt hc
      cases n with
      | dat d =>
        have S1 := S.setDat hi h.1
        have r := Sim.par S1 (NvsOk.set hi S.len h.2 (.inl ⟨d, rfl⟩)) e
        exact ⟨r.1, congrArg Nat.succ r.2⟩
      | new d =>
        obtain ⟨⟨p, rfl, nw, ap⟩, r⟩ := h
        have S1 := S.setOwn hi nw
        have r := Sim.par S1 (NvsOk.set hi S.len r (.inr ap)) e
        exact ⟨r.1, congrArg Nat.succ r.2⟩
    · rw [if_neg hc] at e
      cases e
theorem NvsOk.fresh {p : Addr} {o : HO} (hp : H p = none) : ∀ {ns : List Nv} {vs : List V}, NvsOk K B F ρ σ H ns vs → NvsOk K B F ρ σ (upd H p o) ns vs
  | [], [], _ => trivial
  | .dat d :: ns, w :: vs, h => ⟨h.1, NvsOk.fresh hp h.2⟩
  | .new d :: ns, w :: vs, h => by
    obtain ⟨⟨q, rfl, n, ap⟩, r⟩ := h
    obtain ⟨c, e, ct⟩ := n.ct
    have hq : q ≠ p := fun z => by rw [z, hp] at e; cases e
    exact ⟨⟨q, rfl, ⟨⟨c, by rw [upd_ne hq]; exact e, ct⟩, n.f0, n.g0, n.h0, n.ns⟩, ap⟩, NvsOk.fresh hp r⟩
theorem NvsOk.unplus {a : Addr} {o : HO} : ∀ {ns : List Nv} {vs : List V}, NvsOk K (B.plus a o) F ρ σ H ns vs → NvsOk K B F ρ σ H ns vs ∧ V.ref a ∉ newVs ns vs
  | [], [], _ => ⟨trivial, by simp [newVs]⟩
  | .dat d :: ns, w :: vs, h => by
    have r := NvsOk.unplus h.2
    exact ⟨⟨h.1, r.1⟩, r.2⟩
  | .new d :: ns, w :: vs, h => by
    obtain ⟨⟨p, rfl, n, ap⟩, r⟩ := h
    have r := NvsOk.unplus r
    have g0 : upd B.G a o p = none := n.g0
    have h0 : upd B.H a o p = none := n.h0
    have q : p ≠ a := fun z => by
      rw [z, upd_same] at g0
      cases g0
    rw [upd_ne q] at g0 h0
    refine ⟨⟨⟨p, rfl, ⟨n.ct, n.f0, g0, h0, n.ns⟩, ap⟩, r.1⟩, ?_⟩
    show V.ref a ∉ V.ref p :: newVs ns vs
    simp only [List.mem_cons, not_or]
    exact ⟨fun z => by cases z; exact q rfl, r.2⟩
theorem NvsOk.length : ∀ {ns : List Nv} {vs : List V}, NvsOk K B F ρ σ H ns vs → vs.length = ns.length
  | [], [], _ => rfl
  | .dat d :: ns, w :: vs, h => congrArg Nat.succ (NvsOk.length h.2)
  | .new d :: ns, w :: vs, h => congrArg Nat.succ (NvsOk.length h.2)
end
section
variable {X : Cx} {W : WX} {e : Expr} {es : List Expr} {pos : Pos} {ψ : Den (List Nv)}
theorem dm_nil : DM X W [] mNil := by
  refine pa_imp pa_nil fun σ H Q hq => ?_
  obtain ⟨B, F, ρ, S, w⟩ := hq
  exact w F [] H (Same.refl F) S trivial
theorem dm_dat {φ : Den Rv} (ha : DE X W e φ) (hr : DM X W es ψ) (hs : starEach (e :: es) X.env = (false, eval e X.env) :: starEach es X.env := by rfl) : DM X W (e :: es) (mDat φ ψ) := by
  refine pa_imp (pa_cons ha hr hs) fun σ H Q hq => ?_
  obtain ⟨B, F, ρ, S, w⟩ := hq
  refine ⟨B, F, ρ, S, wp_mono (wp_bind w) (fun a ρ1 w1 F1 x H1 s1 S1 q1 => ?_) fun _ _ z => z⟩
  obtain ⟨d, e1, w1⟩ := wp_ofO (wp_bind w1)
  cases datOf_eq e1
  refine ⟨B, F1, ρ1, S1, wp_mono (wp_bind w1) (fun b ρ2 w2 F2 y H2 s2 S2 q2 => ?_) fun _ _ z => z.up s1⟩
  exact w2 F2 (x :: y) H2 (s1.trans s2) S2 ⟨Dr.up q1 s2, q2⟩
theorem dm_new {φ : Den D} (ha : DN X W e φ) (hr : DM X W es ψ) (hs : starEach (e :: es) X.env = (false, eval e X.env) :: starEach es X.env := by rfl) : DM X W (e :: es) (mNew φ ψ) := by
  refine pa_imp (pa_cons ha hr hs) fun σ H Q hq => ?_
  obtain ⟨B, F, ρ, S, w⟩ := hq
  refine ⟨B, F, ρ, S, wp_mono (wp_bind w) (fun d ρ1 w1 F1 p H1 s1 S1 q1 => ?_) fun _ _ z => z⟩
  obtain ⟨c, hc, ct⟩ := q1.ct
  have bF : B.F p = none := by
    cases e : B.F p with
    | none => rfl
    | some x =>
      have := S1.bf p x e
      rw [q1.f0] at this
      cases this
  refine ⟨B.plus p c, F1, ρ1, S1.guard ⟨hc, q1.f0, q1.ns⟩, wp_mono (wp_bind w1) (fun ns ρ2 w2 F2 vs H2 s2 S2 q2 => ?_) fun x ρ2 z F2 H2 cls dd s2 S2 ex => ?_⟩
  · obtain ⟨S3, A3⟩ := S2.unguard q1.g0 bF q1.h0
    obtain ⟨q3, ap⟩ := q2.unplus
    exact w2 F2 (.ref p :: vs) H2 (s1.trans s2) S3 ⟨⟨p, rfl, ⟨⟨c, A3.at', ct.up s2⟩, A3.f0, q1.g0, q1.h0, A3.ns⟩, ap⟩, q3⟩
  · obtain ⟨S3, A3⟩ := S2.unguard q1.g0 bF q1.h0
    exact z F2 H2 cls dd (s1.trans s2) S3 ex
variable {a b c : Expr} {x y z : Str} {px py pz pt pt2 : Pos} {kt k2 : Nat} {i j l : Nat}
theorem par_sound2 {Dd : Ends} {σ : St} {H : Hp} (h : tDS X.K W (yPar [i, j] ψ) Dd σ H) : tPar i j (tDM X.K W ψ) Dd σ H := by
  obtain ⟨B, F, ρ, S, w⟩ := h
  refine ⟨B, F, ρ, S, wp_mono (spost_bind w) (fun ns ρ1 w1 F1 vs H1 s1 S1 q1 => ?_) fun _ _ z => z⟩
  cases e : parE [i, j] ns ρ1 with
  | none => rw [e] at w1; exact w1.elim
  | some ρ2 =>
    rw [e] at w1
    obtain ⟨S2, hl⟩ := S1.par q1 e
    match vs, hl with
    | [v, u], _ => exact ⟨v, u, rfl, w1 F1 _ H1 s1 S2⟩
theorem par_sound3 {Dd : Ends} {σ : St} {H : Hp} (h : tDS X.K W (yPar [i, j, l] ψ) Dd σ H) : tPar3 i j l (tDM X.K W ψ) Dd σ H := by
  obtain ⟨B, F, ρ, S, w⟩ := h
  refine ⟨B, F, ρ, S, wp_mono (spost_bind w) (fun ns ρ1 w1 F1 vs H1 s1 S1 q1 => ?_) fun _ _ z => z⟩
  cases e : parE [i, j, l] ns ρ1 with
  | none => rw [e] at w1; exact w1.elim
  | some ρ2 =>
    rw [e] at w1
    obtain ⟨S2, hl⟩ := S1.par q1 e
    match vs, hl with
    | [v, u, t], _ => exact ⟨v, u, t, rfl, w1 F1 _ H1 s1 S2⟩
theorem ds_par2 {k : Nat} (C : Cok X W k) (ha : DM X W [a, b] ψ) (hi : X.N[i]? = some x := by rfl) (hj : X.N[j]? = some y := by rfl) (hij : i ≠ j := by decide) (hx : X.env.scope.names.lookup x = some .local := by rfl) (hy : X.env.scope.names.lookup y = some .local := by rfl)
    (hw : swappedStores [.Tuple [.Name x px, .Name y py] kt pt] (.Tuple [a, b] k2 pt2) X.env = pure (some [x, y]) := by rfl) (hs : swapsWithSole [.Tuple [.Name x px, .Name y py] kt pt] (.Tuple [a, b] k2 pt2) pos.line X.env = pure false := by rfl) :
    DS X W (.Assign [.Tuple [.Name x px, .Name y py] kt pt] (.Tuple [a, b] k2 pt2) pos) (yPar [i, j] ψ) :=
  ps_imp (ps_par C.calm C.nd hi hj hij hx hy ha hw hs) fun _ _ _ h => par_sound2 h
theorem ds_par3 {k : Nat} (C : Cok X W k) (ha : DM X W [a, b, c] ψ) (hi : X.N[i]? = some x := by rfl) (hj : X.N[j]? = some y := by rfl) (hl : X.N[l]? = some z := by rfl) (hij : i ≠ j := by decide) (hil : i ≠ l := by decide) (hjl : j ≠ l := by decide) (hx : X.env.scope.names.lookup x = some .local := by rfl) (hy : X.env.scope.names.lookup y = some .local := by rfl) (hz : X.env.scope.names.lookup z = some .local := by rfl)
    (hw : swappedStores [.Tuple [.Name x px, .Name y py, .Name z pz] kt pt] (.Tuple [a, b, c] k2 pt2) X.env = pure (some [x, y, z]) := by rfl) (hs : swapsWithSole [.Tuple [.Name x px, .Name y py, .Name z pz] kt pt] (.Tuple [a, b, c] k2 pt2) pos.line X.env = pure false := by rfl) :
    DS X W (.Assign [.Tuple [.Name x px, .Name y py, .Name z pz] kt pt] (.Tuple [a, b, c] k2 pt2) pos) (yPar [i, j, l] ψ) :=
  ps_imp (ps_par3 C.calm C.nd hi hj hl hij hil hjl hx hy hz ha hw hs) fun _ _ _ h => par_sound3 h
/-- through a tuple: names that a comprehension holds, or more than three -/
def gNames : List Nat → TGs
  | [] => gNil
  | i :: is => gCons (gName i) (gNames is)
theorem gNames_ok : ∀ {is : List Nat} {vs : List V} {σ : St} {H : Hp} {Q : St → Hp → Prop}, is.length = vs.length → Q (parS is vs σ) H → gNames is vs σ H Q
  | [], [], σ, H, Q, _, q => ⟨rfl, q⟩
  | i :: is, v :: vs, σ, H, Q, hl, q => ⟨v, vs, rfl, gNames_ok (Nat.succ.inj hl) q⟩
inductive PNames (X : Cx) : List Expr → List Nat → Prop where
  | nil : PNames X [] []
  | cons {i : Nat} {x : Str} {p : Pos} {es : List Expr} {is : List Nat} (hi : X.N[i]? = some x) (hx : Loc X.env.scope x) (hf : X.fn x = true ∨ X.env.scope.names.lookup x = some .local) (hs : (assignEach (.Name x p :: es) X.env).map (·.2) = assign (.Name x p) X.env :: (assignEach es X.env).map (·.2)) (r : PNames X es is) : PNames X (.Name x p :: es) (i :: is)
theorem PNames.pgs {es : List Expr} {is : List Nat} (hN : X.N.Nodup) (h : PNames X es is) : PGs X es (gNames is) := by
  induction h with
  | nil => exact pgs_nil
  | cons hi hx hf hs _ ih => exact pgs_cons (pg_name hN hi hx hf) ih hs
theorem ds_parT {k : Nat} (C : Cok X W k) {ts : List Expr} {is : List Nat} (ha : DM X W es ψ) (hg : PNames X ts is) (hn : (assignEach ts X.env).length = is.length := by rfl) (hst : (assignEach ts X.env).findIdx? (·.1) = none := by rfl)
    (hw : swappedStores [.Tuple ts kt pt] (.Tuple es k2 pt2) X.env = pure none := by rfl) (hs : swapsWithSole [.Tuple ts kt pt] (.Tuple es k2 pt2) pos.line X.env = pure false := by rfl) (hz : is.length ≤ sizeLine := by decide) :
    DS X W (.Assign [.Tuple ts kt pt] (.Tuple es k2 pt2) pos) (yPar is ψ) := by
  refine ps_imp (ps_asg (pe_tup ha) (pg_tup C.calm (hg.pgs C.nd) hn hst) hs hw) fun Dd σ H h => ?_
  obtain ⟨B, F, ρ, S, w⟩ := h
  refine ⟨B, F, ρ, S, wp_mono (spost_bind w) (fun ns ρ1 w1 F1 vs H1 s1 S1 q1 => ?_) fun _ _ z => z⟩
  cases e : parE is ns ρ1 with
  | none => rw [e] at w1; exact w1.elim
  | some ρ2 =>
    rw [e] at w1
    have hl := (S1.par q1 e).2
    refine ⟨by rw [← hl]; exact hz, fun p hp => ?_⟩
    obtain ⟨S2, _⟩ := (S1.fresh (o := .tup vs) hp).par (NvsOk.fresh hp q1) e
    exact ⟨p, vs, rfl, SqT.of upd_same, hl.symm, gNames_ok hl (w1 F1 _ _ s1 S2)⟩
end
end DL


/-! D layer, 11: what a caller knows of a def; small things. -/
namespace DL
open PySem PySem.Spec L2
/-- the def that stands under the name x keeps the promise of φ, from k free levels on -/
def Ce (P : Program) (w : World) (K : PySem.W.Frag) (mg : Str → Option Value) (base : Heap) (x : Str) (k : Nat) (ps : List Str) (φ : Env → FAns) : Prop :=
  ∃ (f : Addr) (fd : FuncData), FnG P w K mg base k f fd ps φ ∧ mg x = some (.ref f) ∧ PySem.W.keepIn K (.ref f) = true ∧ Binds K fd ps []
theorem Ce.mk {P : Program} {w : World} {K : PySem.W.Frag} {mg : Str → Option Value} {base : Heap} {x : Str} {k : Nat} {ps : List Str} {φ : Env → FAns} {f : Addr} {fd : FuncData} (G : FnG P w K mg base k f fd ps φ) (hm : mg x = some (.ref f)) (hk : PySem.W.keepIn K (.ref f) = true) (hb : Binds K fd ps []) : Ce P w K mg base x k ps φ := ⟨f, fd, G, hm, hk, hb⟩
section
variable {X : Cx} {W : WX} {e : Expr} {es : List Expr} {p pos : Pos} {x : Str} {j k n : Nat} {ps : List Str} {φ : Env → FAns} {ψ : Den (List Rv)} {χ : Den Rv}
theorem de_ce (c : Ce X.prog X.w X.K X.mg X.base x j ps φ) (C : Cok X W k) (hj : j ≤ k) (hg : Gl X x) (ha : DA X W (e :: es) ψ)
    (hn : ps.length = n := by rfl) (hdb : (x == ("__debug__" : Str)) = false := by decide) (he : starEach (e :: es) X.env = (false, eval e X.env) :: starEach es X.env := by rfl) (hpl : (backTo pos (starEach es X.env)).any (·.1) = false := by rfl) :
    DE X W (.Call (.Name x p) (e :: es) [] pos) (xFn n φ ψ) := by
  subst hn
  obtain ⟨f, fd, G, hm, hk, hb⟩ := c
  exact de_fn G C hj hg hm hk hb ha hdb he hpl
theorem dn_ce (c : Ce X.prog X.w X.K X.mg X.base x j ps φ) (C : Cok X W k) (hj : j ≤ k) (hg : Gl X x) (ha : DA X W (e :: es) ψ)
    (hn : ps.length = n := by rfl) (hdb : (x == ("__debug__" : Str)) = false := by decide) (he : starEach (e :: es) X.env = (false, eval e X.env) :: starEach es X.env := by rfl) (hpl : (backTo pos (starEach es X.env)).any (·.1) = false := by rfl) :
    DN X W (.Call (.Name x p) (e :: es) [] pos) (xFnN n φ ψ) := by
  subst hn
  obtain ⟨f, fd, G, hm, hk, hb⟩ := c
  exact dn_fn G C hj hg hm hk hb ha hdb he hpl
theorem de_ce0 (c : Ce X.prog X.w X.K X.mg X.base x j [] φ) (C : Cok X W k) (hj : j ≤ k) (hg : Gl X x) (hdb : (x == ("__debug__" : Str)) = false := by decide) :
    DE X W (.Call (.Name x p) [] [] pos) (xFn 0 φ xNil) := by
  obtain ⟨f, fd, G, hm, hk, hb⟩ := c
  exact de_fn0 G C hj hg hm hk hb hdb
def gNeg : D → Option D
  | .int i => some (.int (-i))
  | _ => none
def xNeg (χ : Den Rv) : Den Rv := fun ρ => (χ ρ).bind fun r ρ1 => (ofO ((look ρ1 r).bind gNeg) ρ1).bind fun d ρ2 => .ok (.dat d) ρ2
theorem de_neg (he : DE X W e χ) : DE X W (.UnaryOp .USub e pos) (xNeg χ) := by
  refine pe_imp (pe_un un_neg he) fun σ H Q h => ?_
  obtain ⟨B, F, ρ, S, w⟩ := h
  refine ⟨B, F, ρ, S, wp_mono (wp_bind w) (fun a ρ1 w1 F1 x H1 s1 S1 q1 => ?_) fun _ _ z => z⟩
  obtain ⟨dz, e1, w2⟩ := wp_ofO (wp_bind w1)
  obtain ⟨d, e2, e3⟩ := Option.bind_eq_some_iff.mp e1
  cases d <;> simp only [gNeg, reduceCtorEq, Option.some.injEq] at e3
  subst e3
  exact ⟨_, S1.int q1 e2, w2 F1 _ H1 s1 S1 (.int _)⟩
end
section
variable {X : Cx} {W : WX}
/-- name = [..] on one line, the list the name's own; or as data -/
theorem ds_setLc {k : Nat} (C : Cok X W k) {i : Nat} {y : Str} {py : Pos} {elt tg iter : Expr} {ifs : List Expr} {scope : Scope} {own : List (Str × Nat)} {pos spos : Pos} {ι : Den (List D)} {is : List Nat} {γ : DenG} {τ : Den Bool} {φ : Den Rv} (hi : DI X W tg iter ι) (ok : BlkOk X.N X.env.scope scope own) (hv : ∀ i ∈ is, i ∈ own.map (·.2))
    (hg : ∀ (s : Shared) (H : Hp) (C : Addr) (cl : List (Str × Addr)) (fp : List Addr), DG (X.blk s H scope (compEnvC scope cl C X.env) fp) tg is γ) (ht : ∀ (s : Shared) (H : Hp) (C : Addr) (cl : List (Str × Addr)) (fp : List Addr), DTs (X.blk s H scope (compEnvC scope cl C X.env) fp) ifs τ)
    (he : ∀ (s : Shared) (H : Hp) (C : Addr) (cl : List (Str × Addr)) (fp : List Addr), DE (X.blk s H scope (compEnvC scope cl C X.env) fp) W0 elt φ) (hy : X.N[i]? = some y := by rfl) (hyl : X.env.scope.names.lookup y = some .local := by rfl)
    (hsw : swapsWith (.ListComp elt [⟨tg, iter, ifs, 0⟩] scope pos) (some (.Name y py)) spos.line X.env = pure true := by kernel_rfl) (hs : ∀ x, foldedSetIterable iter X.env x = pure x := by intro _; rfl) :
    DS X W (.Assign [.Name y py] (.ListComp elt [⟨tg, iter, ifs, 0⟩] scope pos) spos) (ySetNew i (xLc ι (own.map (·.2)) γ τ φ)) := by
  refine ps_imp (ps_setLc (i := i) (g := tDG X.K is γ) (tt := tDT X.K W0 τ) (te := tDE X.K W0 φ) C.calm C.nd hy hyl hsw hi ok hg ht he hs) fun D σ H hq => ?_
  obtain ⟨B, F, ρ, S, w⟩ := hq
  refine lcD_sound (W := W) hv ⟨B, F, ρ, S, wp_mono (spost_bind w) (fun d ρ1 w1 F1 p H1 s1 S1 q1 => ?_) fun _ _ z => z⟩
  by_cases hc : canSet ρ1 i = true
  · rw [if_pos hc] at w1
    exact w1 F1 _ H1 s1 (S1.setOwn (canSet_lt hc) q1)
  · rw [if_neg hc] at w1
    exact w1.elim
theorem ds_setLcD {k : Nat} (C : Cok X W k) {i : Nat} {y : Str} {py : Pos} {elt tg iter : Expr} {ifs : List Expr} {scope : Scope} {own : List (Str × Nat)} {pos spos : Pos} {ι : Den (List D)} {is : List Nat} {γ : DenG} {τ : Den Bool} {φ : Den Rv} (hi : DI X W tg iter ι) (ok : BlkOk X.N X.env.scope scope own) (hv : ∀ i ∈ is, i ∈ own.map (·.2))
    (hg : ∀ (s : Shared) (H : Hp) (C : Addr) (cl : List (Str × Addr)) (fp : List Addr), DG (X.blk s H scope (compEnvC scope cl C X.env) fp) tg is γ) (ht : ∀ (s : Shared) (H : Hp) (C : Addr) (cl : List (Str × Addr)) (fp : List Addr), DTs (X.blk s H scope (compEnvC scope cl C X.env) fp) ifs τ)
    (he : ∀ (s : Shared) (H : Hp) (C : Addr) (cl : List (Str × Addr)) (fp : List Addr), DE (X.blk s H scope (compEnvC scope cl C X.env) fp) W0 elt φ) (hy : X.N[i]? = some y := by rfl) (hyl : X.env.scope.names.lookup y = some .local := by rfl)
    (hsw : swapsWith (.ListComp elt [⟨tg, iter, ifs, 0⟩] scope pos) (some (.Name y py)) spos.line X.env = pure true := by kernel_rfl) (hs : ∀ x, foldedSetIterable iter X.env x = pure x := by intro _; rfl) :
    DS X W (.Assign [.Name y py] (.ListComp elt [⟨tg, iter, ifs, 0⟩] scope pos) spos) (ySet (gSet i) (xNew (xLc ι (own.map (·.2)) γ τ φ))) := by
  refine ps_imp (ps_setLc (i := i) (g := tDG X.K is γ) (tt := tDT X.K W0 τ) (te := tDE X.K W0 φ) C.calm C.nd hy hyl hsw hi ok hg ht he hs) fun D σ H hq => ?_
  obtain ⟨B, F, ρ, S, w⟩ := hq
  refine lcD_sound (W := W) hv ⟨B, F, ρ, S, wp_mono (wp_bind (spost_bind w)) (fun d ρ1 w1 F1 p H1 s1 S1 q1 => ?_) fun _ _ z => z⟩
  obtain ⟨c, h1, h2⟩ := q1.ct
  have so : Same F1 (upd F1 p c) := same_upd q1.f0
  have S2 := S1.frozen h1 q1.f0 q1.h0 q1.ns
  have w1 : SPost X.K W B F D (match gSet i d ρ1 with | some ρ3 => .next ρ3 | none => .bad) := w1
  cases e3 : gSet i d ρ1 with
  | none => rw [e3] at w1; exact w1.elim
  | some ρ3 =>
    rw [e3] at w1
    obtain ⟨hc, e4⟩ := if_some e3
    subst e4
    exact w1 (upd F1 p c) _ H1 (s1.trans so) (S2.setDat (canSet_lt hc) (h2.dr so upd_same))
end
/-! ### == and != : two texts, or data -/
def gEqS (neg : Bool) : D → D → Option D
  | .str x, .str y => some (.bool (if neg then !decide (x = y) else decide (x = y)))
  | _, _ => none
theorem decV_str (x y : Str) : decide (V.str x = V.str y) = decide (x = y) := decide_eq_decide.mpr ⟨fun z => V.str.inj z, fun z => by rw [z]⟩
theorem s2_eqS {K : PySem.W.Frag} : S2 K rEq (gEqS false) := by
  intro B F ρ σ H x y a b da db dz Q S ra rb ea eb e q
  cases da <;> cases db <;> simp only [gEqS, reduceCtorEq, Option.some.injEq] at e
  subst e
  cases S.str ra ea
  cases S.str rb eb
  refine ⟨rfl, ?_⟩
  rename_i x y
  rw [decV_str x y]
  exact q F _ H (Same.refl F) S (.bl _)
theorem s2_neS {K : PySem.W.Frag} : S2 K rNe (gEqS true) := by
  intro B F ρ σ H x y a b da db dz Q S ra rb ea eb e q
  cases da <;> cases db <;> simp only [gEqS, reduceCtorEq, Option.some.injEq] at e
  subst e
  cases S.str ra ea
  cases S.str rb eb
  refine ⟨rfl, ?_⟩
  rename_i x y
  rw [decV_str x y]
  exact q F _ H (Same.refl F) S (.bl _)
def gEqA (a b : D) : Option D := (gEqS false a b).or (gEq a b)
def gNeA (a b : D) : Option D := (gEqS true a b).or (gNe a b)
def rEqA (K : PySem.W.Frag) : R2 := fun x y H Q => rEq x y H Q ∨ rEqD K x y H Q
def rNeA (K : PySem.W.Frag) : R2 := fun x y H Q => rNe x y H Q ∨ rNeD K x y H Q
theorem op_eqA {X : Cx} {k : Nat} (r : Room k X.A) : OpR X (compareOp .Eq) (rEqA X.K) := OpR.or op_eq (op_eqD r.units)
theorem op_neA {X : Cx} {k : Nat} (r : Room k X.A) : OpR X (compareOp .NotEq) (rNeA X.K) := OpR.or op_ne (op_neD r.units)
theorem s2_eqA {K : PySem.W.Frag} : S2 K (rEqA K) gEqA := S2.or s2_eqS s2_eq
theorem s2_neA {K : PySem.W.Frag} : S2 K (rNeA K) gNeA := S2.or s2_neS s2_ne
/-- the turns that a while is given -/
def fuel : Nat := 1000000000
theorem b_len : bootBuiltins "len" = some (.builtin "len") := by decide +kernel
theorem b_abs : bootBuiltins "abs" = some (.builtin "abs") := by decide +kernel
theorem b_repr : bootBuiltins "repr" = some (.builtin "repr") := by decide +kernel
theorem b_int : bootBuiltins "int" = some (.type "int") := by decide +kernel
theorem b_list : bootBuiltins "list" = some (.type "list") := by decide +kernel
theorem b_chr : bootBuiltins "chr" = some (.builtin "chr") := by decide +kernel
theorem b_sum : bootBuiltins "sum" = some (.builtin "sum") := by decide +kernel
theorem b_ord : bootBuiltins "ord" = some (.builtin "ord") := by decide +kernel
theorem b_str : bootBuiltins "str" = some (.type "str") := by decide +kernel
theorem b_all : bootBuiltins "all" = some (.builtin "all") := by decide +kernel
theorem b_any : bootBuiltins "any" = some (.builtin "any") := by decide +kernel
theorem b_tuple : bootBuiltins "tuple" = some (.type "tuple") := by decide +kernel
theorem b_sorted : bootBuiltins "sorted" = some (.builtin "sorted") := by decide +kernel
theorem b_min : bootBuiltins "min" = some (.builtin "min") := by decide +kernel
theorem b_max : bootBuiltins "max" = some (.builtin "max") := by decide +kernel
theorem b_isinstance : bootBuiltins "isinstance" = some (.builtin "isinstance") := by decide +kernel
theorem b_dict : bootBuiltins "dict" = some (.type "dict") := by decide +kernel
theorem b_set : bootBuiltins "set" = some (.type "set") := by decide +kernel
end DL


/-! D layer, 12: reckoning with denotations; what every law begins with. -/
namespace DL
open PySem PySem.Spec L2
/-- a cell read, as a value; as data; frozen -/
def nmC (i : Nat) (ρ : Env) : Option (Option Cell) → Ans Rv
  | some (some (.dat d)) => .ok (.dat d) ρ
  | some (some (.own _ _)) => .ok (.slot i) ρ
  | _ => .bad
def lkC : Option (Option Cell) → Option D
  | some (some (.dat d)) => some d
  | some (some (.own _ d)) => some d
  | _ => none
def fzC (i : Nat) (ρ : Env) : Option (Option Cell) → Ans D
  | some (some (.dat d)) => .ok d ρ
  | some (some (.own true d)) => .ok d (ρ.set i (some (.dat d)))
  | _ => .bad
@[simp] theorem ev_name (i : Nat) (ρ : Env) : xName i ρ = nmC i ρ ρ[i]? := (rfl)
@[simp] theorem nmC_dat (i : Nat) (ρ : Env) (d : D) : nmC i ρ (some (some (.dat d))) = .ok (.dat d) ρ := (rfl)
@[simp] theorem nmC_own (i : Nat) (ρ : Env) (o : Bool) (d : D) : nmC i ρ (some (some (.own o d))) = .ok (.slot i) ρ := (rfl)
@[simp] theorem ev_look (i : Nat) (ρ : Env) : look ρ (.slot i) = lkC ρ[i]? := by unfold look; exact (rfl)
@[simp] theorem lkC_dat (d : D) : lkC (some (some (.dat d))) = some d := (rfl)
@[simp] theorem lkC_own (o : Bool) (d : D) : lkC (some (some (.own o d))) = some d := (rfl)
@[simp] theorem ev_frz (i : Nat) (ρ : Env) : frz (.slot i) ρ = fzC i ρ ρ[i]? := by unfold frz; exact (rfl)
@[simp] theorem fzC_dat (i : Nat) (ρ : Env) (d : D) : fzC i ρ (some (some (.dat d))) = .ok d ρ := (rfl)
@[simp] theorem fzC_own (i : Nat) (ρ : Env) (d : D) : fzC i ρ (some (some (.own true d))) = .ok d (ρ.set i (some (.dat d))) := (rfl)
section
variable (ρ : Env) (φ ψ χ : Den Rv) (β β' : Den Bool) (α : Den (List Rv)) (g g' : D → D → Option D)
@[simp] theorem ev_C (d : D) : xC d ρ = .ok (.dat d) ρ := (rfl)
@[simp] theorem ev_Frz : xFrz φ ρ = (φ ρ).bind fun r ρ1 => (frz r ρ1).bind fun d ρ2 => .ok (.dat d) ρ2 := (rfl)
/-- two things put together -/
def ap2 (ρ : Env) (g : D → D → Option D) : Option D → Option D → Ans Rv
  | some x, some y => (ofO (g x y) ρ).bind fun d ρ1 => .ok (.dat d) ρ1
  | _, _ => .bad
@[simp] theorem ev_appl2 (a b : Rv) : appl2 g a b ρ = ap2 ρ g (look ρ a) (look ρ b) := by
  unfold appl2 ap2
  cases look ρ a <;> cases look ρ b <;> simp only
  rename_i x y
  cases g x y <;> rfl
@[simp] theorem ap2_some (x y : D) : ap2 ρ g (some x) (some y) = (ofO (g x y) ρ).bind fun d ρ1 => .ok (.dat d) ρ1 := (rfl)
@[simp] theorem ev_op : xOp g φ ψ ρ = (φ ρ).bind fun a ρ1 => (ψ ρ1).bind fun b ρ2 => appl2 g a b ρ2 := (rfl)
def btC (ρ : Env) : Option D → Ans Bool
  | some (.bool b) => .ok b ρ
  | _ => .bad
@[simp] theorem btC_bool (b : Bool) : btC ρ (some (.bool b)) = .ok b ρ := (rfl)
@[simp] theorem ev_bit (r : Rv) : bit r ρ = btC ρ (look ρ r) := by
  unfold bit btC
  rfl
@[simp] theorem ev_test : xTest φ ρ = (φ ρ).bind bit := (rfl)
def trC (ρ : Env) : Option D → Ans Bool
  | some d => ofO (truth d) ρ
  | none => .bad
@[simp] theorem trC_some (d : D) : trC ρ (some d) = ofO (truth d) ρ := (rfl)
@[simp] theorem ev_truthy (r : Rv) : truthy' r ρ = trC ρ (look ρ r) := by
  unfold truthy' trC
  rfl
@[simp] theorem ev_truth : xTruth φ ρ = (φ ρ).bind truthy' := (rfl)
@[simp] theorem ev_not : xNot β ρ = (β ρ).bind fun b ρ1 => .ok (!b) ρ1 := (rfl)
@[simp] theorem ev_and : xAnd β β' ρ = (β ρ).bind fun b ρ1 => if b = true then β' ρ1 else .ok false ρ1 := (rfl)
@[simp] theorem ev_or : xOr β β' ρ = (β ρ).bind fun b ρ1 => if b = true then .ok true ρ1 else β' ρ1 := (rfl)
@[simp] theorem ev_andV : xAndV φ ψ ρ = (φ ρ).bind fun a ρ1 => (bit a ρ1).bind fun b ρ2 => if b = true then ψ ρ2 else .ok (.dat (.bool false)) ρ2 := (rfl)
@[simp] theorem ev_orV : xOrV φ ψ ρ = (φ ρ).bind fun a ρ1 => (bit a ρ1).bind fun b ρ2 => if b = true then .ok (.dat (.bool true)) ρ2 else ψ ρ2 := (rfl)
@[simp] theorem ev_notV : xNotV φ ρ = (φ ρ).bind fun a ρ1 => (truthy' a ρ1).bind fun b ρ2 => .ok (.dat (.bool (!b))) ρ2 := (rfl)
@[simp] theorem ev_if : xIf β φ ψ ρ = (β ρ).bind fun b ρ1 => if b = true then φ ρ1 else ψ ρ1 := (rfl)
@[simp] theorem ev_chain : xChain g g' φ ψ χ ρ = (φ ρ).bind fun a ρ1 => (ψ ρ1).bind fun b ρ2 => (appl2 g a b ρ2).bind fun z ρ3 => (bit z ρ3).bind fun k ρ4 =>
  if k = true then (χ ρ4).bind fun c ρ5 => appl2 g' b c ρ5 else .ok (.dat (.bool false)) ρ4 := (rfl)
@[simp] theorem ev_nil : xNil ρ = .ok [] ρ := (rfl)
@[simp] theorem ev_cons : xCons φ α ρ = (φ ρ).bind fun a ρ1 => (α ρ1).bind fun as ρ2 => .ok (a :: as) ρ2 := (rfl)
@[simp] theorem ev_tup : xTup α ρ = (α ρ).bind fun rs ρ1 => (ofO ((dats rs).bind mkTup) ρ1).bind fun d ρ2 => .ok (.dat d) ρ2 := (rfl)
@[simp] theorem ev_lst : xLst α ρ = (α ρ).bind fun rs ρ1 => ofO ((dats rs).bind mkLst) ρ1 := (rfl)
@[simp] theorem ev_new (δ : Den D) : xNew δ ρ = (δ ρ).bind fun d ρ1 => .ok (.dat d) ρ1 := (rfl)
@[simp] theorem ev_call (f : Env → List Rv → Option D) : xCall f α ρ = (α ρ).bind fun rs ρ1 => (ofO (f ρ1 rs) ρ1).bind fun d ρ2 => .ok (.dat d) ρ2 := (rfl)
@[simp] theorem ev_callN (f : Env → List Rv → Option D) : xCallN f α ρ = (α ρ).bind fun rs ρ1 => ofO (f ρ1 rs) ρ1 := (rfl)
@[simp] theorem ev_lk (f : List D → Option D) (rs : List Rv) : lk f ρ rs = (looks ρ rs).bind f := (rfl)
def lkL : Option D → Option (List D) → Option (List D)
  | some d, some ds => some (d :: ds)
  | _, _ => none
@[simp] theorem ev_looks (r : Rv) (rs : List Rv) : looks ρ (r :: rs) = lkL (look ρ r) (looks ρ rs) := by
  show (match look ρ r, looks ρ rs with | some d, some ds => some (d :: ds) | _, _ => none) = _
  unfold lkL
  rfl
@[simp] theorem lkL_some (d : D) (ds : List D) : lkL (some d) (some ds) = some (d :: ds) := (rfl)
@[simp] theorem ev_noPart : xNoPart ρ = .ok none ρ := (rfl)
def ptC (ρ : Env) : Option D → Ans (Option Int)
  | some (.int i) => .ok (some i) ρ
  | _ => .bad
@[simp] theorem ptC_int (i : Int) : ptC ρ (some (.int i)) = .ok (some i) ρ := (rfl)
@[simp] theorem ev_part : xPart φ ρ = (φ ρ).bind fun r ρ1 => ptC ρ1 (look ρ1 r) := by
  unfold xPart ptC
  rfl
def slC (ρ : Env) (l u : Option Int) : Option D → Ans Rv
  | some d => (ofO (gSl d l u) ρ).bind fun d ρ1 => .ok (.dat d) ρ1
  | none => .bad
@[simp] theorem slC_some (l u : Option Int) (d : D) : slC ρ l u (some d) = (ofO (gSl d l u) ρ).bind fun d ρ1 => .ok (.dat d) ρ1 := (rfl)
@[simp] theorem ev_sl (lo hi : Den (Option Int)) : xSl φ lo hi ρ = (φ ρ).bind fun r ρ1 => (lo ρ1).bind fun l ρ2 => (hi ρ2).bind fun u ρ3 => slC ρ3 l u (look ρ3 r) := by
  unfold xSl slC
  rfl
@[simp] theorem ev_neg : xNeg φ ρ = (φ ρ).bind fun r ρ1 => (ofO ((look ρ1 r).bind gNeg) ρ1).bind fun d ρ2 => .ok (.dat d) ρ2 := (rfl)
@[simp] theorem ev_mt0 (h : Str → List D → Option D) : xMt0 h φ ρ = (φ ρ).bind fun r ρ1 => (ofO ((strOf r).bind fun z => h z []) ρ1).bind fun d ρ2 => .ok (.dat d) ρ2 := (rfl)
@[simp] theorem ev_mt1 (h : Str → List D → Option D) : xMt1 h φ χ ρ = (φ ρ).bind fun r ρ1 => (ofO (strOf r) ρ1).bind fun z ρ2 => (χ ρ2).bind fun q ρ3 => (ofO ((looks ρ3 [q]).bind fun ds => h z ds) ρ3).bind fun d ρ4 => .ok (.dat d) ρ4 := (rfl)
@[simp] theorem strOf_str (z : Str) : strOf (.dat (.str z)) = some z := (rfl)
@[simp] theorem ev_fmt : xFmt φ ρ = (φ ρ).bind fun r ρ1 => (ofO ((look ρ1 r).bind asText) ρ1).bind fun d ρ2 => .ok (.dat d) ρ2 := (rfl)
@[simp] theorem ev_pad (sp : Str) : xPad sp φ ρ = (φ ρ).bind fun r ρ1 => (ofO ((look ρ1 r).bind (padD sp)) ρ1).bind fun d ρ2 => .ok (.dat d) ρ2 := (rfl)
@[simp] theorem ev_joined (φs : List (Den Rv)) : xJoined φs ρ = joinE φs Str.empty ρ := (rfl)
@[simp] theorem ev_joinE_nil (acc : Str) : joinE [] acc ρ = .ok (.dat (.str acc)) ρ := (rfl)
@[simp] theorem ev_joinE_cons (r : List (Den Rv)) (acc : Str) : joinE (φ :: r) acc ρ = (φ ρ).bind fun v ρ1 => (ofO (strOf v) ρ1).bind fun y ρ2 => if (acc ++ y).length ≤ sizeLine then joinE r (acc ++ y) ρ2 else .bad := (rfl)
@[simp] theorem ev_opN : xOpN g φ ψ ρ = (φ ρ).bind fun a ρ1 => (ψ ρ1).bind fun b ρ2 => (appl2 g a b ρ2).bind fun r ρ3 => ofO (datOf r) ρ3 := by
  unfold xOpN
  congr 1; funext a ρ1; congr 1; funext b ρ2; congr 1; funext r ρ3
  cases r <;> rfl
@[simp] theorem datOf_dat (d : D) : datOf (.dat d) = some d := (rfl)
@[simp] theorem ev_items : xItems φ ρ = (φ ρ).bind fun r ρ1 => (frz r ρ1).bind fun d ρ2 => ofO (itemsOf d) ρ2 := by
  unfold xItems
  congr 1; funext r ρ1; congr 1; funext d ρ2
  cases d <;> rfl
@[simp] theorem ev_rng (f : List D → Option (List D)) : xRng f α ρ = (α ρ).bind fun rs ρ1 => ofO ((looks ρ1 rs).bind f) ρ1 := (rfl)
@[simp] theorem ev_walk (f : List D → Option (List D)) : xWalk f α ρ = (α ρ).bind fun rs ρ1 => ofO ((dats rs).bind f) ρ1 := (rfl)
@[simp] theorem ev_yes : xYes ρ = .ok true ρ := (rfl)
@[simp] theorem ev_lc (ι : Den (List D)) (vs : List Nat) (γ : DenG) (τ : Den Bool) : xLc ι vs γ τ φ ρ = (ι ρ).bind fun ds ρ1 => if ds.length ≤ sizeLine then (noX (lcD vs γ τ φ ds (wipeE ρ1 vs))).bind fun xs ρ2 => .ok (.list xs) (unwipe ρ1 ρ2 vs) else .bad := (rfl)
@[simp] theorem ev_fn (np : Nat) (f : Env → FAns) : xFn np f α ρ = (α ρ).bind fun rs ρ1 => (callD np f rs ρ1).bind rtD := (rfl)
@[simp] theorem ev_fnN (np : Nat) (f : Env → FAns) : xFnN np f α ρ = (α ρ).bind fun rs ρ1 => (callD np f rs ρ1).bind rtN := (rfl)
-- statements
variable (a b : DenS) (γ : DenG)
@[simp] theorem ev_next : yNext ρ = .next ρ := (rfl)
@[simp] theorem ev_seq : ySeq a b ρ = (a ρ).andThen b := (rfl)
@[simp] theorem then_next : (Out.next ρ).andThen b = b ρ := (rfl)
@[simp] theorem then_ret (r : Rt) : (Out.ret r ρ).andThen b = .ret r ρ := (rfl)
@[simp] theorem then_brk : (Out.brk ρ).andThen b = .brk ρ := (rfl)
@[simp] theorem then_cont : (Out.cont ρ).andThen b = .cont ρ := (rfl)
@[simp] theorem then_exc (x : Exc) : (Out.exc x ρ).andThen b = .exc x ρ := (rfl)
@[simp] theorem ev_pass : yPass ρ = .next ρ := (rfl)
@[simp] theorem ev_break : yBreak ρ = .brk ρ := (rfl)
@[simp] theorem ev_cont : yCont ρ = .cont ρ := (rfl)
@[simp] theorem ev_ret : yRet φ ρ = oBind (φ ρ) fun r ρ1 => oBind (frz r ρ1) fun d ρ2 => .ret (.dat d) ρ2 := (rfl)
@[simp] theorem ev_retN : yRetN ρ = .ret (.dat .none) ρ := (rfl)
@[simp] theorem ev_retNew (δ : Den D) : yRetNew δ ρ = oBind (δ ρ) fun d ρ1 => .ret (.own d) ρ1 := (rfl)
def roC (ρ : Env) : Option (Option Cell) → Out
  | some (some (.own true d)) => .ret (.own d) ρ
  | _ => .bad
@[simp] theorem roC_own (d : D) : roC ρ (some (some (.own true d))) = .ret (.own d) ρ := (rfl)
@[simp] theorem ev_retOwn (i : Nat) : yRetOwn i ρ = roC ρ ρ[i]? := by unfold yRetOwn roC; exact (rfl)
@[simp] theorem ev_yIf (c : Den Bool) : yIf c a b ρ = oBind (c ρ) fun k ρ1 => if k = true then a ρ1 else b ρ1 := (rfl)
def nxO : Option Env → Out
  | some ρ => .next ρ
  | none => .bad
@[simp] theorem nxO_some : nxO (some ρ) = .next ρ := (rfl)
@[simp] theorem ev_set : ySet γ φ ρ = oBind (φ ρ) fun r ρ1 => oBind (frz r ρ1) fun d ρ2 => nxO (γ d ρ2) := by unfold ySet nxO; exact (rfl)
@[simp] theorem ev_gSet (i : Nat) (d : D) : gSet i d ρ = if canSet ρ i then some (ρ.set i (some (.dat d))) else none := (rfl)
def csC : Option (Option Cell) → Bool
  | some (some (.own false _)) => false
  | some _ => true
  | none => false
@[simp] theorem ev_canSet (i : Nat) : canSet ρ i = csC ρ[i]? := by unfold canSet csC; exact (rfl)
@[simp] theorem csC_none : csC (some none) = true := (rfl)
@[simp] theorem csC_dat (d : D) : csC (some (some (.dat d))) = true := (rfl)
@[simp] theorem csC_own (d : D) : csC (some (some (.own true d))) = true := (rfl)
@[simp] theorem ev_setNew (i : Nat) (δ : Den D) : ySetNew i δ ρ = oBind (δ ρ) fun d ρ1 => if canSet ρ1 i then .next (ρ1.set i (some (.own true d))) else .bad := (rfl)
@[simp] theorem ev_expr : yExpr φ ρ = oBind (φ ρ) fun _ ρ1 => .next ρ1 := (rfl)
@[simp] theorem ev_for (ι : Den (List D)) : yFor ι γ a ρ = oBind (ι ρ) fun ds ρ1 => forD γ a ds ρ1 := (rfl)
@[simp] theorem ev_par (is : List Nat) (μ : Den (List Nv)) : yPar is μ ρ = oBind (μ ρ) fun ns ρ1 => nxO (parE is ns ρ1) := by unfold yPar nxO; exact (rfl)
@[simp] theorem ev_mNil : mNil ρ = .ok [] ρ := (rfl)
@[simp] theorem ev_mDat (μ : Den (List Nv)) : mDat φ μ ρ = (φ ρ).bind fun r ρ1 => (ofO (datOf r) ρ1).bind fun d ρ2 => (μ ρ2).bind fun ns ρ3 => .ok (.dat d :: ns) ρ3 := (rfl)
@[simp] theorem ev_mNew (δ : Den D) (μ : Den (List Nv)) : mNew δ μ ρ = (δ ρ).bind fun d ρ1 => (μ ρ1).bind fun ns ρ2 => .ok (.new d :: ns) ρ2 := (rfl)
@[simp] theorem parE_nil : parE [] [] ρ = some ρ := (rfl)
@[simp] theorem parE_cons (i : Nat) (is : List Nat) (n : Nv) (ns : List Nv) : parE (i :: is) (n :: ns) ρ = if canSet ρ i then parE is ns (ρ.set i (some n.cell)) else none := (rfl)
@[simp] theorem cell_dat (d : D) : (Nv.dat d).cell = .dat d := (rfl)
@[simp] theorem cell_new (d : D) : (Nv.new d).cell = .own true d := (rfl)
def jxC (ρ : Env) (i : Nat) (d : D) : Option D → Out
  | some k => nxO (setIx i k d ρ)
  | none => .bad
@[simp] theorem jxC_some (i : Nat) (d k : D) : jxC ρ i d (some k) = nxO (setIx i k d ρ) := (rfl)
@[simp] theorem ev_setIx (i : Nat) (ι : Den Rv) : ySetIx i ι φ ρ = oBind (φ ρ) fun r ρ1 => oBind (frz r ρ1) fun d ρ2 => oBind (xName i ρ2) fun _ ρ3 => oBind (ι ρ3) fun j ρ4 => jxC ρ4 i d (look ρ4 j) := by
  unfold ySetIx jxC nxO
  rfl
end
def sxC (i : Nat) (ρ : Env) (k d : D) : Option (Option Cell) → Option Env
  | some (some (.own o (.list ds))) => match k with
    | .int j => (ixN ds.length j).map fun m => ρ.set i (some (.own o (.list (ds.set m d))))
    | _ => none
  | _ => none
@[simp] theorem ev_setIxC (i : Nat) (k d : D) (ρ : Env) : setIx i k d ρ = sxC i ρ k d ρ[i]? := by
  unfold setIx
  cases ρ[i]? with
  | none => rfl
  | some c =>
    cases c with
    | none => rfl
    | some c =>
      cases c with
      | dat _ => rfl
      | own o l => cases l <;> cases k <;> rfl
@[simp] theorem sxC_own (i : Nat) (ρ : Env) (j : Int) (d : D) (o : Bool) (ds : List D) : sxC i ρ (.int j) d (some (some (.own o (.list ds)))) = (ixN ds.length j).map fun m => ρ.set i (some (.own o (.list (ds.set m d)))) := (rfl)
@[simp] theorem ev_augIx (g : D → D → Option D) (i : Nat) (ι φ : Den Rv) (ρ : Env) : yAugIx g i ι φ ρ = oBind (xName i ρ) fun o ρ1 => oBind (ι ρ1) fun j ρ2 => oBind (appl2 gGetL o j ρ2) fun old ρ3 => oBind (φ ρ3) fun r ρ4 => oBind (appl2 g old r ρ4) fun new ρ5 => oBind (ofO (datOf new) ρ5) fun d ρ6 => jxC ρ6 i d (look ρ6 j) := by
  unfold yAugIx
  congr 1; funext o ρ1; congr 1; funext j ρ2; congr 1; funext old ρ3; congr 1; funext r ρ4; congr 1; funext new ρ5
  cases new with
  | slot k => rfl
  | dat d =>
    show (match Rv.dat d, look ρ5 j with | .dat d, some k => (match setIx i k d ρ5 with | some ρ6 => Out.next ρ6 | none => .bad) | _, _ => .bad) = jxC ρ5 i d (look ρ5 j)
    cases look ρ5 j with
    | none => rfl
    | some k => simp only [jxC]; cases setIx i k d ρ5 <;> rfl
@[simp] theorem ev_aug (g : D → D → Option D) (i : Nat) (φ : Den Rv) (ρ : Env) : yAug g i φ ρ = oBind (xName i ρ) fun o ρ1 => oBind (φ ρ1) fun r ρ2 => oBind (appl2 g o r ρ2) fun new ρ3 => oBind (ofO (datOf new) ρ3) fun d ρ4 => if canSet ρ4 i then .next (ρ4.set i (some (.dat d))) else .bad := by
  unfold yAug
  congr 1; funext o ρ1; congr 1; funext r ρ2; congr 1; funext new ρ3
  cases new <;> rfl
/-- a list's own method -/
def muC (i : Nat) (op : List D → List D → Option (List D × D)) (as : List D) (ρ : Env) : Option (Option Cell) → Ans Rv
  | some (some (.own o (.list ds))) => match op ds as with
    | some (ds', z) => .ok (.dat z) (ρ.set i (some (.own o (.list ds'))))
    | none => .bad
  | _ => .bad
def isOwnL : Option (Option Cell) → Bool
  | some (some (.own _ (.list _))) => true
  | _ => false
@[simp] theorem isOwnL_own (o : Bool) (ds : List D) : isOwnL (some (some (.own o (.list ds)))) = true := (rfl)
@[simp] theorem muC_own (i : Nat) (op : List D → List D → Option (List D × D)) (as : List D) (ρ : Env) (o : Bool) (ds : List D) : muC i op as ρ (some (some (.own o (.list ds)))) = match op ds as with
    | some (ds', z) => .ok (.dat z) (ρ.set i (some (.own o (.list ds'))))
    | none => .bad := (rfl)
@[simp] theorem ev_mut (i : Nat) (op : List D → List D → Option (List D × D)) (φ : Den (List Rv)) (ρ : Env) : xMut i op φ ρ = if isOwnL ρ[i]? = true then (φ ρ).bind fun rs ρ1 => (ofO (dats rs) ρ1).bind fun as ρ2 => muC i op as ρ2 ρ2[i]? else .bad := by
  unfold xMut
  have key : ∀ (rs : List Rv) (ρ1 : Env), (match ρ1[i]?, dats rs with
    | some (some (.own o (.list ds))), some as => (match op ds as with
      | some (ds', z) => Ans.ok (Rv.dat z) (ρ1.set i (some (.own o (.list ds'))))
      | none => .bad)
    | _, _ => .bad) = (ofO (dats rs) ρ1).bind fun as ρ2 => muC i op as ρ2 ρ2[i]? := fun rs ρ1 => by
    cases dats rs with
    | none => cases ρ1[i]? with
      | none => rfl
      | some c => cases c with
        | none => rfl
        | some c => cases c with
          | dat _ => rfl
          | own o l => cases l <;> rfl
    | some as => cases h : ρ1[i]? with
      | none => simp [muC, h]
      | some c => cases c with
        | none => simp [muC, h]
        | some c => cases c with
          | dat _ => simp [muC, h]
          | own o l => cases l <;> simp [muC, h]
  cases ρ[i]? with
  | none => rfl
  | some c => cases c with
    | none => rfl
    | some c => cases c with
      | dat _ => rfl
      | own o l =>
        cases l <;> first | rfl | skip
        show (φ ρ).bind _ = (φ ρ).bind _
        congr 1
        funext rs ρ1
        exact key rs ρ1
/-! calls -/
@[simp] theorem ats_nil : ats [] = [] := (rfl)
@[simp] theorem ats_dat (d : D) (rs : List Rv) : ats (.dat d :: rs) = ats rs := (rfl)
@[simp] theorem ats_slot (i : Nat) (rs : List Rv) : ats (.slot i :: rs) = i :: ats rs := (rfl)
def piC (c : Option (Option Cell)) (r : Option Env) : Option Env := match c with
  | some (some (.own _ d)) => r.map (some (Cell.own false d) :: ·)
  | _ => none
@[simp] theorem piC_own (o : Bool) (d : D) (r : Option Env) : piC (some (some (.own o d))) r = r.map (some (Cell.own false d) :: ·) := (rfl)
@[simp] theorem passIn_nil (ρ : Env) : passIn ρ [] = some [] := (rfl)
@[simp] theorem passIn_dat (ρ : Env) (d : D) (rs : List Rv) : passIn ρ (.dat d :: rs) = (passIn ρ rs).map (some (.dat d) :: ·) := (rfl)
@[simp] theorem passIn_slot (ρ : Env) (i : Nat) (rs : List Rv) : passIn ρ (.slot i :: rs) = piC ρ[i]? (passIn ρ rs) := by
  show (match ρ[i]? with | some (some (.own _ d)) => (passIn ρ rs).map (some (Cell.own false d) :: ·) | _ => none) = _
  unfold piC
  rfl
@[simp] theorem backIn_nil (c ρ : Env) : backIn [] c ρ = some ρ := by cases c <;> rfl
@[simp] theorem backIn_dat (d : D) (rs : List Rv) (x : Option Cell) (c ρ : Env) : backIn (.dat d :: rs) (x :: c) ρ = backIn rs c ρ := (rfl)
def biC (i : Nat) (d : D) (rs : List Rv) (c ρ : Env) : Option (Option Cell) → Option Env
  | some (some (.own o _)) => backIn rs c (List.set ρ i (some (Cell.own o d)))
  | _ => none
@[simp] theorem biC_own (i : Nat) (d : D) (rs : List Rv) (c ρ : Env) (o : Bool) (d' : D) : biC i d rs c ρ (some (some (.own o d'))) = backIn rs c (List.set ρ i (some (Cell.own o d))) := (rfl)
@[simp] theorem backIn_slot (i : Nat) (o : Bool) (d : D) (rs : List Rv) (c ρ : Env) : backIn (.slot i :: rs) (some (Cell.own o d) :: c) ρ = biC i d rs c ρ ρ[i]? := by
  show (match ρ[i]? with | some (some (Cell.own o _)) => backIn rs c (List.set ρ i (some (Cell.own o d))) | _ => none) = _
  unfold biC
  rfl
/-- the callee's answer taken over -/
def takeC (rs : List Rv) (ρ : Env) : FAns → Ans Rt
  | .ret r ρb => (match backIn rs ρb ρ with
    | some ρ' => .ok r ρ'
    | none => .bad)
  | .exc x ρb => (match backIn rs ρb ρ with
    | some ρ' => .exc x ρ'
    | none => .bad)
  | .bad => .bad
def okO (r : Rt) : Option Env → Ans Rt
  | some ρ => .ok r ρ
  | none => .bad
@[simp] theorem okO_some (r : Rt) (ρ : Env) : okO r (some ρ) = .ok r ρ := (rfl)
@[simp] theorem takeC_ret (rs : List Rv) (ρ : Env) (r : Rt) (ρb : Env) : takeC rs ρ (.ret r ρb) = okO r (backIn rs ρb ρ) := by
  show (match backIn rs ρb ρ with | some ρ' => Ans.ok r ρ' | none => .bad) = _
  cases backIn rs ρb ρ <;> rfl
def runC (φ : Env → FAns) (rs : List Rv) (ρ : Env) : Option Env → Ans Rt
  | some ρc => takeC rs ρ (φ ρc)
  | none => .bad
@[simp] theorem runC_some (φ : Env → FAns) (rs : List Rv) (ρ ρc : Env) : runC φ rs ρ (some ρc) = takeC rs ρ (φ ρc) := (rfl)
@[simp] theorem ev_callD (np : Nat) (φ : Env → FAns) (rs : List Rv) (ρ : Env) : callD np φ rs ρ = if rs.length = np ∧ (ats rs).Nodup then runC φ rs ρ (passIn ρ rs) else .bad := by
  unfold callD
  split
  · cases passIn ρ rs with
    | none => rfl
    | some ρc =>
      show _ = takeC rs ρ (φ ρc)
      unfold takeC
      try dsimp only
      all_goals
        generalize φ ρc = z
        cases z with
        | ret r ρb => dsimp only; cases backIn rs ρb ρ <;> rfl
        | exc x ρb => dsimp only; cases backIn rs ρb ρ <;> rfl
        | bad => rfl
  · rfl
def outE (f : Env → FAns) : Option Env → FAns
  | some ρ => f ρ
  | none => .bad
@[simp] theorem outE_some (f : Env → FAns) (ρ : Env) : outE f (some ρ) = f ρ := (rfl)
@[simp] theorem outF_next (ρ ρ' : Env) : outF ρ (.next ρ') = outE (.ret (.dat .none)) (backE ρ ρ') := by
  show (match backE ρ ρ' with | some ρb => FAns.ret (.dat .none) ρb | none => .bad) = _
  cases backE ρ ρ' <;> rfl
@[simp] theorem outF_ret (ρ ρ' : Env) (r : Rt) : outF ρ (.ret r ρ') = outE (.ret r) (backE ρ ρ') := by
  show (match backE ρ ρ' with | some ρb => FAns.ret r ρb | none => .bad) = _
  cases backE ρ ρ' <;> rfl
@[simp] theorem outF_exc (ρ ρ' : Env) (x : Exc) : outF ρ (.exc x ρ') = outE (.exc x) (backE ρ ρ') := by
  show (match backE ρ ρ' with | some ρb => FAns.exc x ρb | none => .bad) = _
  cases backE ρ ρ' <;> rfl
@[simp] theorem backE_nil (ρ : Env) : backE [] ρ = some [] := by cases ρ <;> rfl
@[simp] theorem backE_dat (d : D) (r : Env) (c : Option Cell) (r' : Env) : backE (some (.dat d) :: r) (c :: r') = (backE r r').map (none :: ·) := by
  cases c with
  | none => rfl
  | some c => cases c <;> rfl
@[simp] theorem backE_own (o : Bool) (d : D) (r : Env) (d' : D) (r' : Env) : backE (some (.own o d) :: r) (some (.own false d') :: r') = (backE r r').map (some (.own false d') :: ·) := (rfl)
theorem ev_fnD (n : Nat) (ψ : DenS) (ρ : Env) : fnD n ψ ρ = outF ρ (ψ (ρ ++ List.replicate (n - ρ.length) none)) := rfl
/-! ### lazily from the left: simp goes into the first part alone -/
def Hold {α : Sort _} (_ : α) : Type := Unit
def Ans.thn {α β : Type} (m : Ans α) (f : α → Env → Ans β) (_ : Hold f) : Ans β := m.bind f
def oThn {α : Type} (m : Ans α) (f : α → Env → Out) (_ : Hold f) : Out := oBind m f
def Out.thn (m : Out) (f : DenS) (_ : Hold f) : Out := m.andThen f
@[simp ↓] theorem bind_lazy {α β : Type} (m : Ans α) (f : α → Env → Ans β) : m.bind f = m.thn f () := (rfl)
@[simp ↓] theorem oBind_lazy {α : Type} (m : Ans α) (f : α → Env → Out) : oBind m f = oThn m f () := (rfl)
@[simp ↓] theorem then_lazy (m : Out) (f : DenS) : m.andThen f = m.thn f () := (rfl)
@[simp] theorem thn_ok {α β : Type} (a : α) (ρ : Env) (f : α → Env → Ans β) : (Ans.ok a ρ).thn f () = f a ρ := (rfl)
@[simp] theorem thn_exc {α β : Type} (x : Exc) (ρ : Env) (f : α → Env → Ans β) : (Ans.exc x ρ).thn f () = .exc x ρ := (rfl)
@[simp] theorem thn_bad {α β : Type} (f : α → Env → Ans β) : (Ans.bad : Ans α).thn f () = .bad := (rfl)
@[simp] theorem oThn_ok {α : Type} (a : α) (ρ : Env) (f : α → Env → Out) : oThn (.ok a ρ) f () = f a ρ := (rfl)
@[simp] theorem oThn_exc {α : Type} (x : Exc) (ρ : Env) (f : α → Env → Out) : oThn (.exc x ρ) f () = .exc x ρ := (rfl)
@[simp] theorem oThn_bad {α : Type} (f : α → Env → Out) : oThn (.bad : Ans α) f () = .bad := (rfl)
@[simp] theorem outThn_next (ρ : Env) (f : DenS) : (Out.next ρ).thn f () = f ρ := (rfl)
@[simp] theorem outThn_ret (r : Rt) (ρ : Env) (f : DenS) : (Out.ret r ρ).thn f () = .ret r ρ := (rfl)
@[simp] theorem outThn_brk (ρ : Env) (f : DenS) : (Out.brk ρ).thn f () = .brk ρ := (rfl)
@[simp] theorem outThn_cont (ρ : Env) (f : DenS) : (Out.cont ρ).thn f () = .cont ρ := (rfl)
@[simp] theorem outThn_exc (x : Exc) (ρ : Env) (f : DenS) : (Out.exc x ρ).thn f () = .exc x ρ := (rfl)
@[simp] theorem sizeLine_val : sizeLine = 16777216 := (rfl)
/-! ### the operations -/
theorem shaped_int (i : Int) : SeqAt.shaped (.int i) = true := by simp [SeqAt.shaped, PyData.canLay0, PyData.depth]
@[simp] theorem gEq_int (i j : Int) : gEq (.int i) (.int j) = some (.bool (i == j)) := by
  unfold gEq
  rw [if_pos ⟨shaped_int i, shaped_int j⟩]
  simp [PyData.eqv]
@[simp] theorem gNe_int (i j : Int) : gNe (.int i) (.int j) = some (.bool (!(i == j))) := by
  unfold gNe
  rw [if_pos ⟨shaped_int i, shaped_int j⟩]
  simp [PyData.eqv]
@[simp] theorem gEqA_int (i j : Int) : gEqA (.int i) (.int j) = some (.bool (i == j)) := gEq_int i j
@[simp] theorem gNeA_int (i j : Int) : gNeA (.int i) (.int j) = some (.bool (!(i == j))) := gNe_int i j
@[simp] theorem gEqA_str (x y : Str) : gEqA (.str x) (.str y) = some (.bool (decide (x = y))) := (rfl)
@[simp] theorem gNeA_str (x y : Str) : gNeA (.str x) (.str y) = some (.bool (!decide (x = y))) := (rfl)
@[simp] theorem gLt_int (i j : Int) : gLt (.int i) (.int j) = some (.bool (decide (i < j))) := (rfl)
@[simp] theorem gLe_int (i j : Int) : gLe (.int i) (.int j) = some (.bool (decide (i ≤ j))) := (rfl)
@[simp] theorem gGt_int (i j : Int) : gGt (.int i) (.int j) = some (.bool (decide (j < i))) := (rfl)
@[simp] theorem gGe_int (i j : Int) : gGe (.int i) (.int j) = some (.bool (decide (j ≤ i))) := (rfl)
@[simp] theorem gAddA_int (i j : Int) : gAddA (.int i) (.int j) = some (.int (i + j)) := (rfl)
@[simp] theorem gAddI_int (i j : Int) : gAddI (.int i) (.int j) = some (.int (i + j)) := (rfl)
@[simp] theorem gSub_int (i j : Int) : gSub (.int i) (.int j) = some (.int (i - j)) := (rfl)
@[simp] theorem gNeg_int (i : Int) : gNeg (.int i) = some (.int (-i)) := (rfl)
@[simp] theorem gMulA_r {i j : Int} (h : -(2 ^ 64) < j ∧ j < 2 ^ 64) : gMulA (.int i) (.int j) = some (.int (i * j)) := by
  simp only [gMulA, gMul]
  rw [if_pos (.inr h)]
  rfl
@[simp] theorem gMulA_l {i j : Int} (h : -(2 ^ 64) < i ∧ i < 2 ^ 64) : gMulA (.int i) (.int j) = some (.int (i * j)) := by
  simp only [gMulA, gMul]
  rw [if_pos (.inl h)]
  rfl
@[simp] theorem gMod_pos {i j : Int} (h : 0 < j) : gMod (.int i) (.int j) = some (.int (i % j)) := by
  simp only [gMod]
  rw [if_pos h]
@[simp] theorem gDiv_pos {i j : Int} (h : 0 < j ∧ j < 1073741824) : gDiv (.int i) (.int j) = some (.int (i / j)) := by
  simp only [gDiv]
  rw [if_pos h]
@[simp] theorem gPow_nat {i j : Int} (h : 0 ≤ j ∧ j ≤ 1000000 ∧ i.natAbs < 2 ^ 64) : gPow (.int i) (.int j) = some (.int (i ^ j.toNat)) := by
  simp only [gPow]
  rw [if_pos h]
@[simp] theorem gInt_int (i : Int) : gInt [.int i] = some (.int i) := (rfl)
@[simp] theorem gAbs_int (i : Int) : gAbs [.int i] = some (.int (if i < 0 then -i else i)) := (rfl)
@[simp] theorem gLen_list (ds : List D) : gLen [.list ds] = some (.int ds.length) := (rfl)
@[simp] theorem gLen_tuple (ds : List D) : gLen [.tuple ds] = some (.int ds.length) := (rfl)
theorem gLen_str {z : Str} (h : z.length ≤ sizeLine) : gLen [.str z] = some (.int z.length) := by
  simp only [gLen]
  rw [if_pos h]
@[simp] theorem ixN_nat (n k : Nat) : ixN n (k : Int) = if k < n then some k else none := by
  unfold ixN
  by_cases h : k < n
  · rw [if_pos h]
    simp [h]
  · rw [if_neg h]
    simp [h]
@[simp] theorem ixN_0 (n : Nat) : ixN n 0 = if 0 < n then some 0 else none := ixN_nat n 0
@[simp] theorem ixN_1 (n : Nat) : ixN n 1 = if 1 < n then some 1 else none := ixN_nat n 1
@[simp] theorem ixN_2 (n : Nat) : ixN n 2 = if 2 < n then some 2 else none := ixN_nat n 2
@[simp] theorem ixN_3 (n : Nat) : ixN n 3 = if 3 < n then some 3 else none := ixN_nat n 3
theorem atI_at (xs : List D) (k : Nat) : atI xs (k : Int) = xs[k]? := by
  unfold atI
  rw [ixN_nat]
  by_cases h : k < xs.length
  · rw [if_pos h]; rfl
  · rw [if_neg h, List.getElem?_eq_none (by omega)]; rfl
@[simp] theorem gIx_list (xs : List D) (i : Int) : gIx (.list xs) (.int i) = atI xs i := (rfl)
@[simp] theorem gIx_tuple (xs : List D) (i : Int) : gIx (.tuple xs) (.int i) = atI xs i := (rfl)
@[simp] theorem atI_0 (xs : List D) : atI xs 0 = xs[0]? := atI_at xs 0
@[simp] theorem atI_1 (xs : List D) : atI xs 1 = xs[1]? := atI_at xs 1
@[simp] theorem atI_2 (xs : List D) : atI xs 2 = xs[2]? := atI_at xs 2
@[simp] theorem atI_3 (xs : List D) : atI xs 3 = xs[3]? := atI_at xs 3
@[simp] theorem atI_4 (xs : List D) : atI xs 4 = xs[4]? := atI_at xs 4
@[simp] theorem atI_5 (xs : List D) : atI xs 5 = xs[5]? := atI_at xs 5
theorem atI_pos (xs : List D) {i : Int} (h : 0 ≤ i) : atI xs i = xs[i.toNat]? := by
  have := atI_at xs i.toNat
  rwa [Int.toNat_of_nonneg h] at this
@[simp] theorem gGetL_pos {xs : List D} {i : Int} (h : 0 ≤ i) : gGetL (.list xs) (.int i) = xs[i.toNat]? := by
  simp only [gGetL]
  rw [if_pos h]
theorem sIx_pos (n d : Nat) {i : Int} (h : 0 ≤ i) : HT.sIx n d (some i) = min i.toNat n := by
  have := HT.sIx_nat n d i.toNat
  rwa [Int.toNat_of_nonneg h] at this
@[simp] theorem gSl_list (xs : List D) (l u : Option Int) : gSl (.list xs) l u = some (.list (cutD xs l u)) := (rfl)
@[simp] theorem gSl_tuple (xs : List D) (l u : Option Int) : gSl (.tuple xs) l u = some (.tuple (cutD xs l u)) := (rfl)
theorem cutD_from (xs : List D) {i : Int} (h : 0 ≤ i) : cutD xs (some i) none = xs.drop i.toNat := by
  unfold cutD
  rw [sIx_pos _ _ h, HT.sIx_none]
  by_cases hl : i.toNat ≤ xs.length
  · rw [Nat.min_eq_left hl]
    exact List.take_of_length_le (by rw [List.length_drop]; exact Nat.le_refl _)
  · rw [Nat.min_eq_right (by omega), List.drop_length, List.drop_eq_nil_of_le (by omega)]
    simp
theorem cutD_to (xs : List D) {i : Int} (h : 0 ≤ i) : cutD xs none (some i) = xs.take i.toNat := by
  unfold cutD
  rw [sIx_pos _ _ h, HT.sIx_none, List.drop_zero, Nat.sub_zero]
  by_cases hl : i.toNat ≤ xs.length
  · rw [Nat.min_eq_left hl]
  · rw [Nat.min_eq_right (by omega), List.take_length, List.take_of_length_le (by omega)]
@[simp] theorem mkLst_ok {ds : List D} (h : ds.length ≤ 16777216) : mkLst ds = some (.list ds) := if_pos h
@[simp] theorem mkTup_ok {ds : List D} (h : ds.length ≤ 16777216) : mkTup ds = some (.tuple ds) := if_pos h
@[simp] theorem gAddA_list {xs ys : List D} (h : xs.length + ys.length ≤ 16777216) : gAddA (.list xs) (.list ys) = some (.list (xs ++ ys)) := by
  show (none : Option D).or (if xs.length + ys.length ≤ 16777216 then some (PyData.list (xs ++ ys)) else none) = _
  rw [if_pos h]
  rfl
end DL


/-! D layer, 13: loops reckoned; what every law begins with: bag, take, some, alike. -/
namespace DL
open PySem PySem.Spec L2
/-! ### loops -/
@[simp] theorem noX_ok {α : Type} (a : α) (ρ : Env) : noX (.ok a ρ) = .ok a ρ := (rfl)
/-- one turn of a comprehension -/
def lcTurn (γ : DenG) (τ : Den Bool) (φ : Den Rv) (d : D) (ρ : Env) : Ans (Option D) := match γ d ρ with
  | none => .bad
  | some ρ1 => (noX (τ ρ1)).bind fun b ρ2 => if b = true then (noX (φ ρ2)).bind fun r ρ3 => (frz r ρ3).bind fun x ρ4 => .ok (some x) ρ4 else .ok none ρ2
@[simp] theorem lcD_nil (vs : List Nat) (γ : DenG) (τ : Den Bool) (φ : Den Rv) (ρ : Env) : lcD vs γ τ φ [] ρ = .ok [] ρ := (rfl)
theorem bind_assoc {α β δ : Type} (m : Ans α) (f : α → Env → Ans β) (g : β → Env → Ans δ) : (m.bind f).bind g = m.bind fun a ρ => (f a ρ).bind g := by cases m <;> rfl
theorem lcD_cons (vs : List Nat) (γ : DenG) (τ : Den Bool) (φ : Den Rv) (d : D) (ds : List D) (ρ : Env) : lcD vs γ τ φ (d :: ds) ρ = (lcTurn γ τ φ d ρ).bind fun o ρ1 => (lcD vs γ τ φ ds (wipeE ρ1 vs)).bind fun rest ρ2 => .ok (o.toList ++ rest) ρ2 := by
  show (match γ d ρ with | none => Ans.bad | some ρ1 => _) = _
  unfold lcTurn
  cases γ d ρ with
  | none => rfl
  | some ρ1 =>
    dsimp only
    rw [bind_assoc]
    congr 1
    funext b ρ2
    cases b with
    | true =>
      rw [if_pos rfl, if_pos rfl, bind_assoc]
      congr 1
      funext r ρ3
      rw [bind_assoc]
      rfl
    | false =>
      rw [if_neg (by simp), if_neg (by simp)]
      show _ = (lcD vs γ τ φ ds (wipeE ρ2 vs)).bind _
      cases lcD vs γ τ φ ds (wipeE ρ2 vs) <;> rfl
theorem lcTurn_true {γ : DenG} {τ : Den Bool} {φ : Den Rv} {d x : D} {ρ ρ1 ρ2 ρ3 ρ4 : Env} {r : Rv} (h1 : γ d ρ = some ρ1) (h2 : τ ρ1 = .ok true ρ2) (h3 : φ ρ2 = .ok r ρ3) (h4 : frz r ρ3 = .ok x ρ4) : lcTurn γ τ φ d ρ = .ok (some x) ρ4 := by
  simp [lcTurn, h1, h2, h3, h4]
theorem lcTurn_false {γ : DenG} {τ : Den Bool} {φ : Den Rv} {d : D} {ρ ρ1 ρ2 : Env} (h1 : γ d ρ = some ρ1) (h2 : τ ρ1 = .ok false ρ2) : lcTurn γ τ φ d ρ = .ok none ρ2 := by
  simp [lcTurn, h1, h2]
/-- nothing outside is touched -/
theorem lcD_pure {vs : List Nat} {γ : DenG} {τ : Den Bool} {φ : Den Rv} {ρ : Env} {f : D → Option D} : ∀ {ds : List D}, (∀ d ∈ ds, ∃ ρ1, lcTurn γ τ φ d ρ = .ok (f d) ρ1 ∧ wipeE ρ1 vs = ρ) → lcD vs γ τ φ ds ρ = .ok (ds.filterMap f) ρ
  | [], _ => rfl
  | d :: ds, h => by
    obtain ⟨ρ1, h1, h2⟩ := h d List.mem_cons_self
    rw [lcD_cons, h1, Ans.bind_ok, h2, lcD_pure fun e he => h e (List.mem_cons_of_mem _ he), Ans.bind_ok]
    congr 1
    cases e : f d <;> simp [e]
theorem lcD_map {vs : List Nat} {γ : DenG} {τ : Den Bool} {φ : Den Rv} {ρ : Env} {f : D → D} {ds : List D} (h : ∀ d ∈ ds, ∃ ρ1, lcTurn γ τ φ d ρ = .ok (some (f d)) ρ1 ∧ wipeE ρ1 vs = ρ) : lcD vs γ τ φ ds ρ = .ok (ds.map f) ρ := by
  rw [lcD_pure (f := fun d => some (f d)) h]
  congr 1
  induction ds with
  | nil => rfl
  | cons d ds ih => simp
/-- an invariant of what stands outside -/
theorem lcD_inv {vs : List Nat} {γ : DenG} {τ : Den Bool} {φ : Den Rv} {I : Env → Prop} {P : D → Prop} : ∀ {ds : List D} {ρ : Env}, I ρ → (∀ d ∈ ds, ∀ ρ, I ρ → ∃ x ρ1, lcTurn γ τ φ d ρ = .ok (some x) ρ1 ∧ P x ∧ I (wipeE ρ1 vs)) →
    ∃ xs ρ', lcD vs γ τ φ ds ρ = .ok xs ρ' ∧ I ρ' ∧ xs.length = ds.length ∧ ∀ x ∈ xs, P x
  | [], ρ, i, _ => ⟨[], ρ, rfl, i, rfl, by simp⟩
  | d :: ds, ρ, i, h => by
    obtain ⟨x, ρ1, h1, h2, h3⟩ := h d List.mem_cons_self ρ i
    obtain ⟨xs, ρ', h4, h5, h6, h7⟩ := lcD_inv (ds := ds) h3 fun e he => h e (List.mem_cons_of_mem _ he)
    refine ⟨x :: xs, ρ', ?_, h5, by simp [h6], ?_⟩
    · rw [lcD_cons, h1, Ans.bind_ok, h4, Ans.bind_ok]
      rfl
    · intro y hy
      rcases List.mem_cons.mp hy with e | e
      · rw [e]; exact h2
      · exact h7 y e
@[simp] theorem forD_nil (γ : DenG) (ψ : DenS) (ρ : Env) : forD γ ψ [] ρ = .next ρ := (rfl)
/-- a turn of a for that goes on -/
def GoesOn (o : Out) (ρ : Env) : Prop := o = .next ρ ∨ o = .cont ρ
theorem forD_cons (γ : DenG) (ψ : DenS) (d : D) (ds : List D) (ρ : Env) : forD γ ψ (d :: ds) ρ = match γ d ρ with
    | none => .bad
    | some ρ1 => match ψ ρ1 with
      | .next ρ2 => forD γ ψ ds ρ2
      | .cont ρ2 => forD γ ψ ds ρ2
      | .brk ρ2 => .next ρ2
      | o => o := (rfl)
theorem forD_step {γ : DenG} {ψ : DenS} {d : D} {ds : List D} {ρ ρ1 ρ2 : Env} (h1 : γ d ρ = some ρ1) (h2 : GoesOn (ψ ρ1) ρ2) : forD γ ψ (d :: ds) ρ = forD γ ψ ds ρ2 := by
  rw [forD_cons, h1]
  dsimp only
  rcases h2 with h2 | h2 <;> rw [h2]
theorem forD_ret {γ : DenG} {ψ : DenS} {d : D} {ds : List D} {ρ ρ1 ρ2 : Env} {r : Rt} (h1 : γ d ρ = some ρ1) (h2 : ψ ρ1 = .ret r ρ2) : forD γ ψ (d :: ds) ρ = .ret r ρ2 := by
  rw [forD_cons, h1]
  dsimp only
  rw [h2]
/-- a for by an invariant -/
theorem forD_inv {γ : DenG} {ψ : DenS} {I : List D → Env → Prop} : ∀ {ds : List D} {ρ : Env}, I ds ρ → (∀ d r ρ, I (d :: r) ρ → ∃ ρ1 ρ2, γ d ρ = some ρ1 ∧ GoesOn (ψ ρ1) ρ2 ∧ I r ρ2) → ∃ ρ', forD γ ψ ds ρ = .next ρ' ∧ I [] ρ'
  | [], ρ, i, _ => ⟨ρ, rfl, i⟩
  | d :: ds, ρ, i, h => by
    obtain ⟨ρ1, ρ2, h1, h2, h3⟩ := h d ds ρ i
    obtain ⟨ρ', h4, h5⟩ := forD_inv h3 h
    exact ⟨ρ', by rw [forD_step h1 h2]; exact h4, h5⟩
theorem whileD_succ (c : Den Bool) (ψ : DenS) (n : Nat) (ρ : Env) : whileD c ψ (n + 1) ρ = oBind (c ρ) fun b ρ1 => if b = true then (match ψ ρ1 with
    | .next ρ2 => whileD c ψ n ρ2
    | .cont ρ2 => whileD c ψ n ρ2
    | .brk ρ2 => .next ρ2
    | o => o) else .next ρ1 := by
  rfl
/-- a while by a measure -/
theorem whileD_inv {c : Den Bool} {ψ : DenS} {I : Nat → Env → Prop} {Post : Out → Prop}
    (h : ∀ m ρ, I m ρ → (∃ ρ1, c ρ = .ok false ρ1 ∧ Post (.next ρ1)) ∨ ∃ ρ1, c ρ = .ok true ρ1 ∧ ((∃ ρ2 m', GoesOn (ψ ρ1) ρ2 ∧ m' < m ∧ I m' ρ2) ∨ (∃ ρ2, ψ ρ1 = .brk ρ2 ∧ Post (.next ρ2)) ∨ ∃ r ρ2, ψ ρ1 = .ret r ρ2 ∧ Post (.ret r ρ2))) :
    ∀ (n m : Nat) (ρ : Env), m < n → I m ρ → Post (whileD c ψ n ρ)
  | n + 1, m, ρ, hn, i => by
    rw [whileD_succ]
    rcases h m ρ i with ⟨ρ1, h1, h2⟩ | ⟨ρ1, h1, h2⟩
    · rw [h1, oBind_ok, if_neg (by simp)]
      exact h2
    · rw [h1, oBind_ok, if_pos rfl]
      rcases h2 with ⟨ρ2, m', h3, h4, h5⟩ | ⟨ρ2, h3, h4⟩ | ⟨r, ρ2, h3, h4⟩
      · have ih := whileD_inv h n m' ρ2 (by omega) h5
        rcases h3 with h3 | h3 <;> rw [h3] <;> exact ih
      · rw [h3]; exact h4
      · rw [h3]; exact h4
/-! ### the bag -/
def bagD (a b c : Int) (ns : List Int) : D := .list [.int a, .int b, .int c, .list (ns.map .int)]
def take1 : DenS := yIf (xTest (xOp gEqA (xOp gIx (xName 0) (xC (.int 0))) (xC (.int 0)))) (ySeq (ySet (gSet 2) (xOp gIx (xOp gAddA (xSl (xOp gIx (xName 0) (xC (.int 3))) (xPart (xOp gIx (xName 0) (xC (.int 2)))) (xNoPart)) (xNew (xLst (xCons (xC (.int 0)) (xNil))))) (xC (.int 0))))
    (ySeq (yAugIx gAddI 0 (xC (.int 2)) (xC (.int 1)))
    (ySeq (yIf (xTest (xOp gGe (xName 2) (xOp gPow (xC (.int 10)) (xC (.int 18))))) (ySetIx 0 (xC (.int 0)) (xName 2)) (yNext))
    (ySeq (ySet (gSet 3) (xOp gAddA (xOp gAddA (xOp gMulA (xOp gIx (xName 0) (xC (.int 1))) (xC (.int 48271))) (xOp gMod (xCall (lk gInt) (xCons (xName 2) (xNil))) (xC (.int 2147483647)))) (xOp gMulA (xC (.int 7919)) (xOp gIx (xName 0) (xC (.int 2))))))
    (ySetIx 0 (xC (.int 1)) (xOp gMod (xCall (lk gInt) (xCons (xName 3) (xNil))) (xC (.int 2147483647)))))))) (yNext)
def take2 : DenS := ySeq (yIf (xTest (xOp gGt (xOp gIx (xName 0) (xC (.int 0))) (xC (.int 0)))) (ySeq (ySet (gSet 4) (xOp gMod (xCall (lk gInt) (xCons (xOp gIx (xName 0) (xC (.int 0))) (xNil))) (xName 1)))
    (ySeq (ySetIx 0 (xC (.int 0)) (xOp gDiv (xCall (lk gInt) (xCons (xOp gIx (xName 0) (xC (.int 0))) (xNil))) (xName 1)))
    (yRet (xName 4)))) (yNext))
    (ySeq (ySet (gSet 5) (xOp gMod (xCall (lk gInt) (xCons (xOp gMulA (xOp gAddA (xOp gIx (xName 0) (xC (.int 1))) (xC (.int 1))) (xC (.int 39373))) (xNil))) (xC (.int 1000000007))))
    (ySeq (ySet (gSet 6) (xOp gMod (xCall (lk gInt) (xCons (xOp gMulA (xOp gMod (xCall (lk gInt) (xCons (xOp gMulA (xName 5) (xName 5)) (xNil))) (xC (.int 998244353))) (xC (.int 30011))) (xNil))) (xC (.int 998244353))))
    (yRet (xOp gMod (xCall (lk gInt) (xCons (xOp gDiv (xName 6) (xC (.int 7))) (xNil))) (xName 1)))))
def takeD : DL.Env → FAns := fnD 7 (ySeq take1 take2)
theorem take1_ok {a b c m : Int} {ns : List Int} (hc : 0 ≤ c) (hl : ns.length ≤ 63) : ∃ a' b' c' x y, 0 ≤ c' ∧
    take1 [some (.own false (bagD a b c ns)), some (.dat (.int m)), none, none, none, none, none] = .next [some (.own false (bagD a' b' c' ns)), some (.dat (.int m)), x, y, none, none, none] := by
  by_cases h : a = 0
  · have hd : ∃ z : Int, (List.map PyData.int ns).drop c.toNat ++ [PyData.int 0] = .int z :: ((List.map PyData.int ns).drop c.toNat ++ [PyData.int 0]).tail := by
      rw [← List.map_drop]
      cases ns.drop c.toNat with
      | nil => exact ⟨0, rfl⟩
      | cons z r => exact ⟨z, rfl⟩
    obtain ⟨z, hz⟩ := hd
    have hlen : ((List.map PyData.int ns).drop c.toNat).length ≤ 63 := by
      rw [List.length_drop, List.length_map]
      omega
    have h1 : gAddA (PyData.list ((List.map PyData.int ns).drop c.toNat)) (PyData.list [PyData.int 0]) = some (.list (.int z :: ((List.map PyData.int ns).drop c.toNat ++ [PyData.int 0]).tail)) := by
      rw [gAddA_list (by simp only [List.length_cons, List.length_nil]; omega), hz]
      rfl
    by_cases h2 : (1000000000000000000 : Int) ≤ z
    · refine ⟨z, (b * 48271 + z % 2147483647 + 7919 * (c + 1)) % 2147483647, c + 1, some (.dat (.int z)), some (.dat (.int (b * 48271 + z % 2147483647 + 7919 * (c + 1)))), by omega, ?_⟩
      simp [take1, bagD, h, cutD_from _ hc, h1, h2]
    · refine ⟨0, (b * 48271 + z % 2147483647 + 7919 * (c + 1)) % 2147483647, c + 1, some (.dat (.int z)), some (.dat (.int (b * 48271 + z % 2147483647 + 7919 * (c + 1)))), by omega, ?_⟩
      simp [take1, bagD, h, cutD_from _ hc, h1, h2]
  · exact ⟨a, b, c, none, none, hc, by simp [take1, bagD, h]⟩
theorem take2_ok {a b c m : Int} {ns : List Int} {x y : Option Cell} (hm : 0 < m) (hm2 : m < 1073741824) : ∃ a' v ρ', 0 ≤ v ∧ v < m ∧
    take2 [some (.own false (bagD a b c ns)), some (.dat (.int m)), x, y, none, none, none] = .ret (.dat (.int v)) (some (.own false (bagD a' b c ns)) :: ρ') ∧ ρ' ≠ [] := by
  by_cases h : 0 < a
  · refine ⟨a / m, a % m, [some (.dat (.int m)), x, y, some (.dat (.int (a % m))), none, none], Int.emod_nonneg _ (by omega), Int.emod_lt_of_pos _ hm, ?_, by simp⟩
    simp [take2, bagD, h, hm, hm2]
  · have hb := Int.emod_nonneg ((b + 1) * 39373) (b := 1000000007) (by decide)
    have hb2 := Int.emod_lt_of_pos ((b + 1) * 39373) (b := 1000000007) (by decide)
    generalize hB : ((b + 1) * 39373) % 1000000007 = B at hb hb2
    have hB2 : -(2 ^ 64) < B ∧ B < 2 ^ 64 := by omega
    refine ⟨a, (B * B % 998244353 * 30011 % 998244353) / 7 % m, [some (.dat (.int m)), x, y, none, some (.dat (.int B)), some (.dat (.int (B * B % 998244353 * 30011 % 998244353)))], Int.emod_nonneg _ (by omega), Int.emod_lt_of_pos _ hm, ?_, by simp⟩
    simp [take2, bagD, h, hm, hm2, hB, gMulA_l hB2]
theorem take_ok {a b c m : Int} {ns : List Int} (hc : 0 ≤ c) (hl : ns.length ≤ 63) (hm : 0 < m) (hm2 : m < 1073741824) : ∃ a' b' c' v, 0 ≤ c' ∧ 0 ≤ v ∧ v < m ∧
    takeD [some (.own false (bagD a b c ns)), some (.dat (.int m))] = .ret (.dat (.int v)) [some (.own false (bagD a' b' c' ns)), none] := by
  obtain ⟨a1, b1, c1, x, y, h1, e1⟩ := take1_ok (a := a) (b := b) (m := m) hc hl
  obtain ⟨a2, v, ρ', h2, h3, e2, h4⟩ := take2_ok (a := a1) (b := b1) (c := c1) (m := m) (ns := ns) (x := x) (y := y) hm hm2
  refine ⟨a2, b1, c1, v, h1, h2, h3, ?_⟩
  unfold takeD
  rw [ev_fnD]
  cases ρ' with
  | nil => exact absurd rfl h4
  | cons z r => simp [e1, e2]
/-! ### a law's bag, its choice -/
def bagL : DL.Env → FAns := fnD 2 (
    yRetNew (xLst (xCons (xC (.int 0)) (xCons (xC (.int 1234567891)) (xCons (xC (.int 0)) (xCons (xNew (xLc (xItems (xSl (xName 0) (xNoPart) (xPart (xC (.int 63))))) [1] (gSet 1) (xYes) (xCall (lk gAbs) (xCons (xName 1) (xNil))))) (xNil)))))))
def someD : DL.Env → FAns := fnD 2 (
    yRet (xOp gIx (xName 1) (xFn 2 takeD (xCons (xName 0) (xCons (xCall (lk gLen) (xCons (xName 1) (xNil))) (xNil))))))
def alikeD : DL.Env → FAns := fnD 2 (
    yRet (xAndV (xOp gEqA (xCall (lk gRepr) (xCons (xName 0) (xNil))) (xCall (lk gRepr) (xCons (xName 1) (xNil)))) (xOp gEqA (xName 0) (xName 1))))
def absI (i : Int) : Int := if i < 0 then -i else i
theorem bag_ok {ns : List Int} (h : ns.length ≤ 63) : bagL [some (.dat (.list (ns.map .int)))] = .ret (.own (bagD 0 1234567891 0 (ns.map absI))) [none] := by
  unfold bagL
  rw [ev_fnD]
  have hcut : cutD (ns.map PyData.int) none (some 63) = ns.map PyData.int := by
    rw [cutD_to _ (by decide)]
    exact List.take_of_length_le (by rw [List.length_map]; exact h)
  have hl : lcD [1] (gSet 1) xYes (xCall (lk gAbs) (xCons (xName 1) xNil)) (ns.map PyData.int) [some (.dat (.list (ns.map .int))), none] = .ok ((ns.map PyData.int).map fun d => match d with | .int i => .int (absI i) | d => d) [some (.dat (.list (ns.map .int))), none] := by
    refine lcD_map fun d hd => ?_
    obtain ⟨i, _, rfl⟩ := List.mem_map.mp hd
    exact ⟨_, lcTurn_true (r := .dat (.int (absI i))) (by simp; rfl) (by simp; rfl) (by simp [absI]; rfl) rfl, by simp [wipeE]⟩
  have hm : ((ns.map PyData.int).map fun d => match d with | .int i => PyData.int (absI i) | d => d) = (ns.map absI).map .int := by
    simp
  rw [hm] at hl
  have hlen : ns.length ≤ 16777216 := by omega
  simp [hcut, hlen, wipeE, unwipe, datOnly, hl, itemsOf, bagD]
/-- what is chosen is one of them -/
def BagOk (d : D) : Prop := ∃ a b c ns, d = bagD a b c ns ∧ 0 ≤ c ∧ ns.length ≤ 63
theorem BagOk.start {ns : List Int} (h : ns.length ≤ 63) : BagOk (bagD 0 1234567891 0 (ns.map absI)) := ⟨_, _, _, _, rfl, by decide, by simpa using h⟩
theorem BagOk.take {bag : D} (h : BagOk bag) {m : Int} (hm : 0 < m) (hm2 : m < 1073741824) : ∃ v bag', takeD [some (.own false bag), some (.dat (.int m))] = .ret (.dat (.int v)) [some (.own false bag'), none] ∧ 0 ≤ v ∧ v < m ∧ BagOk bag' := by
  obtain ⟨a, b, c, ns, rfl, hc, hl⟩ := h
  obtain ⟨a', b', c', v, h1, h2, h3, h4⟩ := take_ok (a := a) (b := b) hc hl hm hm2
  exact ⟨v, _, h4, h2, h3, a', b', c', ns, rfl, h1, hl⟩
theorem BagOk.some {bag : D} (h : BagOk bag) {ds : List D} (hd : ds ≠ []) (hl : ds.length < 1073741824) : ∃ x bag', someD [some (.own false bag), some (.dat (.list ds))] = .ret (.dat x) [some (.own false bag'), none] ∧ x ∈ ds ∧ BagOk bag' := by
  have hp : 0 < ds.length := List.length_pos_iff.mpr hd
  obtain ⟨v, bag', h1, h2, h3, h4⟩ := h.take (m := ds.length) (by omega) (by omega)
  have hv : v.toNat < ds.length := by omega
  refine ⟨ds[v.toNat], bag', ?_, List.getElem_mem hv, h4⟩
  unfold someD
  rw [ev_fnD]
  simp [h1, atI_pos _ h2, List.getElem?_eq_getElem hv]
theorem alike_ok {d : D} (hs : SeqAt.shaped d = true) (hw : d.showable = true) (hz : d.shown.length ≤ sizeLine) : alikeD [some (.dat d), some (.dat d)] = .ret (.dat (.bool true)) [none, none] := by
  unfold alikeD
  rw [ev_fnD]
  have h1 : gRepr [d] = some (.str d.shown) := if_pos ⟨hs, hw, hz⟩
  have h2 : gEqA d d = some (.bool true) := by
    have h3 : gEq d d = some (.bool true) := by
      unfold gEq
      rw [if_pos ⟨hs, hs⟩, PySem.SeqAt.eqv_refl d (SeqAt.canLay_of_shaped hs)]
    unfold gEqA
    rw [h3]
    cases d <;> first | rfl | skip
    simp [gEqS]
  simp [h1, h2]
end DL


/-! D layer, 14: texts as lists of signs. -/
namespace DL
open PySem PySem.Spec L2
/-- the text of these signs -/
def Z (l : List Nat) : Str := ⟨l.toArray⟩
theorem Z_of (z : Str) : ∃ l, z = Z l := ⟨z.cps.toList, by cases z; simp [Z]⟩
@[simp] theorem Z_list (l : List Nat) : (Z l).cps.toList = l := (rfl)
@[simp] theorem Z_len (l : List Nat) : (Z l).length = l.length := by simp [Z, Str.length]
@[simp] theorem Z_app (a b : List Nat) : Z a ++ Z b = Z (a ++ b) := TL.ext_tl (by rw [TL.tl_append]; rfl)
@[simp] theorem Z_inj (a b : List Nat) : Z a = Z b ↔ a = b := ⟨fun h => by have := congrArg (fun z : Str => z.cps.toList) h; simpa using this, fun h => by rw [h]⟩
theorem Z_string (s : String) : Str.ofString s = Z (s.toList.map Char.toNat) := TL.ext_tl (TL.tl_ofString s)
@[simp] theorem Z_empty : Str.empty = Z [] := (rfl)
theorem Z_mk (l : List Nat) : (⟨l.toArray⟩ : Str) = Z l := rfl
@[simp] theorem Z_one (c : Nat) : (⟨#[c]⟩ : Str) = Z [c] := (rfl)
@[simp] theorem Z_getD (l : List Nat) (c : Nat) : (Z (c :: l)).cps.getD 0 0 = c := by unfold Z; simp
/-- as data -/
def sD (l : List Nat) : D := .str (Z l)
theorem gAddA_str {a b : List Nat} (h : a.length + b.length ≤ 16777216) : gAddA (.str (Z a)) (.str (Z b)) = some (.str (Z (a ++ b))) := by
  show (if (Z a).length + (Z b).length ≤ sizeLine then some (PyData.str (Z a ++ Z b)) else none : Option D).or _ = _
  rw [Z_len, Z_len, if_pos (show _ ≤ sizeLine from h), Z_app]
  rfl
theorem gLen_Z {a : List Nat} (h : a.length ≤ 16777216) : gLen [.str (Z a)] = some (.int a.length) := by
  show (if (Z a).length ≤ sizeLine then some (PyData.int (Z a).length) else none) = _
  rw [Z_len, if_pos (show _ ≤ sizeLine from h)]
@[simp] theorem items_Z (l : List Nat) : itemsOf (.str (Z l)) = some (l.map fun c => .str (Z [c])) := (rfl)
@[simp] theorem gOrd_Z (c : Nat) : gOrd [.str (Z [c])] = some (.int c) := by
  show (if (Z [c]).length = 1 then some (PyData.int ((Z [c]).cps.getD 0 0 : Nat)) else none) = _
  rw [Z_len, if_pos (show [c].length = 1 from rfl), Z_getD]
@[simp] theorem gChr_Z {i : Int} (h : 0 ≤ i ∧ i ≤ 1114111) : gChr [.int i] = some (.str (Z [i.toNat])) := if_pos h
/-- a part of a list, places from 0 -/
theorem cutS_Z (l : List Nat) (lo hi : Option Int) : cutS (Z l) lo hi = Z ((l.drop (HT.sIx l.length 0 lo)).take (HT.sIx l.length l.length hi - HT.sIx l.length 0 lo)) := by
  unfold cutS
  rw [Z_len, Z_list]
  rfl
theorem cutS_from (l : List Nat) {i : Int} (h : 0 ≤ i) : cutS (Z l) (some i) none = Z (l.drop i.toNat) := by
  rw [cutS_Z, sIx_pos _ _ h, HT.sIx_none]
  congr 1
  by_cases hl : i.toNat ≤ l.length
  · rw [Nat.min_eq_left hl]
    exact List.take_of_length_le (by rw [List.length_drop]; exact Nat.le_refl _)
  · rw [Nat.min_eq_right (by omega), List.drop_length, List.drop_eq_nil_of_le (by omega)]
    simp
theorem cutS_to (l : List Nat) {i : Int} (h : 0 ≤ i) : cutS (Z l) none (some i) = Z (l.take i.toNat) := by
  rw [cutS_Z, sIx_pos _ _ h, HT.sIx_none, List.drop_zero, Nat.sub_zero]
  congr 1
  by_cases hl : i.toNat ≤ l.length
  · rw [Nat.min_eq_left hl]
  · rw [Nat.min_eq_right (by omega), List.take_length, List.take_of_length_le (by omega)]
theorem cutS_mid (l : List Nat) {i j : Int} (h : 0 ≤ i) (h2 : 0 ≤ j) : cutS (Z l) (some i) (some j) = Z ((l.drop i.toNat).take (j.toNat - i.toNat)) := by
  rw [cutS_Z, sIx_pos _ _ h, sIx_pos _ _ h2]
  congr 1
  by_cases h3 : i.toNat ≤ l.length
  · rw [Nat.min_eq_left h3]
    by_cases h4 : j.toNat ≤ l.length
    · rw [Nat.min_eq_left h4]
    · rw [Nat.min_eq_right (by omega), List.take_of_length_le (by rw [List.length_drop]; exact Nat.le_refl _), List.take_of_length_le (by rw [List.length_drop]; omega)]
  · rw [Nat.min_eq_right (show l.length ≤ i.toNat by omega), List.drop_length, List.drop_eq_nil_of_le (show l.length ≤ i.toNat by omega)]
    simp
theorem gSl_Z {l : List Nat} {lo hi : Option Int} {m : List Nat} (h : l.length ≤ 16777216) (e : cutS (Z l) lo hi = Z m) : gSl (.str (Z l)) lo hi = some (.str (Z m)) := by
  show (if (Z l).length ≤ sizeLine then some (PyData.str (cutS (Z l) lo hi)) else none) = _
  rw [Z_len, if_pos (show _ ≤ sizeLine from h), e]
theorem gSl_from {l : List Nat} {i : Int} (h : l.length ≤ 16777216) (h1 : 0 ≤ i) : gSl (.str (Z l)) (some i) none = some (.str (Z (l.drop i.toNat))) := gSl_Z h (cutS_from l h1)
theorem gSl_to {l : List Nat} {i : Int} (h : l.length ≤ 16777216) (h1 : 0 ≤ i) : gSl (.str (Z l)) none (some i) = some (.str (Z (l.take i.toNat))) := gSl_Z h (cutS_to l h1)
theorem gSl_mid {l : List Nat} {i j : Int} (h : l.length ≤ 16777216) (h1 : 0 ≤ i) (h2 : 0 ≤ j) : gSl (.str (Z l)) (some i) (some j) = some (.str (Z ((l.drop i.toNat).take (j.toNat - i.toNat)))) := gSl_Z h (cutS_mid l h1 h2)
theorem gIx_Z0 {c : Nat} {l : List Nat} (h : l.length < 16777216) : gIx (.str (Z (c :: l))) (.int 0) = some (.str (Z [c])) := by
  show (if (Z (c :: l)).length ≤ sizeLine then (L2.atI (Z (c :: l)).cps.toList 0).map (fun c => PyData.str ⟨#[c]⟩) else none) = _
  rw [Z_len, if_pos (by show (c :: l).length ≤ 16777216; rw [List.length_cons]; omega), Z_list]
  have e : L2.atI (c :: l) 0 = some c := atI_nat (j := 0) rfl
  rw [e]
  rfl
/-! orders of single signs -/
theorem lt_one (a b : Nat) : ([a] < [b]) ↔ a < b := by
  constructor
  · intro h
    cases h with
    | rel h => exact h
    | cons h => cases h
  · intro h
    exact List.Lex.rel h
@[simp] theorem gLe_Z (a b : Nat) : gLe (.str (Z [a])) (.str (Z [b])) = some (.bool (decide (a ≤ b))) := by
  show some (PyData.bool (!decide ([b] < [a]))) = _
  congr 2
  rw [decide_eq_decide.mpr (lt_one b a)]
  by_cases h : a ≤ b
  · rw [decide_eq_true h, decide_eq_false (by omega)]; rfl
  · rw [decide_eq_false h, decide_eq_true (by omega)]; rfl
@[simp] theorem gLt_Z (a b : Nat) : gLt (.str (Z [a])) (.str (Z [b])) = some (.bool (decide (a < b))) := by
  show some (PyData.bool (decide ([a] < [b]))) = _
  rw [decide_eq_decide.mpr (lt_one a b)]
@[simp] theorem gIn_Z (neg : Bool) (c : Nat) (l : List Nat) : gIn neg (.str (Z [c])) (.str (Z l)) = some (.bool (if neg = true then !decide (c ∈ l) else decide (c ∈ l))) := by
  have h1 : oneSign (Z [c]) = some c := by
    unfold oneSign
    rw [Z_len, if_pos (show [c].length = 1 from rfl), Z_getD]
  have h2 : gInS neg (.str (Z [c])) (.str (Z l)) = some (.bool (if neg = true then !decide (c ∈ l) else decide (c ∈ l))) := by
    simp only [gInS, hasSign, h1, Option.map_some, Z_list]
    try (cases neg <;> (simp only [if_true, if_false, Bool.false_eq_true]; congr))
  unfold gIn
  rw [h2]
  rfl
/-! the first part before a sign; a beginning; joined; the first place -/
theorem spl_head (s : Nat) : ∀ (l acc : List Nat), ∃ r, TL.spl [s] 0 acc l = (acc ++ l.takeWhile (· != s)) :: r
  | [], acc => ⟨[], by simp [TL.spl]⟩
  | c :: l, acc => by
    by_cases h : c = s
    · subst h
      refine ⟨TL.spl [c] 0 [] l, ?_⟩
      have hp : TL.pre [c] (c :: l) = true := by simp [TL.pre]
      rw [TL.spl_hit hp]
      simp
    · have hp : TL.pre [s] (c :: l) = false := by
        simp [TL.pre, h]
      obtain ⟨r, hr⟩ := spl_head s l (acc ++ [c])
      refine ⟨r, ?_⟩
      rw [TL.spl_miss hp, hr]
      have : (c != s) = true := by simp [h]
      simp [List.takeWhile_cons, this]
theorem split_first {l : List Nat} {s : Nat} (hs : s < 256) : ∃ r, PySem.Txt.split (Z l) (Z [s]) = Z (l.takeWhile (· != s)) :: r := by
  have h := TL.split_spl (Z l) (Z [s]) (by simp [TL.tl]) (TL.kind_ok (by rw [← Array.all_toList]; simp [hs]))
  obtain ⟨r, hr⟩ := spl_head s l []
  rw [List.nil_append] at hr
  have h : (PySem.Txt.split (Z l) (Z [s])).map TL.tl = (l.takeWhile (· != s)) :: r := h.trans hr
  cases e : PySem.Txt.split (Z l) (Z [s]) with
  | nil => rw [e] at h; simp at h
  | cons z rest =>
    rw [e] at h
    simp only [List.map_cons, List.cons.injEq] at h
    exact ⟨rest, by rw [show z = Z (l.takeWhile (· != s)) from TL.ext_tl h.1]⟩
theorem gSplit_first {l : List Nat} {s : Nat} (hs : s < 256) (h : l.length ≤ 16000000) : ∃ r, gSplit (Z l) [.str (Z [s])] = some (.list (.str (Z (l.takeWhile (· != s))) :: r)) := by
  obtain ⟨r, hr⟩ := split_first (l := l) hs
  refine ⟨r.map .str, ?_⟩
  show (if ((Z [s]).length == 0) = false ∧ (Z l).length + 2 ≤ sizeLine then some (PyData.list ((PySem.Txt.split (Z l) (Z [s])).map .str)) else none) = _
  rw [Z_len, Z_len, if_pos ⟨rfl, by show l.length + 2 ≤ 16777216; omega⟩, hr]
  rfl
theorem starts_Z (l p : List Nat) : PySem.Txt.startswith (Z l) (Z p) = (l.take p.length == p) := by
  unfold PySem.Txt.startswith
  rw [StrLaws.subAt_eq, Z_len, Z_len, Z_list, Z_list, List.drop_zero, Nat.zero_add]
  by_cases h : p.length ≤ l.length
  · rw [decide_eq_true h, Bool.true_and]
  · rw [decide_eq_false h, Bool.false_and]
    symm
    rw [beq_eq_false_iff_ne]
    intro e
    have := congrArg List.length e
    rw [List.length_take] at this
    omega
@[simp] theorem gStarts_Z (l p : List Nat) : gStarts (Z l) [.str (Z p)] = some (.bool (l.take p.length == p)) := by
  show some (PyData.bool (PySem.Txt.startswith (Z l) (Z p))) = _
  rw [starts_Z]
theorem joinL_nil : ∀ ls : List (List Nat), TL.joinL [] ls = ls.flatten
  | [] => rfl
  | [p] => by simp [TL.joinL]
  | p :: q :: r => by
    show p ++ ([] ++ TL.joinL [] (q :: r)) = _
    rw [joinL_nil (q :: r)]
    simp
theorem join_Z (ls : List (List Nat)) : PySem.Txt.join (Z []) (ls.map Z) = Z ls.flatten := by
  rw [TL.join_eq]
  refine TL.ext_tl ?_
  rw [TL.tl_join]
  have h1 : TL.tl (Z []) = [] := (rfl)
  have h2 : (ls.map Z).map TL.tl = ls := by
    rw [List.map_map]
    exact List.map_id'' (fun l => rfl) ls
  rw [h1, h2, joinL_nil]
  rfl
theorem gJoin_Z {ls : List (List Nat)} (h : ls.flatten.length ≤ 16777216) : gJoin (Z []) [.list (ls.map fun l => .str (Z l))] = some (.str (Z ls.flatten)) := by
  have e : (ls.map fun l => PyData.str (Z l)) = (ls.map Z).map .str := by simp
  show (strsD (ls.map fun l => PyData.str (Z l))).bind _ = _
  rw [e, strsD_map]
  show (if ((ls.map Z).map (·.length)).sum + (ls.map Z).length * (Z []).length ≤ 16777216 then some (PyData.str (PySem.Txt.join (Z []) (ls.map Z))) else none) = _
  have e2 : (ls.map Z).map (·.length) = ls.map List.length := by simp
  rw [if_pos, join_Z]
  rw [e2, Z_len]
  simpa [List.length_flatten] using h
theorem index0_Z {l : List Nat} {s : Nat} (h : s ∈ l) : PySem.Txt.index0 (Z l) (Z [s]) = some (l.takeWhile (· != s)).length := by
  unfold PySem.Txt.index0
  have at_iff : ∀ i, StrLaws.At (Z l) (Z [s]) (Z l).length i ↔ l[i]? = some s := fun i => StrLaws.subAt_one (Z l) s i
  have first : ∀ (l : List Nat), s ∈ l → l[(l.takeWhile (· != s)).length]? = some s ∧ ∀ k, k < (l.takeWhile (· != s)).length → l[k]? ≠ some s := by
    intro l
    induction l with
    | nil => intro h; simp at h
    | cons c r ih =>
      intro h
      by_cases hc : c = s
      · subst hc
        simp
      · have hcs : (c != s) = true := by simp [hc]
        have hr : s ∈ r := by
          rcases List.mem_cons.mp h with e | e
          · exact absurd e.symm hc
          · exact e
        obtain ⟨i1, i2⟩ := ih hr
        rw [List.takeWhile_cons, if_pos hcs, List.length_cons]
        refine ⟨by simpa using i1, fun k hk => ?_⟩
        cases k with
        | zero => simpa using hc
        | succ k => simpa using i2 k (by omega)
  obtain ⟨f1, f2⟩ := first l h
  rcases StrLaws.occ_head (Z l) (Z [s]) 1 (Nat.le_refl _) with ⟨_, hn⟩ | ⟨i, r, e, ha, hn⟩
  · exact absurd ((at_iff _).mpr f1) (hn _)
  · rw [e]
    show some i = _
    congr 1
    have hi := (at_iff i).mp ha
    rcases Nat.lt_trichotomy i (l.takeWhile (· != s)).length with hlt | heq | hgt
    · exact absurd hi (f2 i hlt)
    · exact heq
    · exact absurd ((at_iff _).mpr f1) (hn _ hgt)
theorem gIndex_Z {l : List Nat} {s : Nat} (h : s ∈ l) : gIndex (Z l) [.str (Z [s])] = some (.int (l.takeWhile (· != s)).length) := by
  show (PySem.Txt.index0 (Z l) (Z [s])).map _ = _
  rw [index0_Z h]
  rfl
/-! numbers as texts -/
theorem toString_Z (n : Nat) : Str.ofString (toString (n : Int)) = Z (TL.numL n) := TL.ext_tl (TL.tl_num n)
theorem log2_small {n : Nat} (h : n < 2 ^ 1000) : n.log2 < 1920 := by
  by_cases h0 : n = 0
  · subst h0; decide
  · have := (Nat.log2_lt h0).mpr h
    omega
theorem gStr_nat {n : Nat} (h : n < 2 ^ 1000) : gStr [.int n] = some (.str (Z (TL.numL n))) := by
  show (if (n : Int).natAbs.log2 < 1920 then some (PyData.str (Str.ofString (toString (n : Int)))) else none) = _
  rw [if_pos (by simpa using log2_small h), toString_Z]
theorem asText_nat {n : Nat} (h : n < 2 ^ 1000) : asText (.int n) = some (.str (Z (TL.numL n))) := gStr_nat h
theorem asText_Z {l : List Nat} (h : l.length ≤ 16777216) : asText (.str (Z l)) = some (.str (Z l)) := by
  show (if (Z l).length ≤ sizeLine then some (PyData.str (Z l)) else none) = _
  rw [Z_len, if_pos (show _ ≤ sizeLine from h)]
theorem gInt_digits {l : List Nat} (h : NumText.AllDigits l) (hn : l ≠ []) (hl : l.length ≤ 640) : gInt [.str (Z l)] = some (.int (NumText.digitsVal l)) := by
  show (if (Z l).length ≤ 640 then (intText? (Z l)).map PyData.int else none) = _
  rw [Z_len, if_pos hl, PySem.intText_digits (x := Z l) h hn (by rw [Z_len]; omega)]
  rfl
theorem strOk_Z (l : List Nat) : PyData.strOk (Z l) = l.all (· < 0x110000) := by
  unfold PyData.strOk
  rw [← Array.all_toList]
  rfl
theorem shaped_str {l : List Nat} (h : ∀ c ∈ l, c < 0x110000) : SeqAt.shaped (.str (Z l)) = true := by
  unfold SeqAt.shaped
  simp only [PyData.canLay0, PyData.depth, Bool.and_eq_true, strOk_Z, List.all_eq_true]
  exact ⟨fun c hc => by simpa using h c hc, rfl⟩
/-! comprehensions over a text; lists of bools; nothing found -/
theorem lcD_text {vs : List Nat} {γ : DenG} {τ : Den Bool} {φ : Den Rv} {ρ : Env} {f : Nat → Option D} {l : List Nat} (h : ∀ c ∈ l, ∃ ρ1, lcTurn γ τ φ (.str (Z [c])) ρ = .ok (f c) ρ1 ∧ wipeE ρ1 vs = ρ) : lcD vs γ τ φ (l.map fun c => .str (Z [c])) ρ = .ok (l.filterMap f) ρ := by
  induction l with
  | nil => rfl
  | cons c l ih =>
    obtain ⟨ρ1, h1, h2⟩ := h c List.mem_cons_self
    rw [List.map_cons, lcD_cons, h1, Ans.bind_ok, h2, ih fun e he => h e (List.mem_cons_of_mem _ he), Ans.bind_ok]
    congr 1
    cases e : f c <;> simp [e]
theorem gAll_bools (bs : List Bool) : gAll [.list (bs.map .bool)] = some (.bool (bs.all id)) := by
  unfold gAll
  show (boolsD (bs.map .bool)).map _ = _
  rw [boolsD_map]
  rfl
theorem gAny_bools (bs : List Bool) : gAny [.list (bs.map .bool)] = some (.bool (bs.any id)) := by
  unfold gAny
  show (boolsD (bs.map .bool)).map _ = _
  rw [boolsD_map]
  rfl
theorem canLayAll_of : ∀ {xs : List D}, (∀ d ∈ xs, d.canLay0 = true) → PyData.canLayAll0 xs = true
  | [], _ => rfl
  | d :: xs, h => by
    rw [PyData.canLayAll0, h d List.mem_cons_self, canLayAll_of fun e he => h e (List.mem_cons_of_mem _ he)]
    rfl
theorem depthAll_of {n : Nat} : ∀ {xs : List D}, (∀ d ∈ xs, d.depth ≤ n) → PyData.depthAll xs ≤ n
  | [], _ => Nat.zero_le _
  | d :: xs, h => by
    rw [PyData.depthAll]
    exact Nat.max_le.mpr ⟨h d List.mem_cons_self, depthAll_of fun e he => h e (List.mem_cons_of_mem _ he)⟩
/-- laid, of depth n at most -/
def Sh (n : Nat) (d : D) : Prop := d.canLay0 = true ∧ d.depth ≤ n
theorem Sh.mono {m n : Nat} {d : D} (h : Sh m d) (k : m ≤ n) : Sh n d := ⟨h.1, Nat.le_trans h.2 k⟩
theorem Sh.list {n : Nat} {xs : List D} (h : ∀ d ∈ xs, Sh n d) : Sh (n + 1) (.list xs) := by
  refine ⟨?_, ?_⟩
  · rw [PyData.canLay0]; exact canLayAll_of fun d hd => (h d hd).1
  · rw [PyData.depth]
    have := depthAll_of fun d hd => (h d hd).2
    omega
theorem Sh.tuple {n : Nat} {xs : List D} (h : ∀ d ∈ xs, Sh n d) : Sh (n + 1) (.tuple xs) := by
  refine ⟨?_, ?_⟩
  · rw [PyData.canLay0]; exact canLayAll_of fun d hd => (h d hd).1
  · rw [PyData.depth]
    have := depthAll_of fun d hd => (h d hd).2
    omega
theorem Sh.int (i : Int) : Sh 0 (.int i) := ⟨rfl, Nat.le_refl 0⟩
theorem Sh.bool (i : Bool) : Sh 0 (.bool i) := ⟨rfl, Nat.le_refl 0⟩
theorem Sh.none : Sh 0 .none := ⟨rfl, Nat.le_refl 0⟩
theorem Sh.str {l : List Nat} (h : ∀ c ∈ l, c < 0x110000) : Sh 0 (.str (Z l)) := by
  refine ⟨?_, Nat.le_refl 0⟩
  rw [PyData.canLay0, strOk_Z, List.all_eq_true]
  exact fun c hc => by simpa using h c hc
theorem Sh.shaped {n : Nat} {d : D} (h : Sh n d) (k : n ≤ 64) : SeqAt.shaped d = true := by
  unfold SeqAt.shaped
  rw [h.1, decide_eq_true (Nat.le_trans h.2 k)]
  rfl
theorem gNeA_nil {n : Nat} {xs : List D} (h : Sh n (.list xs)) (k : n ≤ 64) : gNeA (.list xs) (.list []) = some (.bool (!xs.isEmpty)) := by
  have e : gNe (.list xs) (.list []) = some (.bool (!xs.isEmpty)) := by
    unfold gNe
    rw [if_pos ⟨h.shaped k, (Sh.list (n := 0) (by simp)).shaped (by decide)⟩]
    cases xs <;> simp [PyData.eqv, PyData.eqvAll]
  exact e
theorem oAppend_ok {ds : List D} {d : D} (h : ds.length < 16777216) : oAppend ds [d] = some (ds ++ [d], .none) := if_pos h
/-! texts that are short and stand -/
def TxtOk (n : Nat) (l : List Nat) : Prop := l.length ≤ n ∧ ∀ c ∈ l, c < 0x110000
theorem TxtOk.mono {m n : Nat} {l : List Nat} (h : TxtOk m l) (k : m ≤ n) : TxtOk n l := ⟨Nat.le_trans h.1 k, h.2⟩
theorem TxtOk.app {m n : Nat} {a b : List Nat} (h : TxtOk m a) (k : TxtOk n b) : TxtOk (m + n) (a ++ b) := by
  refine ⟨by rw [List.length_append]; have := h.1; have := k.1; omega, fun c hc => ?_⟩
  rcases List.mem_append.mp hc with e | e
  · exact h.2 c e
  · exact k.2 c e
theorem TxtOk.take {n : Nat} {l : List Nat} (h : TxtOk n l) (k : Nat) : TxtOk n (l.take k) := ⟨by rw [List.length_take]; have := h.1; omega, fun c hc => h.2 c (List.mem_of_mem_take hc)⟩
theorem TxtOk.drop {n : Nat} {l : List Nat} (h : TxtOk n l) (k : Nat) : TxtOk n (l.drop k) := ⟨by rw [List.length_drop]; have := h.1; omega, fun c hc => h.2 c (List.mem_of_mem_drop hc)⟩
theorem TxtOk.lit (s : String) : ∃ l, Str.ofString s = Z l ∧ TxtOk s.toList.length l ∧ l.length = s.toList.length := by
  refine ⟨s.toList.map Char.toNat, Z_string s, ⟨by simp, fun c hc => ?_⟩, by simp⟩
  obtain ⟨ch, _, rfl⟩ := List.mem_map.mp hc
  rcases ch.valid with h | h
  · exact Nat.lt_trans h (by decide)
  · exact h.2
theorem choose_all {β : Type} {f : β → D} {Q : β → Prop} : ∀ {xs : List D}, (∀ x ∈ xs, ∃ b, x = f b ∧ Q b) → ∃ bs : List β, xs = bs.map f ∧ ∀ b ∈ bs, Q b
  | [], _ => ⟨[], rfl, by simp⟩
  | x :: xs, h => by
    obtain ⟨b, hb, q⟩ := h x List.mem_cons_self
    obtain ⟨bs, e, qs⟩ := choose_all fun y hy => h y (List.mem_cons_of_mem _ hy)
    refine ⟨b :: bs, by rw [hb, e, List.map_cons], fun c hc => ?_⟩
    rcases List.mem_cons.mp hc with e | e
    · rw [e]; exact q
    · exact qs c e
theorem gRange1_ok {j : Int} (h : -(2 ^ 62) ≤ j ∧ j < 2 ^ 62) : gRange1 [.int j] = some (rangeL 0 j.toNat) := if_pos h
theorem gRange2_ok {i j : Int} (h : -(2 ^ 62) ≤ i ∧ i < 2 ^ 62 ∧ -(2 ^ 62) ≤ j ∧ j < 2 ^ 62) : gRange2 [.int i, .int j] = some (rangeL i (j - i).toNat) := if_pos h
theorem rangeL_len (i : Int) (n : Nat) : (rangeL i n).length = n := by simp [rangeL]
theorem gList_Z {l : List Nat} (h : l.length ≤ 16777216) : gList [.str (Z l)] = some (.list (l.map fun c => .str (Z [c]))) := by
  show (if (Z l).length ≤ sizeLine then some (PyData.list ((Z l).cps.toList.map fun c => .str ⟨#[c]⟩)) else none) = _
  rw [Z_len, if_pos (show _ ≤ sizeLine from h)]
  rfl
end DL


set_option exponentiation.threshold 2000
/-! D layer, 15: data that may be shown and compared. -/
namespace DL
open PySem PySem.Spec L2
/-- laid, of depth n and weight w at most, its ints short -/
structure Nc (n w : Nat) (d : D) : Prop where
  sh : Sh n d
  wt : d.weight ≤ w
  short : d.intsShort 13 = true
  show' : d.showable = true
theorem Nc.mono {m n v w : Nat} {d : D} (h : Nc m v d) (h1 : m ≤ n) (h2 : v ≤ w) : Nc n w d := ⟨h.sh.mono h1, Nat.le_trans h.wt h2, h.short, h.show'⟩
theorem Nc.str {n : Nat} {l : List Nat} (h : TxtOk n l) : Nc 0 n (.str (Z l)) := ⟨Sh.str h.2, by
  show (Z l).cps.size ≤ n
  have := h.1
  rw [← Z_len l] at this
  exact this, rfl, rfl⟩
theorem Nc.nat {n : Nat} (h : n < 1000000000000) : Nc 0 41 (.int (n : Int)) := by
  refine ⟨Sh.int _, ?_, ?_, ?_⟩
  · show (if (n : Int) == 0 then 0 else (n : Int).natAbs.log2 + 1) ≤ 41
    split
    · omega
    · rename_i h0
      have h0 : n ≠ 0 := by simpa using h0
      have := (Nat.log2_lt h0 (k := 40)).mpr (by omega)
      rw [Int.natAbs_natCast]
      omega
  · have e : (PyData.int (n : Int)).shown = Z (TL.numL n) := toString_Z n
    show decide ((PyData.int (n : Int)).shown.length ≤ 13) = true
    rw [e, Z_len]
    exact decide_eq_true (Nat.le_trans (TL.numL_len (k := 12) (by decide) (by omega)) (by decide))
  · show decide ((n : Int).natAbs.log2 < 1920) = true
    rw [Int.natAbs_natCast]
    exact decide_eq_true (log2_small (Nat.lt_trans h (Nat.lt_of_lt_of_le (show 1000000000000 < 2 ^ 40 by decide) (Nat.pow_le_pow_right (by decide) (by decide)))))
theorem Nc.none : Nc 0 0 .none := ⟨Sh.none, Nat.le_refl 0, rfl, rfl⟩
theorem Nc.bool (b : Bool) : Nc 0 0 (.bool b) := ⟨Sh.bool b, Nat.le_refl 0, rfl, rfl⟩
theorem weightAll_of {w : Nat} : ∀ {xs : List D}, (∀ d ∈ xs, d.weight ≤ w) → PyData.weightAll xs ≤ xs.length * (w + 1)
  | [], _ => Nat.zero_le _
  | d :: xs, h => by
    rw [PyData.weightAll, List.length_cons, Nat.succ_mul]
    have := h d List.mem_cons_self
    have := weightAll_of fun e he => h e (List.mem_cons_of_mem _ he)
    omega
theorem showableAll_of : ∀ {xs : List D}, (∀ d ∈ xs, d.showable = true) → PyData.showableAll xs = true
  | [], _ => rfl
  | d :: xs, h => by
    rw [PyData.showableAll, h d List.mem_cons_self, showableAll_of fun e he => h e (List.mem_cons_of_mem _ he)]
    rfl
theorem Nc.list {n w k : Nat} {xs : List D} (h : ∀ d ∈ xs, Nc n w d) (hk : xs.length ≤ k) : Nc (n + 1) (k * (w + 1)) (.list xs) := by
  refine ⟨Sh.list fun d hd => (h d hd).sh, ?_, ?_, ?_⟩
  · rw [PyData.weight]
    exact Nat.le_trans (weightAll_of fun d hd => (h d hd).wt) (Nat.mul_le_mul_right _ hk)
  · rw [PyData.intsShort]; exact PySem.Spec.intsShortAll_of fun d hd => (h d hd).short
  · rw [PyData.showable]; exact showableAll_of fun d hd => (h d hd).show'
theorem Nc.tuple {n w k : Nat} {xs : List D} (h : ∀ d ∈ xs, Nc n w d) (hk : xs.length ≤ k) : Nc (n + 1) (k * (w + 1)) (.tuple xs) := by
  refine ⟨Sh.tuple fun d hd => (h d hd).sh, ?_, ?_, ?_⟩
  · rw [PyData.weight]
    exact Nat.le_trans (weightAll_of fun d hd => (h d hd).wt) (Nat.mul_le_mul_right _ hk)
  · rw [PyData.intsShort]; exact PySem.Spec.intsShortAll_of fun d hd => (h d hd).short
  · rw [PyData.showable]; exact showableAll_of fun d hd => (h d hd).show'
theorem Nc.list1 {n w : Nat} {a : D} (h : Nc n w a) : Nc (n + 1) (w + 1) (.list [a]) := by
  have := Nc.list (k := 1) (xs := [a]) (fun d hd => by rw [List.mem_singleton.mp hd]; exact h) (by simp)
  rwa [Nat.one_mul] at this
/-- repr and == of one thing twice -/
theorem alike_nc {n w : Nat} {d : D} (h : Nc n w d) (hn : n ≤ 64) (hw : w ≤ 1048576) : alikeD [some (.dat d), some (.dat d)] = .ret (.dat (.bool true)) [none, none] := by
  have lay : PyData.layable0 d = true := by
    unfold PyData.layable0
    rw [h.sh.1, decide_eq_true (Nat.le_trans h.sh.2 hn), decide_eq_true (Nat.le_trans h.wt hw)]
    rfl
  refine alike_ok (h.sh.shaped hn) h.show' (Nat.le_trans (PyProof.Rows.shown_le13 lay h.short) ?_)
  decide
/-! a comprehension over a list of things of one sort -/
theorem lcD_gen {β : Type} {vs : List Nat} {γ : DenG} {τ : Den Bool} {φ : Den Rv} {ρ : Env} {g f : β → D} {bs : List β} (h : ∀ b ∈ bs, ∃ ρ1, lcTurn γ τ φ (g b) ρ = .ok (some (f b)) ρ1 ∧ wipeE ρ1 vs = ρ) : lcD vs γ τ φ (bs.map g) ρ = .ok (bs.map f) ρ := by
  induction bs with
  | nil => rfl
  | cons b bs ih =>
    obtain ⟨ρ1, h1, h2⟩ := h b List.mem_cons_self
    rw [List.map_cons, lcD_cons, h1, Ans.bind_ok, h2, ih fun e he => h e (List.mem_cons_of_mem _ he), Ans.bind_ok]
    rfl
theorem gRep_two (d : D) : gRep (.list [d]) (.int 2) = some (.list [d, d]) := by
  have h : -(2 ^ 63) ≤ (2 : Int) ∧ (2 : Int) < 2 ^ 63 ∧ [d].length * (2 : Int).toNat ≤ sizeLine := ⟨by decide, by decide, by show 1 * 2 ≤ 16777216; decide⟩
  simp only [gRep]
  rw [if_pos h]
  rfl
theorem gMulA_two (d : D) : gMulA (.list [d]) (.int 2) = some (.list [d, d]) := by
  unfold gMulA
  rw [gRep_two]
  rfl
/-- a name that may be stored into: nothing yet, or data -/
def Cl (x : Option Cell) : Prop := x = none ∨ ∃ d, x = some (.dat d)
theorem Cl.none : Cl Option.none := .inl rfl
theorem Cl.dat (d : D) : Cl (some (.dat d)) := .inr ⟨d, rfl⟩
theorem Cl.cs {x : Option Cell} (h : Cl x) : csC (some x) = true := by
  rcases h with rfl | ⟨d, rfl⟩ <;> simp
end DL


/-! D layer, 16: isinstance, flat membership. -/
namespace DL
open PySem PySem.Spec L2
/-! ### isinstance(e, T) -/
def tyN : D → String
  | .none => "NoneType"
  | .bool _ => "bool"
  | .int _ => "int"
  | .str _ => "str"
  | .list _ => "list"
  | .tuple _ => "tuple"
  | .dict _ => "dict"
def isiD (T : String) (d : D) : Bool := tyN d == T || (T == "int" && tyN d == "bool")
def KitOk (T : String) : Prop := ∀ d : D, kitB (tyN d) T = some (isiD T d)
theorem kit_int : KitOk "int" := fun d => by cases d <;> (simp only [tyN, isiD]; decide +kernel)
theorem kit_bool : KitOk "bool" := fun d => by cases d <;> (simp only [tyN, isiD]; decide +kernel)
theorem kit_str : KitOk "str" := fun d => by cases d <;> (simp only [tyN, isiD]; decide +kernel)
theorem kit_list : KitOk "list" := fun d => by cases d <;> (simp only [tyN, isiD]; decide +kernel)
theorem kit_tuple : KitOk "tuple" := fun d => by cases d <;> (simp only [tyN, isiD]; decide +kernel)
theorem kit_dict : KitOk "dict" := fun d => by cases d <;> (simp only [tyN, isiD]; decide +kernel)
def xIsi (T : String) (φ : Den Rv) : Den Rv := fun ρ => (φ ρ).bind fun r ρ1 => (ofO (look ρ1 r) ρ1).bind fun d ρ2 => .ok (.dat (.bool (isiD T d))) ρ2
@[simp] theorem ev_isi (T : String) (φ : Den Rv) (ρ : Env) : xIsi T φ ρ = (φ ρ).bind fun r ρ1 => (ofO (look ρ1 r) ρ1).bind fun d ρ2 => .ok (.dat (.bool (isiD T d))) ρ2 := (rfl)
theorem tyX_of {K : PySem.W.Frag} {H : Hp} {v : V} {d : D} (h : Dr K H v d) : TyX K H v (.type (tyN d)) := by
  cases h with
  | non => exact .base .non
  | bl b => exact .base (.bl b)
  | int i => exact .base (.int i)
  | str x => exact .base (.str x)
  | lst q r =>
    rcases q with (e | ⟨o, e⟩) | ⟨o, its, n, hk, hc, _⟩
    · exact .base (.lst e)
    · exact .base (.frz e)
    · exact .kList hk hc
  | tup q r =>
    rcases q with (e | ⟨o, e⟩) | ⟨o, its, n, hk, hc, _⟩
    · exact .base (.tup e)
    · exact .fTuple e
    · exact .kTuple hk hc
  | dic q r =>
    rcases q with e | ⟨o, e⟩
    · exact .base (.dK e)
    · exact .fDict e
section
variable {X : Cx} {W : WX} {e : Expr} {p p2 pos : Pos} {φ : Den Rv}
theorem de_isi {T : String} {x : Str} (he : DE X W e φ) (hg : Gl X "isinstance") (hm : X.mg "isinstance" = none) (hgT : Gl X x) (hmT : X.mg x = none) (hbT : bootBuiltins x = some (.type T)) (hk : KitOk T) (hx : x ≠ "__name__" := by decide) (hx2 : (x == ("__debug__" : Str)) = false := by decide)
    (he1 : starEach [e, .Name x p2] X.env = (false, eval e X.env) :: starEach [.Name x p2] X.env := by rfl) (he2 : starEach [.Name x p2] X.env = (false, eval (.Name x p2) X.env) :: starEach [] X.env := by rfl) (hpl : (backTo pos (starEach [.Name x p2] X.env)).any (·.1) = false := by rfl) :
    DE X W (.Call (.Name "isinstance" p) [e, .Name x p2] [] pos) (xIsi T φ) := by
  refine pe_imp (pe_callB call_isi hg hm b_isinstance (pa_cons he (pa_cons (pe_bltn (v := .ty T) hgT hmT hbT rfl hx hx2) pa_nil he2) he1) (by decide) (by decide) he1 hpl) fun σ H Q h => ?_
  obtain ⟨B, F, ρ, S, w⟩ := h
  refine ⟨B, F, ρ, S, wp_mono (wp_bind w) (fun r ρ1 w1 F1 v H1 s1 S1 q1 => ?_) fun _ _ z => z⟩
  obtain ⟨d, e1, w2⟩ := wp_ofO (wp_bind w1)
  exact ⟨v, .ty T, .type (tyN d), .type T, _, rfl, .ty T, tyX_of (S1.look q1 e1), kit_ty (hk d), w2 F1 _ H1 s1 S1 (.bl _)⟩
end
/-! ### x in a list or a tuple of flat things -/
def flatD : D → Bool
  | .none => true
  | .bool _ => true
  | .int _ => true
  | .str _ => true
  | _ => false
def itemsLT : D → Option (List D)
  | .list ds => some ds
  | .tuple ds => some ds
  | _ => none
def gInF (neg : Bool) (a b : D) : Option D := (itemsLT b).bind fun ds => if flatD a = true ∧ ds.all flatD = true then some (.bool (if neg = true then !(ds.any fun z => PyData.eqv z a) else ds.any fun z => PyData.eqv z a)) else none
theorem flat_of {K : PySem.W.Frag} {H : Hp} {v : V} {d : D} (h : Dr K H v d) (f : flatD d = true) : flatV v = true := by
  cases h with
  | lst _ _ => exact absurd f Bool.false_ne_true
  | tup _ _ => exact absurd f Bool.false_ne_true
  | dic _ _ => exact absurd f Bool.false_ne_true
  | _ => rfl
theorem flats_of {K : PySem.W.Frag} {H : Hp} : ∀ {vs : List V} {ds : List D}, DrAll K H vs ds → ds.all flatD = true → vs.all flatV = true
  | _, _, .nil, _ => rfl
  | _, _, .cons a t, f => by
    simp only [List.all_cons, Bool.and_eq_true] at f ⊢
    exact ⟨flat_of a f.1, flats_of t f.2⟩
theorem eqV_of {K : PySem.W.Frag} {H : Hp} {v u : V} {d e : D} (h : Dr K H v d) (k : Dr K H u e) (f : flatD d = true) (g : flatD e = true) : eqV v u = PyData.eqv d e := by
  cases h with
  | lst _ _ => exact absurd f Bool.false_ne_true
  | tup _ _ => exact absurd f Bool.false_ne_true
  | dic _ _ => exact absurd f Bool.false_ne_true
  | _ =>
    cases k with
    | lst _ _ => exact absurd g Bool.false_ne_true
    | tup _ _ => exact absurd g Bool.false_ne_true
    | dic _ _ => exact absurd g Bool.false_ne_true
    | _ => first | rfl | simp only [eqV, PyData.eqv]
theorem inV_of {K : PySem.W.Frag} {H : Hp} {v : V} {d : D} (h : Dr K H v d) (f : flatD d = true) : ∀ {vs : List V} {ds : List D}, DrAll K H vs ds → ds.all flatD = true → inV v vs = ds.any fun z => PyData.eqv z d
  | _, _, .nil, _ => rfl
  | _, _, .cons a t, g => by
    simp only [List.all_cons, Bool.and_eq_true] at g
    show (eqV _ v || inV v _) = (PyData.eqv _ d || _)
    rw [eqV_of a h g.1 f, inV_of h f t g.2]
section
variable {X : Cx} {K : PySem.W.Frag}
theorem s2_inF {neg : Bool} : S2 K (rIn K neg) (gInF neg) := by
  intro B F ρ σ H x y a b da db dz Q S ra rb ea eb e q
  obtain ⟨ds, e1, e2⟩ := Option.bind_eq_some_iff.mp e
  obtain ⟨hc, e3⟩ := if_some e2
  subst e3
  have hx := S.look ra ea
  have fin : ∀ {vs : List V}, DrAll K H vs ds → flatV x = true ∧ vs.all flatV = true ∧ (if neg = true then !inV x vs else inV x vs) = (if neg = true then !(ds.any fun z => PyData.eqv z da) else ds.any fun z => PyData.eqv z da) := fun {vs} r => ⟨flat_of hx hc.1, flats_of r hc.2, by rw [inV_of hx hc.1 r hc.2]⟩
  have hy := S.look rb eb
  cases db <;> simp only [itemsLT, reduceCtorEq, Option.some.injEq] at e1
  · subst e1
    cases hy with
    | lst h1 h2 =>
      obtain ⟨f1, f2, f3⟩ := fin h2
      exact ⟨_, _, rfl, .inl h1, f1, f2, by rw [f3]; exact q F _ H (Same.refl F) S (.bl _)⟩
  · subst e1
    cases hy with
    | tup h1 h2 =>
      obtain ⟨f1, f2, f3⟩ := fin h2
      exact ⟨_, _, rfl, .inr h1, f1, f2, by rw [f3]; exact q F _ H (Same.refl F) S (.bl _)⟩
/-- sign in text; flat in list or tuple; deep in list -/
def gInA (neg : Bool) (a b : D) : Option D := (gInS neg a b).or ((gInF neg a b).or (gInL neg a b))
def rInB (K : PySem.W.Frag) : R2 := fun x y H Q => (∃ (c : Nat) (z : Str), x = .str ⟨#[c]⟩ ∧ y = .str z ∧ Q (.bl (decide (c ∈ z.cps.toList))) H) ∨ (rIn K false x y H Q ∨ rInD K x y H Q)
def rNotInB (K : PySem.W.Frag) : R2 := fun x y H Q => (∃ (c : Nat) (z : Str), x = .str ⟨#[c]⟩ ∧ y = .str z ∧ Q (.bl (!decide (c ∈ z.cps.toList))) H) ∨ (rIn K true x y H Q ∨ rNotInD K x y H Q)
theorem op_inB {k : Nat} (r : Room k X.A) : OpR X (compareOp .In) (rInB X.K) := OpR.or op_in_sign (OpR.or op_in_seq (op_inD (by have := r.un; omega)))
theorem op_notInB {k : Nat} (r : Room k X.A) : OpR X (compareOp .NotIn) (rNotInB X.K) := OpR.or op_notIn_sign (OpR.or op_notIn_seq (op_notInD (by have := r.un; omega)))
theorem s2_inB : S2 K (rInB K) (gInA false) := S2.or s2_inS (S2.or s2_inF s2_inL)
theorem s2_notInB : S2 K (rNotInB K) (gInA true) := S2.or s2_notInS (S2.or s2_inF s2_notInL)
/-! ### max, min of a list of ints -/
def maxI : List Int → Option Int
  | [] => none
  | x :: r => some (r.foldl (fun a b => if a < b then b else a) x)
def minI : List Int → Option Int
  | [] => none
  | x :: r => some (r.foldl (fun a b => if b < a then b else a) x)
theorem fold_max : ∀ (r : List Int) (x : Int), (r.foldl (fun a b => if a < b then b else a) x = x ∨ r.foldl (fun a b => if a < b then b else a) x ∈ r) ∧ x ≤ r.foldl (fun a b => if a < b then b else a) x ∧ ∀ y ∈ r, y ≤ r.foldl (fun a b => if a < b then b else a) x
  | [], x => ⟨.inl rfl, Int.le_refl x, by simp⟩
  | z :: r, x => by
    rw [List.foldl_cons]
    by_cases h : x < z
    · rw [if_pos h]
      obtain ⟨h1, h2, h3⟩ := fold_max r z
      refine ⟨.inr ?_, by omega, fun y hy => ?_⟩
      · rcases h1 with e | e
        · rw [e]; exact List.mem_cons_self
        · exact List.mem_cons_of_mem _ e
      · rcases List.mem_cons.mp hy with e | e
        · rw [e]; exact h2
        · exact h3 y e
    · rw [if_neg h]
      obtain ⟨h1, h2, h3⟩ := fold_max r x
      refine ⟨h1.imp id fun e => List.mem_cons_of_mem _ e, h2, fun y hy => ?_⟩
      rcases List.mem_cons.mp hy with e | e
      · rw [e]; omega
      · exact h3 y e
theorem fold_min : ∀ (r : List Int) (x : Int), (r.foldl (fun a b => if b < a then b else a) x = x ∨ r.foldl (fun a b => if b < a then b else a) x ∈ r) ∧ r.foldl (fun a b => if b < a then b else a) x ≤ x ∧ ∀ y ∈ r, r.foldl (fun a b => if b < a then b else a) x ≤ y
  | [], x => ⟨.inl rfl, Int.le_refl x, by simp⟩
  | z :: r, x => by
    rw [List.foldl_cons]
    by_cases h : z < x
    · rw [if_pos h]
      obtain ⟨h1, h2, h3⟩ := fold_min r z
      refine ⟨.inr ?_, by omega, fun y hy => ?_⟩
      · rcases h1 with e | e
        · rw [e]; exact List.mem_cons_self
        · exact List.mem_cons_of_mem _ e
      · rcases List.mem_cons.mp hy with e | e
        · rw [e]; exact h2
        · exact h3 y e
    · rw [if_neg h]
      obtain ⟨h1, h2, h3⟩ := fold_min r x
      refine ⟨h1.imp id fun e => List.mem_cons_of_mem _ e, h2, fun y hy => ?_⟩
      rcases List.mem_cons.mp hy with e | e
      · rw [e]; omega
      · exact h3 y e
theorem maxI_spec {ns : List Int} {m : Int} (h : maxI ns = some m) : m ∈ ns ∧ ∀ y ∈ ns, y ≤ m := by
  cases ns with
  | nil => cases h
  | cons x r =>
    have h := Option.some.inj h
    obtain ⟨h1, h2, h3⟩ := fold_max r x
    subst h
    refine ⟨?_, fun y hy => ?_⟩
    · rcases h1 with e | e
      · rw [e]; exact List.mem_cons_self
      · exact List.mem_cons_of_mem _ e
    · rcases List.mem_cons.mp hy with e | e
      · rw [e]; exact h2
      · exact h3 y e
theorem minI_spec {ns : List Int} {m : Int} (h : minI ns = some m) : m ∈ ns ∧ ∀ y ∈ ns, m ≤ y := by
  cases ns with
  | nil => cases h
  | cons x r =>
    have h := Option.some.inj h
    obtain ⟨h1, h2, h3⟩ := fold_min r x
    subst h
    refine ⟨?_, fun y hy => ?_⟩
    · rcases h1 with e | e
      · rw [e]; exact List.mem_cons_self
      · exact List.mem_cons_of_mem _ e
    · rcases List.mem_cons.mp hy with e | e
      · rw [e]; exact h2
      · exact h3 y e
def gMax (as : List D) : Option D := (lstOf as).bind fun ds => (intsD ds).bind fun ns => (maxI ns).map .int
def gMin (as : List D) : Option D := (lstOf as).bind fun ds => (intsD ds).bind fun ns => (minI ns).map .int
theorem s1_max : S1 K (rMax K) (lk gMax) := by
  refine s1_one (fun B F ρ σ H v a d dz Q S q e e2 k => ?_) fun ds dz e => ?_
  · obtain ⟨xs, e3, e4⟩ := Option.bind_eq_some_iff.mp e2
    obtain ⟨ns, e5, e6⟩ := Option.bind_eq_some_iff.mp e4
    obtain ⟨m, e7, e8⟩ := Option.map_eq_some_iff.mp e6
    cases lstOf_eq e3
    subst e8
    obtain ⟨p, vs, rfl, h1, h2⟩ := S.items q e
    rw [intsD_eq e5] at h2
    cases h2.of_ints
    obtain ⟨m1, m2⟩ := maxI_spec e7
    refine ⟨p, ns, rfl, h1, List.length_pos_of_mem m1, fun y hy hall => ?_⟩
    have : y = m := by have a1 := m2 y hy; have a2 := hall m m1; omega
    rw [this]
    exact k F _ H (Same.refl F) S (.int _)
  · obtain ⟨xs, e3, _⟩ := Option.bind_eq_some_iff.mp e
    exact ⟨_, lstOf_eq e3⟩
theorem s1_min : S1 K (rMin K) (lk gMin) := by
  refine s1_one (fun B F ρ σ H v a d dz Q S q e e2 k => ?_) fun ds dz e => ?_
  · obtain ⟨xs, e3, e4⟩ := Option.bind_eq_some_iff.mp e2
    obtain ⟨ns, e5, e6⟩ := Option.bind_eq_some_iff.mp e4
    obtain ⟨m, e7, e8⟩ := Option.map_eq_some_iff.mp e6
    cases lstOf_eq e3
    subst e8
    obtain ⟨p, vs, rfl, h1, h2⟩ := S.items q e
    rw [intsD_eq e5] at h2
    cases h2.of_ints
    obtain ⟨m1, m2⟩ := minI_spec e7
    refine ⟨p, ns, rfl, h1, List.length_pos_of_mem m1, fun y hy hall => ?_⟩
    have : y = m := by have a1 := m2 y hy; have a2 := hall m m1; omega
    rw [this]
    exact k F _ H (Same.refl F) S (.int _)
  · obtain ⟨xs, e3, _⟩ := Option.bind_eq_some_iff.mp e
    exact ⟨_, lstOf_eq e3⟩
end
end DL


/-! D layer, 17: range(a, b, -1), dict comprehensions. -/
namespace DL
open PySem PySem.Spec L2
/-! ### range downwards -/
def downL (lo : Int) (n : Nat) : List D := (List.range n).map fun (i : Nat) => PyData.int (lo - (i : Int))
def gRange3 : List D → Option (List D)
  | [.int i, .int j, .int c] => if c = -1 ∧ -(2 ^ 62) ≤ i ∧ i < 2 ^ 62 ∧ -(2 ^ 62) ≤ j ∧ j < 2 ^ 62 then some (downL i (i - j).toNat) else none
  | _ => none
theorem itcDown_ok {K : PySem.W.Frag} {F : Hp} {lo : Int} {n : Nat} : ItOk K F (Itc lo (-1) n) (downL lo n) := by
  refine ⟨fun i d B F1 ρ σ H s1 S e => ?_, fun H f => ?_⟩
  · unfold downL at e
    rw [List.getElem?_map] at e
    obtain ⟨j, h1, h2⟩ := Option.map_eq_some_iff.mp e
    have hi : i < n := by
      have := (List.getElem?_eq_some_iff.mp h1).1
      simpa using this
    have hj : j = i := by
      rw [List.getElem?_range hi] at h1
      exact (Option.some.inj h1).symm
    subst hj
    refine ⟨hi, fun x H' y => ?_⟩
    obtain ⟨rfl, rfl⟩ := y
    subst h2
    have e : lo + (j : Int) * (-1) = lo - j := by omega
    rw [e]
    exact ⟨F1, Same.refl F1, S, .int _⟩
  · show n ≤ (downL lo n).length
    unfold downL
    simp
theorem looks_three {ρ : Env} {rs : List Rv} {d d' d'' : D} (h : looks ρ rs = some [d, d', d'']) : ∃ r r' r'', rs = [r, r', r''] ∧ look ρ r = some d ∧ look ρ r' = some d' ∧ look ρ r'' = some d'' := by
  cases rs with
  | nil => cases h
  | cons r rs =>
    obtain ⟨d', ds, e1, e2, e3⟩ := looks_cons h
    cases e1
    obtain ⟨r', r'', rfl, e4, e5⟩ := looks_two e3
    exact ⟨r, r', r'', rfl, e2, e4, e5⟩
section
variable {X : Cx} {W : WX} {tg : Expr}
theorem di_range3 {a b c : Expr} {p pos : Pos} {φ : Den (List Rv)} (hg : Gl X "range") (hm : X.mg "range" = none) (ha : DA X W [a, b, c] φ)
    (hs : starEach [a, b, c] X.env = (false, eval a X.env) :: starEach [b, c] X.env := by rfl) (hpl : (backTo pos (starEach [b, c] X.env)).any (·.1) = false := by rfl) :
    DI X W tg (.Call (.Name "range" p) [a, b, c] [] pos) (xRng gRange3 φ) := by
  refine pi_imp (pi_range3 hg hm ha hs hpl) fun σ H R hq => ?_
  obtain ⟨B, F, ρ, S, w⟩ := hq
  refine ⟨B, F, ρ, S, wp_mono (wp_bind w) (fun rs ρ1 w1 F1 vs H1 s1 S1 q1 => ?_) fun _ _ z => z⟩
  obtain ⟨ds, e1, w2⟩ := wp_ofO w1
  obtain ⟨as, e2, e3⟩ := Option.bind_eq_some_iff.mp e1
  unfold gRange3 at e3
  split at e3
  · rename_i i j c
    obtain ⟨hz, e9⟩ := if_some e3
    obtain ⟨r, r', r'', rfl, e4, e5, e6⟩ := looks_three e2
    obtain ⟨rfl, h1, h2, h3, h4⟩ := hz
    cases q1 with
    | cons q1 t =>
      cases t with
      | cons q2 t =>
        cases t with
        | cons q3 t =>
          cases t
          rw [S1.int q1 e4, S1.int q2 e5, S1.int q3 e6]
          subst e9
          exact ⟨i, j, -1, _, rfl, RgC.neg h1 h2 h3 h4, w2 F1 _ H1 s1 S1 itcDown_ok⟩
  · cases e3
end
/-! ### dicts as data: a key put -/
def keqD : Key → D → Bool
  | .inl i, .int j => decide (j = i)
  | .inr x, .str y => decide (y = x)
  | _, _ => false
theorem keqD_key (k k' : Key) : keqD k (keyD k') = decide (k' = k) := by
  cases k <;> cases k' <;> simp [keqD, keyD]
def putD (es : List (D × D)) (k : Key) (d : D) : List (D × D) :=
  if (es.any fun e => keqD k e.1) = true then es.map (fun e => if keqD k e.1 = true then (e.1, d) else e) else es ++ [(keyD k, d)]
theorem drKv_any {K : PySem.W.Frag} {F : Hp} {k : Key} : ∀ {kvs : List (Key × V)} {es : List (D × D)}, DrKv K F kvs es → (es.any fun e => keqD k e.1) = kvs.any fun kv => decide (kv.1 = k)
  | _, _, .nil => rfl
  | _, _, .cons a t => by rw [List.any_cons, List.any_cons, drKv_any t, keqD_key]
theorem drKv_map {K : PySem.W.Frag} {F : Hp} {k : Key} {v : V} {d : D} (h : Dr K F v d) : ∀ {kvs : List (Key × V)} {es : List (D × D)}, DrKv K F kvs es → DrKv K F (kvs.map fun kv => if kv.1 = k then (kv.1, v) else kv) (es.map fun e => if keqD k e.1 = true then (e.1, d) else e)
  | _, _, .nil => .nil
  | _, _, .cons (k := k') a t => by
    rw [List.map_cons, List.map_cons, keqD_key]
    by_cases e : k' = k
    · rw [if_pos e, if_pos (decide_eq_true e)]
      exact .cons h (drKv_map h t)
    · rw [if_neg e, if_neg (by simpa using e)]
      exact .cons a (drKv_map h t)
theorem drKv_snoc {K : PySem.W.Frag} {F : Hp} {k : Key} {v : V} {d : D} (h : Dr K F v d) : ∀ {kvs : List (Key × V)} {es : List (D × D)}, DrKv K F kvs es → DrKv K F (kvs ++ [(k, v)]) (es ++ [(keyD k, d)])
  | _, _, .nil => .cons h .nil
  | _, _, .cons a t => .cons a (drKv_snoc h t)
theorem drKv_put {K : PySem.W.Frag} {F : Hp} {k : Key} {v : V} {d : D} {kvs : List (Key × V)} {es : List (D × D)} (r : DrKv K F kvs es) (h : Dr K F v d) : DrKv K F (putK kvs k v) (putD es k d) := by
  unfold putK putD
  rw [drKv_any r]
  split
  · exact drKv_map h r
  · exact drKv_snoc h r
def gKey : D → Option Key
  | .int i => some (.inl i)
  | .str x => some (.inr x)
  | _ => none
theorem key_of {K : PySem.W.Frag} {F : Hp} {v : V} {d : D} {k : Key} (h : Dr K F v d) (e : gKey d = some k) : v = kV k := by
  cases h <;> simp only [gKey, reduceCtorEq, Option.some.injEq] at e <;> (subst e; rfl)
/-! ### {k: v for target in iter if test} -/
def dcD (vs : List Nat) (γ : DenG) (τ : Den Bool) (κ φ : Den Rv) : List D → List (D × D) → Env → Ans (List (D × D))
  | [], es, ρ => .ok es ρ
  | d :: ds, es, ρ => match γ d ρ with
    | none => .bad
    | some ρ1 => (noX (τ ρ1)).bind fun b ρ2 => if b then (noX (κ ρ2)).bind fun r ρ3 => (ofO ((look ρ3 r).bind gKey) ρ3).bind fun k ρ4 => (noX (φ ρ4)).bind fun r ρ5 => (frz r ρ5).bind fun x ρ6 => dcD vs γ τ κ φ ds (putD es k x) (wipeE ρ6 vs)
      else dcD vs γ τ κ φ ds es (wipeE ρ2 vs)
def xDc (ι : Den (List D)) (vs : List Nat) (γ : DenG) (τ : Den Bool) (κ φ : Den Rv) : Den D := fun ρ => (ι ρ).bind fun ds ρ1 => if ds.length ≤ sizeLine then (noX (dcD vs γ τ κ φ ds [] (wipeE ρ1 vs))).bind fun es ρ2 => .ok (.dict es) (unwipe ρ1 ρ2 vs) else .bad
section
variable {X : Cx} {W : WX}
theorem dcD_sound {K : PySem.W.Frag} {ι : Den (List D)} {is vs : List Nat} {γ : DenG} {τ : Den Bool} {κ φ : Den Rv} (hv : ∀ i ∈ is, i ∈ vs) {σ : St} {H : Hp} {Q : VK} (h : tDN K W (xDc ι vs γ τ κ φ) σ H Q) :
    tDc (tDI K W ι) (tDG K is γ) (tDT K W0 τ) (tDE K W0 κ) (tDE K W0 φ) vs σ H Q := by
  obtain ⟨B, F, ρ, S, w⟩ := h
  refine ⟨B, F, ρ, S, wp_mono (wp_bind w) (fun ds ρ1 w1 F1 J H1 s1 S1 J1 => ?_) fun _ _ z => z⟩
  intro D hD
  split at w1
  · rename_i hz
    have fD : F1 D = none := (S1.free hD).2.1
    have gD : B.G D = none := (S1.free hD).1
    have hDn : B.H D = none := (S1.free hD).2.2
    have bD : B.F D = none := by
      cases e : B.F D with
      | none => rfl
      | some x => rw [S1.bf D x e] at fD; cases fD
    have S2 := (S1.wiped vs).fresh (o := .dK []) hD
    have A2 : Apart B F1 (wipeE ρ1 vs) (wipe σ vs) (upd H1 D (.dK [])) D (.dK []) := ⟨upd_same, fD, (S1.wiped vs).noslot hD⟩
    refine ⟨fun i m H' => m + i = ds.length ∧ ∃ F' ρ' acc as, Same F1 F' ∧ Sim K B F' ρ' (wipe σ vs) H' ∧ Apart B F' ρ' (wipe σ vs) H' D (.dK acc) ∧ DrKv K F' acc as ∧ acc.length ≤ i ∧
      Wp (dcD vs γ τ κ φ (ds.drop i) as ρ') (fun es ρ'' => ∀ F' p H', Same F1 F' → Sim K B F' (unwipe ρ1 ρ'' vs) σ H' → NewAt K B F' (unwipe ρ1 ρ'' vs) σ H' p (.dict es) → Q (.ref p) H') (fun _ _ => False), ⟨ds.length, rfl, F1, wipeE ρ1 vs, [], [], Same.refl F1, S2, A2, .nil, Nat.le_refl _, ?_⟩, fun i m H' hw => ?_⟩
    · rw [List.drop_zero]
      exact wp_noX (wp_mono (wp_bind w1) (fun rest ρ'' q F' p H' s' S' N => q F' p H' (s1.trans s') S' N) fun _ _ z => z)
    · obtain ⟨hm, F', ρ', acc, as, s', S', A', dr, la, w'⟩ := hw
      by_cases hl : i < ds.length
      · have ed : ds.drop i = ds[i] :: ds.drop (i + 1) := List.drop_eq_getElem_cons hl
        have eg : ds[i]? = some ds[i] := List.getElem?_eq_getElem hl
        obtain ⟨h1, h2⟩ := J1.1 i ds[i] B F' ρ' (wipe σ vs) H' s' S' eg
        refine .inr ⟨h1, _, fun H2 hn => ⟨m - 1, by omega, by omega, hn⟩, fun x H2 y => ?_⟩
        have S3 := S'.guard A'
        obtain ⟨_, h3⟩ := J1.1 i ds[i] (B.plus D (.dK acc)) F' ρ' (wipe σ vs) H' s' S3 eg
        obtain ⟨F4, s4, S4, r4⟩ := h3 x H2 y
        rw [ed] at w'
        unfold dcD at w'
        cases e1 : γ ds[i] ρ' with
        | none => rw [e1] at w'; exact w'.elim
        | some ρ2 =>
          rw [e1] at w'
          simp only at w'
          refine ⟨_, F4, ρ', ds[i], ρ2, S4, r4, e1, fun σ2 S5 hw2 => ⟨(hw2 vs hv).trans wipe_idem, ?_⟩⟩
          have hw2 := (hw2 vs hv).trans wipe_idem
          refine ⟨_, F4, ρ2, S5, wp_mono (wp_noX (wp_bind w')) (fun b ρ3 w3 F5 H5 s5 S6 => ?_) fun _ _ z => z⟩
          have dr5 := dr.up (s4.trans s5)
          cases b with
          | false =>
            simp only [Bool.false_eq_true, if_false] at w3 ⊢
            have S7 := S6.wiped vs
            rw [hw2] at S7
            obtain ⟨S8, A8⟩ := S7.unguard gD bD hDn
            exact ⟨F5, wipeE ρ3 vs, acc, as, s'.trans (s4.trans s5), S8, A8, dr5, by omega, w3⟩
          | true =>
            simp only [if_true] at w3 ⊢
            refine ⟨_, F5, ρ3, S6, wp_mono (wp_noX (wp_bind w3)) (fun r ρ4 w4 F6 v H6 s6 S7 r7 => ?_) fun _ _ z => z⟩
            obtain ⟨k, e5, w5⟩ := wp_ofO (wp_bind w4)
            obtain ⟨dk, e6, e7⟩ := Option.bind_eq_some_iff.mp e5
            have hk := key_of (S7.look r7 e6) e7
            refine ⟨_, F6, ρ4, S7, wp_mono (wp_noX (wp_bind w5)) (fun r' ρ6 w6 F7 v' H7 s7 S8 r8 => ?_) fun _ _ z => z⟩
            obtain ⟨x', ρ7, e8, w7⟩ := wp_frz (wp_bind w6)
            obtain ⟨F8, s8, r9, S9⟩ := S8.frz r8 e8
            have S10 := S9.wiped vs
            rw [hw2] at S10
            obtain ⟨S11, A11⟩ := S10.unguard gD bD hDn
            obtain ⟨S12, A12⟩ := S11.other (o' := .dK (putK acc k v')) A11 gD
            have dr8 := dr5.up (s6.trans (s7.trans s8))
            exact ⟨acc, k, hk, A11.at', by omega, F8, wipeE ρ7 vs, putK acc k v', putD as k x', s'.trans (s4.trans (s5.trans (s6.trans (s7.trans s8)))), S12, A12, drKv_put dr8 r9, by have := length_putK acc k v'; omega, w7⟩
      · have ei : i = ds.length := by omega
        subst ei
        rw [List.drop_length] at w'
        refine .inl ⟨J1.2 H' (s'.trans S'.f), ?_⟩
        have S3 := S1.unwiped s' S'
        refine w' F' D H' s' S3 ⟨⟨_, A'.at', dr⟩, A'.f0, gD, hDn, fun j ow d e z => ?_⟩
        rcases unwipe_some e with ⟨_, d', q⟩ | ⟨q1, q2⟩
        · cases q
        · exact A'.ns j ow d q2 (by rw [wipe_out q1]; exact z)
  · exact w1.elim
/-- {k: v for target in iter if test} -/
theorem dn_dc {k : Nat} (C : Cok X W k) {kx vx tg iter : Expr} {ifs : List Expr} {scope : Scope} {own : List (Str × Nat)} {pos : Pos} {ι : Den (List D)} {is : List Nat} {γ : DenG} {τ : Den Bool} {κ φ : Den Rv} (hi : DI X W tg iter ι) (ok : BlkOk X.N X.env.scope scope own) (hv : ∀ i ∈ is, i ∈ own.map (·.2))
    (hg : ∀ (s : Shared) (H : Hp) (C : Addr) (cl : List (Str × Addr)) (fp : List Addr), DG (X.blk s H scope (compEnvC scope cl C X.env) fp) tg is γ) (ht : ∀ (s : Shared) (H : Hp) (C : Addr) (cl : List (Str × Addr)) (fp : List Addr), DTs (X.blk s H scope (compEnvC scope cl C X.env) fp) ifs τ)
    (hk : ∀ (s : Shared) (H : Hp) (C : Addr) (cl : List (Str × Addr)) (fp : List Addr), DE (X.blk s H scope (compEnvC scope cl C X.env) fp) W0 kx κ)
    (he : ∀ (s : Shared) (H : Hp) (C : Addr) (cl : List (Str × Addr)) (fp : List Addr), DE (X.blk s H scope (compEnvC scope cl C X.env) fp) W0 vx φ) (hs : ∀ x, foldedSetIterable iter X.env x = pure x := by intro _; rfl) :
    DN X W (.DictComp kx vx [⟨tg, iter, ifs, 0⟩] scope pos) (xDc ι (own.map (·.2)) γ τ κ φ) :=
  pe_imp (pe_dc (g := tDG X.K is γ) (tt := tDT X.K W0 τ) (tk := tDE X.K W0 κ) (tv := tDE X.K W0 φ) C.calm C.nd hi ok hg ht hk he hs) fun σ H Q h => dcD_sound hv h
end
end DL


/-! D layer, 18: k in dict, dict[k], keys ints or texts. -/
namespace DL
open PySem PySem.Spec L2 PyProof.Rows
def atD (es : List (D × D)) (k : Key) : Option D := (es.find? fun e => keqD k e.1).map (·.2)
theorem drKv_val {K : PySem.W.Frag} {F : Hp} {k : Key} : ∀ {kvs : List (Key × V)} {es : List (D × D)}, DrKv K F kvs es → (valV kvs k).isSome = (atD es k).isSome
  | _, _, .nil => rfl
  | _, _, .cons (k := k') a t => by
    by_cases e : k' = k
    · rw [valV_pos (p := (k', _)) e]
      unfold atD
      rw [List.find?_cons_of_pos (by rw [keqD_key]; exact decide_eq_true e)]
      rfl
    · rw [valV_neg (p := (k', _)) e, drKv_val t]
      unfold atD
      rw [List.find?_cons_of_neg (by rw [keqD_key]; simpa using e)]
theorem drKv_at {K : PySem.W.Frag} {F : Hp} {k : Key} {d : D} : ∀ {kvs : List (Key × V)} {es : List (D × D)}, DrKv K F kvs es → atD es k = some d → ∃ v, valV kvs k = some v ∧ Dr K F v d
  | _, _, .nil, h => nomatch h
  | _, _, .cons (k := k') a t, h => by
    unfold atD at h
    by_cases e : k' = k
    · rw [List.find?_cons_of_pos (by rw [keqD_key]; exact decide_eq_true e)] at h
      cases h
      exact ⟨_, valV_pos (p := (k', _)) e, a⟩
    · rw [List.find?_cons_of_neg (by rw [keqD_key]; simpa using e)] at h
      rw [valV_neg (p := (k', _)) e]
      exact drKv_at t h
theorem Sim.dict {K : PySem.W.Frag} {B : Base} {F : Hp} {ρ : Env} {σ : L2.St} {H : Hp} (S : Sim K B F ρ σ H) {r : Rv} {v : V} {es : List (D × D)} (q : RvOk K F σ r v) (e : DL.look ρ r = some (.dict es)) : ∃ p kvs, v = .ref p ∧ Rd H p (.dK kvs) ∧ DrKv K F kvs es := by
  cases r with
  | dat d' =>
    have e' : d' = .dict es := Option.some.inj e
    subst e'
    cases q with
    | dic a b => exact ⟨_, _, rfl, rd_mono S.f a, b⟩
  | slot i =>
    have q' : σ[i]? = some (some v) := q
    unfold DL.look at e
    simp only at e
    cases h : ρ[i]? with
    | none => rw [h] at e; cases e
    | some c =>
      rw [h] at e
      cases c with
      | none => cases e
      | some c =>
        cases c with
        | dat d' =>
          have e' : d' = .dict es := Option.some.inj e
          subst e'
          obtain ⟨w, h1, h2⟩ := S.dat i _ h
          rw [q'] at h1
          cases h1
          cases h2 with
          | dic a b => exact ⟨_, _, rfl, rd_mono S.f a, b⟩
        | own ow d' =>
          have e' : d' = .dict es := Option.some.inj e
          subst e'
          obtain ⟨p, c, h1, h2, h3, _⟩ := S.mu i ow _ h
          rw [q'] at h1
          cases h1
          cases c with
          | dK kvs => exact ⟨p, kvs, rfl, Rd.of h2, h3⟩
          | _ => exact h3.elim
/-! ### k in d -/
def gInK (neg : Bool) (a : D) : D → Option D
  | .dict es => (gKey a).map fun k => .bool (if neg = true then !(atD es k).isSome else (atD es k).isSome)
  | _ => none
def rInK : R2 := fun x y H Q => ∃ a o, y = .ref a ∧ DGet H a x o ∧ Q (.bl o.isSome) H
def rNotInK : R2 := fun x y H Q => ∃ a o, y = .ref a ∧ DGet H a x o ∧ Q (.bl (!o.isSome)) H
section
variable {X : Cx} {W : WX} {K : PySem.W.Frag}
theorem op_inK (hu : X.A.units + 1 < cLine) : OpR X (compareOp .In) rInK := by
  intro pins s σ H x y v u Q I rx ry h
  obtain ⟨a, o, rfl, g, q⟩ := h
  obtain rfl : u = Value.ref a := ry
  exact d_in hu I g rx fun s' I' => ⟨.bl _, H, I', rfl, q⟩
theorem op_notInK (hu : X.A.units + 1 < cLine) : OpR X (compareOp .NotIn) rNotInK := by
  intro pins s σ H x y v u Q I rx ry h
  obtain ⟨a, o, rfl, g, q⟩ := h
  obtain rfl : u = Value.ref a := ry
  exact d_notIn hu I g rx fun s' I' => ⟨.bl _, H, I', rfl, q⟩
theorem s2_inK : S2 K rInK (gInK false) := by
  intro B F ρ σ H x y a b da db dz Q S ra rb ea eb e q
  cases db <;> simp only [gInK, reduceCtorEq, Bool.false_eq_true, if_false] at e
  obtain ⟨k, e1, e2⟩ := Option.map_eq_some_iff.mp e
  subst e2
  have hx := key_of (S.look ra ea) e1
  cases S.look rb eb with
  | dic r t => exact ⟨_, _, rfl, .inl ⟨_, k, r, hx, rfl⟩, by rw [drKv_val t]; exact q F _ H (Same.refl F) S (.bl _)⟩
theorem s2_notInK : S2 K rNotInK (gInK true) := by
  intro B F ρ σ H x y a b da db dz Q S ra rb ea eb e q
  cases db <;> simp only [gInK, reduceCtorEq, if_true] at e
  obtain ⟨k, e1, e2⟩ := Option.map_eq_some_iff.mp e
  subst e2
  have hx := key_of (S.look ra ea) e1
  cases S.look rb eb with
  | dic r t => exact ⟨_, _, rfl, .inl ⟨_, k, r, hx, rfl⟩, by rw [drKv_val t]; exact q F _ H (Same.refl F) S (.bl _)⟩
/-- any of these -/
def gInC (neg : Bool) (a b : D) : Option D := (gInA neg a b).or (gInK neg a b)
def rInC (K : PySem.W.Frag) : R2 := fun x y H Q => rInB K x y H Q ∨ rInK x y H Q
def rNotInC (K : PySem.W.Frag) : R2 := fun x y H Q => rNotInB K x y H Q ∨ rNotInK x y H Q
theorem op_inC {k : Nat} (r : Room k X.A) : OpR X (compareOp .In) (rInC X.K) := OpR.or (op_inB r) (op_inK (by have := r.un; omega))
theorem op_notInC {k : Nat} (r : Room k X.A) : OpR X (compareOp .NotIn) (rNotInC X.K) := OpR.or (op_notInB r) (op_notInK (by have := r.un; omega))
theorem s2_inC : S2 K (rInC K) (gInC false) := S2.or s2_inB s2_inK
theorem s2_notInC : S2 K (rNotInC K) (gInC true) := S2.or s2_notInB s2_notInK
/-! ### d[k] -/
def gIxK : D → D → Option D
  | .dict es, a => (gKey a).bind fun k => atD es k
  | _, _ => none
def rIxK : R2 := fun x y H Q => ∃ a v, x = .ref a ∧ DGet H a y (some v) ∧ Q v H
theorem ix_dict (hu : X.A.units + 1 < cLine) : IxR X rIxK := by
  intro value slice pins s σ H x y v u Q I rx ry h hs
  obtain ⟨a, z, rfl, g, q⟩ := h
  obtain rfl : v = Value.ref a := rx
  have fin : wpAny (model X.prog X.w) X.A (getItem (.ref a) u) (EP X pins σ Q) X.xe s := d_getItem hu I g ry fun w' s' I' rw' => ⟨z, H, I', rw', q⟩
  have hT := dict_typeIs I g
  unfold subscriptTail
  refine wpAny_bind ?_
  rw [getitemInPython_of_ne hT.not_modules]
  refine wpAny_bind (wpAny_specialOf hT PySem.F.slot_dict_getitem.lookup ?_)
  have fin2 : wpAny (model X.prog X.w) X.A (subscripted slice false (.ref a) u) (fun r s₃ => wpAny (model X.prog X.w) X.A (letTemporaryGo value (.ref a) r >>= fun _ => pure r) (EP X pins σ Q) X.xe s₃) X.xe s := by
    rw [hs]
    exact wpAny_operating (wpAny_mono fin (fun r s₃ h₃ => wpAny_bind (wpAny_letTemporaryGo (wpAny_pure h₃))) fun _ _ x => x)
  first
    | exact wpAny_pure (wpAny_bind fin2)
    | exact wpAny_bind (wpAny_pure (wpAny_bind fin2))
    | exact wpAny_bind fin2
theorem s2_ixK : S2 K rIxK gIxK := by
  intro B F ρ σ H x y a b da db dz Q S ra rb ea eb e q
  cases da <;> simp only [gIxK, reduceCtorEq] at e
  obtain ⟨k, e1, e2⟩ := Option.bind_eq_some_iff.mp e
  have hy := key_of (S.look rb eb) e1
  obtain ⟨p, kvs, rfl, r, t⟩ := S.dict ra ea
  obtain ⟨v, h1, h2⟩ := drKv_at t e2
  exact ⟨p, v, rfl, .inl ⟨kvs, k, r, hy, h1.symm⟩, q F v H (Same.refl F) S h2⟩
end
end DL


/-! D layer, 19: list(range(..)). -/
namespace DL
open PySem PySem.Spec L2 PyProof.Rows
theorem drAll_map {K : PySem.W.Frag} {F : Hp} {α : Type} {f : α → V} {g : α → D} (h : ∀ a, Dr K F (f a) (g a)) : ∀ l : List α, DrAll K F (l.map f) (l.map g)
  | [] => .nil
  | a :: l => .cons (h a) (drAll_map h l)
def gRgn1 : D → Option (List D)
  | .int j => if -(2 ^ 62) ≤ j ∧ j ≤ 16777216 then some (rangeL 0 j.toNat) else none
  | _ => none
def gRgn2 : D → D → Option (List D)
  | .int i, .int j => if -(2 ^ 62) ≤ i ∧ i < 2 ^ 62 ∧ -(2 ^ 62) ≤ j ∧ j < 2 ^ 62 ∧ j - i ≤ 16777216 then some (rangeL i (j - i).toNat) else none
  | _, _ => none
def xLRg1 (φ : Den Rv) : Den D := fun ρ => (φ ρ).bind fun r ρ1 => (ofO ((look ρ1 r).bind gRgn1) ρ1).bind fun ds ρ2 => .ok (.list ds) ρ2
@[simp] theorem ev_lrg1 (φ : Den Rv) (ρ : Env) : xLRg1 φ ρ = (φ ρ).bind fun r ρ1 => (ofO ((look ρ1 r).bind gRgn1) ρ1).bind fun ds ρ2 => .ok (.list ds) ρ2 := (rfl)
theorem dr_rg {K : PySem.W.Frag} {F : Hp} (a b : Int) : DrAll K F (rgV a b) (rangeL a (b - a).toNat) := by
  unfold rgV rangeL
  exact drAll_map (fun i => .int _) _
section
variable {X : Cx} {W : WX} {e : Expr} {p p2 pos pos2 : Pos} {φ ψ : Den Rv}
theorem dn_listRg1 (hc : X.calm = true) (hg : Gl X "list") (hm : X.mg "list" = none) (hgr : Gl X "range") (hmr : X.mg "range" = none) (he : DE X W e φ) (na : starEach [e] X.env = (false, eval e X.env) :: starEach [] X.env := by rfl)
    (na2 : starEach [Expr.Call (.Name "range" p2) [e] [] pos2] X.env = (false, eval (.Call (.Name "range" p2) [e] [] pos2) X.env) :: starEach [] X.env := by rfl) : DN X W (.Call (.Name "list" p) [.Call (.Name "range" p2) [e] [] pos2] [] pos) (xLRg1 φ) := by
  refine pe_imp (pe_listRg hc hg hm (prg_1 hgr hmr he na) na2) fun σ H Q hq => ?_
  obtain ⟨B, F, ρ, S, w⟩ := hq
  refine ⟨B, F, ρ, S, wp_mono (wp_bind w) (fun r ρ1 w1 F1 v H1 s1 S1 q1 => ?_) fun _ _ z => z⟩
  obtain ⟨ds, e1, w2⟩ := wp_ofO (wp_bind w1)
  obtain ⟨d, e2, e3⟩ := Option.bind_eq_some_iff.mp e1
  cases d <;> simp only [gRgn1, reduceCtorEq] at e3
  rename_i j
  obtain ⟨hz, e4⟩ := if_some e3
  subst e4
  refine ⟨j, S1.int q1 e2, ⟨by omega, by omega, hz.1, by omega, by omega⟩, fun q n => ?_⟩
  have r := dr_rg (K := X.K) (F := F1) 0 j
  rw [Int.sub_zero] at r
  obtain ⟨S', N⟩ := S1.newL n r
  exact w2 F1 q _ s1 S' N
end
end DL


/-! D layer, 20: xs[::-1], a list or a tuple. -/
namespace DL
open PySem PySem.Spec L2 PyProof.Rows HT
section
variable {prog : Program} {w : World} {A : Around} {E : Value → Shared → Prop} {s : Shared}
theorem places_rev (n : Nat) : Builtin.Slice.slicePlaces ((n : Int) - 1) (-1) (-1) = n := by
  unfold Builtin.Slice.slicePlaces
  have h1 : ¬ ((-1 : Int) > 0) := by omega
  simp only [h1, if_false]
  by_cases h : (n : Int) - 1 > -1
  · rw [if_pos h]
    have e : -(-1 : Int) = 1 := rfl
    rw [e, Int.ediv_one]
    omega
  · rw [if_neg h]
    omega
theorem adjust_rev (n : Nat) : Builtin.Slice.sliceAdjust none none (-1) (n : Int) = ((n : Int) - 1, -1) := by
  unfold Builtin.Slice.sliceAdjust
  have h1 : ((-1 : Int) < 0) := by omega
  simp only [h1, if_true]
theorem pick_rev (xs : Array Value) : ((List.range xs.size).filterMap fun (m : Nat) => xs[(((xs.size : Nat) : Int) - 1 + (m : Int) * (-1)).toNat]?).toArray = xs.toList.reverse.toArray := by
  have e : (fun (m : Nat) => xs[(((xs.size : Nat) : Int) - 1 + (m : Int) * (-1)).toNat]?) = (fun k => xs[k]?) ∘ fun m => xs.size - 1 - m := by
    funext m
    have : (((xs.size : Nat) : Int) - 1 + (m : Int) * (-1)).toNat = xs.size - 1 - m := by omega
    rw [this]
    rfl
  rw [e, ← List.filterMap_map, PySem.W.krv_range, List.filterMap_reverse, PySem.W.krv_all]
/-- a slice object's step −1, its bounds left out, applied to n items -/
theorem applied_rev {sl : Addr} {a b c : Value} {n : Nat} {Q : Int × Int × Nat → Shared → Prop} (hs : s.heap.IsSliceOf sl a b c) (ha : IsPart a none) (hb : IsPart b none) (hc : IsPart c (some (-1)))
    (h : Q ((n : Int) - 1, -1, n) s) : wpAny (model prog w) A (Builtin.Slice.sliceApplied (.ref sl) (pure (n : Int))) Q E s := by
  obtain ⟨o, e1, _, e2⟩ := hs
  have three : ∀ {R : Value × Value × Value → Shared → Prop}, R (a, b, c) s → wpAny (model prog w) A (Builtin.Slice.sliceFields (.ref sl)) R E s := fun r =>
    wpAny_bind (wpAny_field e1 e2 (x := a) rfl (wpAny_bind (wpAny_field e1 e2 (x := b) rfl (wpAny_bind (wpAny_field e1 e2 (x := c) rfl (wpAny_pure r))))))
  have last : wpAny (model prog w) A (pure ((Builtin.Slice.sliceAdjust none none (-1) (n : Int)).1, (-1 : Int), Builtin.Slice.slicePlaces (Builtin.Slice.sliceAdjust none none (-1) (n : Int)).1 (Builtin.Slice.sliceAdjust none none (-1) (n : Int)).2 (-1))) Q E s := by
    rw [adjust_rev]
    exact wpAny_pure (by rw [places_rev]; exact h)
  exact wpAny_bind (three (wpAny_bind (slicePart_ hc (wpAny_bind (slicePart_ ha (wpAny_bind (slicePart_ hb (wpAny_bind (wpAny_pure last)))))))))
/-- the slot of a tuple under such a slice -/
theorem slot_rev {t sl : Addr} {items : Array Value} {a b c : Value} {Q : PySem.Fin → Shared → Prop} (ht : IsTup s.heap t items) (hs : s.heap.IsSliceOf sl a b c) (ha : IsPart a none) (hb : IsPart b none) (hc : IsPart c (some (-1))) (hz : items.size ≤ sizeLine)
    (h : Q (.done (.ret (.ref s.heap.objs.size))) { s with heap := s.heap.push { cls := .type "tuple", data := .seq items.toList.reverse.toArray } }) : wpAny (model prog w) A (Builtin.«tuple.__getitem__» ⟨[.ref t, .ref sl], []⟩) Q E s := by
  have isl : s.TypeIs (.ref sl) "slice" := hs.elim fun o h => ⟨o, h.1, h.2.1⟩
  have room : sizeOk (.seq items.toList.reverse.toArray) := by
    show items.toList.reverse.toArray.size ≤ sizeLine
    simpa using hz
  have other : ((((items.size : Nat) : Int) - 1 == 0) && ((-1 : Int) == 1) && (items.size == items.size)) = false := by
    have e : ((-1 : Int) == 1) = false := rfl
    rw [e, Bool.and_false, Bool.false_and]
  show wpAny _ _ (Builtin.Tuple.tupleItemsOf (.ref t) >>= _) _ _ s
  refine wpAny_bind (tupleItemsOf_ ht (wpAny_bind (wpAny_typeOf isl ?_)))
  rw [if_pos (show (Value.type "slice" == Value.type "slice") = true by decide)]
  refine wpAny_bind (applied_rev hs ha hb hc ?_)
  show wpAny _ _ (if ((((items.size : Nat) : Int) - 1 == 0) && ((-1 : Int) == 1) && (items.size == items.size)) = true then _ else _) _ _ s
  rw [other, if_neg Bool.false_ne_true, pick_rev]
  exact wpAny_bind (m := Builtin.Tuple.tupleExact _) (wpAny_newObj_type (wpAny_pure h) room)
theorem get_rev {t sl : Addr} {items : Array Value} {a b c : Value} {Q : Value → Shared → Prop} (ht : IsTup s.heap t items) (hs : s.heap.IsSliceOf sl a b c) (ha : IsPart a none) (hb : IsPart b none) (hc : IsPart c (some (-1))) (hz : items.size ≤ sizeLine)
    (h : Q (.ref s.heap.objs.size) { s with heap := s.heap.push { cls := .type "tuple", data := .seq items.toList.reverse.toArray } }) : wpAny (model prog w) A (getItem (.ref t) (.ref sl)) Q E s := by
  unfold getItem
  refine wpAny_holding (wpAny_bind (wpAny_sequenceKey ht.typeIs (by decide) ?_))
  refine wpAny_bind (wpAny_callSpecial?_slot (name := Str.ofString "__getitem__") ht.typeIs PyProof.Rows.slot_tuple_getitem ?_)
  exact wpAny_call_entry PyProof.Rows.slot_tuple_getitem ht.typeIs entry_tuple_getitem (slot_rev ht hs ha hb hc hz ⟨_, rfl, wpAny_pure h⟩) (args_tuple_getitem _ _)
end
section
variable {X : Cx} {W : WX}
def tRevT (K : PySem.W.Frag) (te : TE) : TE := fun σ H Q => te σ H fun x H1 => ∃ a xs, x = .ref a ∧ SqT K H1 a xs ∧ ∀ p, H1 p = none → Q (.ref p) (upd H1 p (.tup xs.reverse))
def at_none {H : Hp} : (fun (o : Option Int) (H' : Hp) => o = none ∧ H' = H) none H := ⟨rfl, rfl⟩
theorem pe_revT {e : Expr} {te : TE} {k : Nat} {p1 p2 p3 pos : Pos} (he : PE X e te) : PE X (.Subscript e (.Slice none none (some (.UnaryOp .USub (.Constant (.int 1) k p1) p2)) p3) pos) (tRevT X.K te) := by
  have step : PO X (some (.UnaryOp .USub (.Constant (.int 1) k p1) p2)) (tPart (tUn (rU fun i => .int (-i)) (tC (.int 1)))) := po_some (pe_un un_neg pe_int)
  refine ⟨fun pins s σ H Q I h => Subscript_ (thn (he.run pins s σ H _ I h) fun v s1 ⟨x, H1, I1, r1, t, xs, ex, hx, q⟩ => ?_)⟩
  subst ex
  cases r1
  refine wpAny_Slice (thn (po_none.run pins s1 σ H1 (fun o G => o = none ∧ G = H1) I1 at_none) fun va s2 z => ?_)
  obtain ⟨_, _, I2, pa, rfl, rfl⟩ := z
  refine thn (po_none.run pins s2 σ _ (fun o G => o = none ∧ G = _) I2 at_none) fun vb s3 z => ?_
  obtain ⟨_, _, I3, pb, rfl, rfl⟩ := z
  refine thn (step.run pins s3 σ _ (fun o G => o = some (-1) ∧ G = _) I3 ⟨1, rfl, -1, rfl, rfl, rfl⟩) fun vc s4 z => ?_
  obtain ⟨_, _, I4, pc, rfl, rfl⟩ := z
  have I5 := I4.kept (h' := s4.heap.push { cls := .type "slice", data := .fields #[va, vb, vc] }) (t' := s4.toks) fun b ob q => Heap.get?_push_of_some _ q
  obtain ⟨its, r, ht, hz⟩ := I5.tuple hx
  have len := r.length
  refine tail_any (ops := [.ref t, .ref s4.heap.objs.size]) ht.typeIs PyProof.Rows.slot_tuple_getitem.lookup (get_rev ht (Heap.IsSliceOf.new _ va vb vc) pa pb pc (by rw [List.size_toArray]; omega) ?_) (by with_unfolding_all rfl)
  exact ⟨.ref _, _, I5.laid (t' := s4.toks) (o := .tup xs.reverse) (fun b ob q => Heap.get?_push_of_some _ q) (Nat.le_refl _) ⟨by rw [List.length_reverse]; exact hz, _, r.reverse, IsTup.new _ _⟩, rfl, q _ (I5.hok.fresh (Nat.le_refl _))⟩
def gRev : D → Option D
  | .list ds => some (.list ds.reverse)
  | .tuple ds => some (.tuple ds.reverse)
  | _ => none
def xRev (φ : Den Rv) : Den Rv := fun ρ => (φ ρ).bind fun r ρ1 => (ofO ((look ρ1 r).bind gRev) ρ1).bind fun d ρ2 => .ok (.dat d) ρ2
@[simp] theorem ev_rev (φ : Den Rv) (ρ : Env) : xRev φ ρ = (φ ρ).bind fun r ρ1 => (ofO ((look ρ1 r).bind gRev) ρ1).bind fun d ρ2 => .ok (.dat d) ρ2 := (rfl)
theorem drAll_rev {K : PySem.W.Frag} {F : Hp} {vs : List V} {ds : List D} (r : DrAll K F vs ds) : DrAll K F vs.reverse ds.reverse := by
  induction vs generalizing ds with
  | nil => cases r; exact .nil
  | cons v vs ih =>
    cases r with
    | cons a t =>
      rw [List.reverse_cons, List.reverse_cons]
      exact (ih t).append (.cons a .nil)
theorem de_rev {e : Expr} {φ : Den Rv} {k : Nat} {p1 p2 p3 pos : Pos} (he : DE X W e φ) : DE X W (.Subscript e (.Slice none none (some (.UnaryOp .USub (.Constant (.int 1) k p1) p2)) p3) pos) (xRev φ) := by
  refine ⟨fun pins s σ H Q I hq => ?_⟩
  obtain ⟨B, F, ρ, S, w⟩ := hq
  have w0 := wp_bind w
  cases e1 : φ ρ with
  | bad => rw [e1] at w0; exact w0.elim
  | exc x ρ1 =>
    rw [e1] at w0
    exact (pe_revT he).run pins s σ H Q I ⟨B, F, ρ, S, by rw [e1]; exact w0⟩
  | ok r ρ1 =>
    rw [e1] at w0
    obtain ⟨dz, e2, w2⟩ := wp_ofO (wp_bind w0)
    obtain ⟨d, e3, e4⟩ := Option.bind_eq_some_iff.mp e2
    cases d <;> simp only [gRev, reduceCtorEq, Option.some.injEq] at e4
    · subst e4
      refine (pe_revL he).run pins s σ H Q I ⟨B, F, ρ, S, ?_⟩
      rw [e1]
      intro F1 v H1 s1 S1 q1
      obtain ⟨p, vs, rfl, h1, h2⟩ := S1.items q1 e3
      exact ⟨p, vs, rfl, h1, fun p' n => S1.newLst n (drAll_rev h2) rfl fun F5 v H5 s5 S5 q5 => w2 F5 v H5 (s1.trans s5) S5 q5⟩
    · subst e4
      refine (pe_revT he).run pins s σ H Q I ⟨B, F, ρ, S, ?_⟩
      rw [e1]
      intro F1 v H1 s1 S1 q1
      obtain ⟨p, vs, rfl, h1, h2⟩ := S1.tuple q1 e3
      exact ⟨p, vs, rfl, sqT_mono S1.f h1, fun p' n => S1.newTup n (drAll_rev h2) rfl fun F5 v H5 s5 S5 q5 => w2 F5 v H5 (s1.trans s5) S5 q5⟩
end
end DL


/-! D layer, 21: {}, name = {k: v for ..} on one line. -/
namespace DL
open PySem PySem.Spec L2 PyProof.Rows
section
variable {X : Cx} {W : WX} {pos : Pos}
def xDct0 : Den D := fun ρ => .ok (.dict []) ρ
@[simp] theorem ev_dct0 (ρ : Env) : xDct0 ρ = .ok (.dict []) ρ := (rfl)
theorem dn_dict0 : DN X W (.Dict [] [] pos) xDct0 := by
  refine pe_imp pe_dnewK fun σ H Q hq => ?_
  obtain ⟨B, F, ρ, S, w⟩ := hq
  intro p n
  obtain ⟨g0, f0, h0⟩ := S.free n
  exact w F p _ (Same.refl F) (S.fresh n) ⟨⟨_, upd_same, .nil⟩, f0, g0, h0, S.noslot n⟩
theorem ps_setDc {i : Nat} {y : Str} {py : Pos} {kx vx tg iter : Expr} {ifs : List Expr} {scope : Scope} {own : List (Str × Nat)} {pos spos : Pos} {wi : TI} {g : TG} {tt : TT} {tk tv : TE} (hc : X.calm = true) (hN : X.N.Nodup) (hy : X.N[i]? = some y) (hyl : X.env.scope.names.lookup y = some .local)
    (hsw : swapsWith (.DictComp kx vx [⟨tg, iter, ifs, 0⟩] scope pos) (some (.Name y py)) spos.line X.env = pure true) (hi : PI X tg iter wi) (ok : BlkOk X.N X.env.scope scope own)
    (hg : ∀ (s : Shared) (H : Hp) (C : Addr) (cl : List (Str × Addr)) (fp : List Addr), PG (X.blk s H scope (compEnvC scope cl C X.env) fp) tg g) (ht : ∀ (s : Shared) (H : Hp) (C : Addr) (cl : List (Str × Addr)) (fp : List Addr), PTs (X.blk s H scope (compEnvC scope cl C X.env) fp) ifs tt)
    (hk : ∀ (s : Shared) (H : Hp) (C : Addr) (cl : List (Str × Addr)) (fp : List Addr), PE (X.blk s H scope (compEnvC scope cl C X.env) fp) kx tk)
    (he : ∀ (s : Shared) (H : Hp) (C : Addr) (cl : List (Str × Addr)) (fp : List Addr), PE (X.blk s H scope (compEnvC scope cl C X.env) fp) vx tv) (hs : ∀ x, foldedSetIterable iter X.env x = pure x := by intro _; rfl) :
    PS X (.Assign [.Name y py] (.DictComp kx vx [⟨tg, iter, ifs, 0⟩] scope pos) spos) (tAsg (tDc wi g tt tk tv (own.map (·.2))) (gName i)) := by
  refine ⟨fun pins s σ H D I h => ?_⟩
  have q0 : tDc wi g tt tk tv (own.map (·.2)) σ H (fun x H1 => gName i x σ H1 D.nx) := h
  rw [exec_Assign_Name_used _ _ _ _ hsw]
  have core := dc_core (pos := pos) (Qf := fun _ s' => SP X pins D .next s') (use := some (assign (.Name y py) X.env)) (pos' := firstIterPos [⟨tg, iter, ifs, 0⟩] pos) hc hN I hi ok hg ht hk he hs q0 fun N C s' m H' I' q hn f => by
    show wpAny _ _ (assign (.Name y py) X.env (.ref N)) _ _ _
    refine wpAny_assign_Name (store_ok2 (v := V.ref N) I' hN hy (.inl hyl) rfl (fun s2 I2 z => ?_) (.inr hyl))
    obtain ⟨a, sb, ha⟩ := z
    obtain ⟨f0, f1, f2, f3, f4, f5⟩ := f
    have far : C ≠ a := fun e => ha.elim (fun z => f1 (e.trans z)) fun z => f4 y a z e.symm
    exact ⟨m, hn.sameBut sb far, fun h3 sb3 => ⟨_, H', I2.turned (t' := s2.toks) (fun b o hb e => (sb3.2 b hb).trans e) f0 f1 f3 f4 f5, q⟩⟩
  exact wpAny_bind (wpAny_standAt (wpAny_bind (wpAny_bind (thn core fun _ s' hq => wpAny_pure (wpAny_pure hq)))))
theorem ds_setDcD {k : Nat} (C : Cok X W k) {i : Nat} {y : Str} {py : Pos} {kx vx tg iter : Expr} {ifs : List Expr} {scope : Scope} {own : List (Str × Nat)} {pos spos : Pos} {ι : Den (List D)} {is : List Nat} {γ : DenG} {τ : Den Bool} {κ φ : Den Rv} (hi : DI X W tg iter ι) (ok : BlkOk X.N X.env.scope scope own) (hv : ∀ i ∈ is, i ∈ own.map (·.2))
    (hg : ∀ (s : Shared) (H : Hp) (C : Addr) (cl : List (Str × Addr)) (fp : List Addr), DG (X.blk s H scope (compEnvC scope cl C X.env) fp) tg is γ) (ht : ∀ (s : Shared) (H : Hp) (C : Addr) (cl : List (Str × Addr)) (fp : List Addr), DTs (X.blk s H scope (compEnvC scope cl C X.env) fp) ifs τ)
    (hk : ∀ (s : Shared) (H : Hp) (C : Addr) (cl : List (Str × Addr)) (fp : List Addr), DE (X.blk s H scope (compEnvC scope cl C X.env) fp) W0 kx κ)
    (he : ∀ (s : Shared) (H : Hp) (C : Addr) (cl : List (Str × Addr)) (fp : List Addr), DE (X.blk s H scope (compEnvC scope cl C X.env) fp) W0 vx φ) (hy : X.N[i]? = some y := by rfl) (hyl : X.env.scope.names.lookup y = some .local := by rfl)
    (hsw : swapsWith (.DictComp kx vx [⟨tg, iter, ifs, 0⟩] scope pos) (some (.Name y py)) spos.line X.env = pure true := by kernel_rfl) (hs : ∀ x, foldedSetIterable iter X.env x = pure x := by intro _; rfl) :
    DS X W (.Assign [.Name y py] (.DictComp kx vx [⟨tg, iter, ifs, 0⟩] scope pos) spos) (ySet (gSet i) (xNew (xDc ι (own.map (·.2)) γ τ κ φ))) := by
  refine ps_imp (ps_setDc (i := i) (g := tDG X.K is γ) (tt := tDT X.K W0 τ) (tk := tDE X.K W0 κ) (tv := tDE X.K W0 φ) C.calm C.nd hy hyl hsw hi ok hg ht hk he hs) fun D σ H hq => ?_
  obtain ⟨B, F, ρ, S, w⟩ := hq
  refine dcD_sound (W := W) hv ⟨B, F, ρ, S, wp_mono (wp_bind (spost_bind w)) (fun d ρ1 w1 F1 p H1 s1 S1 q1 => ?_) fun _ _ z => z⟩
  obtain ⟨c, h1, h2⟩ := q1.ct
  have so : Same F1 (upd F1 p c) := same_upd q1.f0
  have S2 := S1.frozen h1 q1.f0 q1.h0 q1.ns
  have w1 : SPost X.K W B F D (match gSet i d ρ1 with | some ρ3 => .next ρ3 | none => .bad) := w1
  cases e3 : gSet i d ρ1 with
  | none => rw [e3] at w1; exact w1.elim
  | some ρ3 =>
    rw [e3] at w1
    obtain ⟨hc, e4⟩ := if_some e3
    subst e4
    exact w1 (upd F1 p c) _ H1 (s1.trans so) (S2.setDat (canSet_lt hc) (h2.dr so upd_same))
end
end DL


/-! D layer, 22: sorted(set(ints)). -/
namespace DL
open PySem PySem.Spec L2 PyProof.Rows
/-! ### each number once, in order -/
def insU (x : Int) : List Int → List Int
  | [] => [x]
  | y :: r => if x < y then x :: y :: r else if x = y then y :: r else y :: insU x r
def sortU (ns : List Int) : List Int := ns.foldr insU []
theorem mem_insU {x k : Int} : ∀ {l : List Int}, k ∈ insU x l ↔ k = x ∨ k ∈ l
  | [] => by simp [insU]
  | y :: r => by
    unfold insU
    by_cases h : x < y
    · rw [if_pos h, List.mem_cons]
    · rw [if_neg h]
      by_cases e : x = y
      · rw [if_pos e, e]
        simp
      · rw [if_neg e, List.mem_cons, mem_insU, List.mem_cons]
        constructor
        · rintro (a | a | a)
          · exact .inr (.inl a)
          · exact .inl a
          · exact .inr (.inr a)
        · rintro (a | a | a)
          · exact .inr (.inl a)
          · exact .inl a
          · exact .inr (.inr a)
theorem insU_ord {x : Int} : ∀ {l : List Int}, l.Pairwise (· < ·) → (insU x l).Pairwise (· < ·)
  | [], _ => List.pairwise_singleton _ _
  | y :: r, h => by
    obtain ⟨h1, h2⟩ := List.pairwise_cons.mp h
    unfold insU
    by_cases q : x < y
    · rw [if_pos q]
      refine List.pairwise_cons.mpr ⟨fun z hz => ?_, h⟩
      rcases List.mem_cons.mp hz with e | e
      · rw [e]; exact q
      · exact Int.lt_trans q (h1 z e)
    · rw [if_neg q]
      by_cases e : x = y
      · rw [if_pos e]; exact h
      · rw [if_neg e]
        refine List.pairwise_cons.mpr ⟨fun z hz => ?_, insU_ord h2⟩
        rcases mem_insU.mp hz with a | a
        · rw [a]; omega
        · exact h1 z a
theorem mem_sortU {k : Int} : ∀ {ns : List Int}, k ∈ sortU ns ↔ k ∈ ns
  | [] => Iff.rfl
  | n :: ns => by
    show k ∈ insU n (sortU ns) ↔ _
    rw [mem_insU, mem_sortU, List.mem_cons]
theorem sortU_ord : ∀ ns : List Int, (sortU ns).Pairwise (· < ·)
  | [] => .nil
  | n :: ns => insU_ord (sortU_ord ns)
theorem ord_eq : ∀ {a b : List Int}, a.Pairwise (· < ·) → b.Pairwise (· < ·) → (∀ k, k ∈ a ↔ k ∈ b) → a = b
  | [], [], _, _, _ => rfl
  | [], y :: b, _, _, h => absurd ((h y).mpr List.mem_cons_self) (List.not_mem_nil)
  | x :: a, [], _, _, h => absurd ((h x).mp List.mem_cons_self) (List.not_mem_nil)
  | x :: a, y :: b, ha, hb, h => by
    obtain ⟨a1, a2⟩ := List.pairwise_cons.mp ha
    obtain ⟨b1, b2⟩ := List.pairwise_cons.mp hb
    have e : x = y := by
      rcases List.mem_cons.mp ((h x).mp List.mem_cons_self) with e | e
      · exact e
      · rcases List.mem_cons.mp ((h y).mpr List.mem_cons_self) with e2 | e2
        · exact e2.symm
        · have := b1 x e; have := a1 y e2; omega
    subst e
    rw [ord_eq a2 b2 fun k => ?_]
    constructor
    · intro hk
      rcases List.mem_cons.mp ((h k).mp (List.mem_cons_of_mem _ hk)) with e | e
      · have := a1 k hk; omega
      · exact e
    · intro hk
      rcases List.mem_cons.mp ((h k).mpr (List.mem_cons_of_mem _ hk)) with e | e
      · have := b1 k hk; omega
      · exact e
/-! ### set(t), the ints of a tuple -/
section
variable {X : Cx} {W : WX}
def rSetTI (K : PySem.W.Frag) (w : World) : List V → Hp → VK → Prop := fun xs H Q => ∃ (l : Addr) (ns : List Int), xs = [V.ref l] ∧ SqT K H l (ns.map V.int) ∧ ns.length < 64 ∧
  ∀ a S n, H a = none → (∀ k, S k = true ↔ k ∈ ns) → n ≤ ns.length → Q (.ref a) (upd H a (SetO w a S n))
theorem cr_setTI (hc : X.calm = true) : CallR X (.type "set") (rSetTI X.K X.w) := by
  intro pins s σ H xs us Q I r h
  obtain ⟨l, ns, rfl, hl, hn, q⟩ := h
  rw [Vals.ref1 r]
  obtain ⟨its, rv, pt, hz⟩ := I.tuple hl
  refine call_set_tupI (P := X.prog) (w := X.w) ns (I.ok.hd hc) (show s.heap.IsTuple l its.toArray from pt) (ints_of_vals rv) (by unfold scanBound; omega) fun h' tk c R hcn k => ?_
  exact ⟨.ref s.heap.objs.size, _, I.laid (t' := tk) k (Nat.le_refl _) (setO_new R), rfl, q _ _ c (I.hok.fresh (Nat.le_refl _)) (fun k => by rw [decide_eq_true_eq]) hcn⟩
/-! ### sorted(set(t)) -/
def gSSet : D → Option D
  | .tuple ds => (intsD ds).bind fun ns => if ns.length < 64 then some (.list ((sortU ns).map .int)) else none
  | _ => none
def xSSet (φ : Den Rv) : Den D := fun ρ => (φ ρ).bind fun r ρ1 => ofO ((look ρ1 r).bind gSSet) ρ1
@[simp] theorem ev_sset (φ : Den Rv) (ρ : Env) : xSSet φ ρ = (φ ρ).bind fun r ρ1 => ofO ((look ρ1 r).bind gSSet) ρ1 := (rfl)
theorem dn_sset {e : Expr} {φ : Den Rv} {p p2 pos pos2 : Pos} (hc : X.calm = true) (hg : Gl X "sorted") (hm : X.mg "sorted" = none) (hg2 : Gl X "set") (hm2 : X.mg "set" = none) (hv : bootBuiltins "sorted" = some (.builtin "sorted")) (hv2 : bootBuiltins "set" = some (.type "set")) (he : DE X W e φ)
    (na : starEach [e] X.env = (false, eval e X.env) :: starEach [] X.env := by rfl) (np : (backTo pos2 (starEach [] X.env)).any (·.1) = false := by rfl)
    (na2 : starEach [Expr.Call (.Name "set" p2) [e] [] pos2] X.env = (false, eval (.Call (.Name "set" p2) [e] [] pos2) X.env) :: starEach [] X.env := by rfl) (np2 : (backTo pos (starEach [] X.env)).any (·.1) = false := by rfl) :
    DN X W (.Call (.Name "sorted" p) [.Call (.Name "set" p2) [e] [] pos2] [] pos) (xSSet φ) := by
  have inner := pe_callTy (p := p2) (pos := pos2) (cr_setTI hc) hg2 hm2 hv2 (pa_cons he pa_nil na) (by decide) (by decide) na np
  refine pe_imp (pe_callB (p := p) (pos := pos) (cr_sortedSet hc) hg hm hv (pa_cons inner pa_nil na2) (by decide) (by decide) na2 np2) fun σ H Q hq => ?_
  obtain ⟨B, F, ρ, S, w⟩ := hq
  refine ⟨B, F, ρ, S, wp_mono (wp_bind w) (fun r ρ1 w1 F1 v H1 s1 S1 q1 => ?_) fun _ _ z => z⟩
  obtain ⟨dz, e1, w2⟩ := wp_ofO w1
  obtain ⟨d, e2, e3⟩ := Option.bind_eq_some_iff.mp e1
  cases d <;> simp only [gSSet, reduceCtorEq] at e3
  obtain ⟨ns, e4, e5⟩ := Option.bind_eq_some_iff.mp e3
  obtain ⟨hz, e6⟩ := if_some e5
  subst e6
  obtain ⟨l, vs, rfl, h1, h2⟩ := S1.tuple q1 e2
  rw [intsD_eq e4] at h2
  cases h2.of_ints
  refine ⟨l, ns, rfl, sqT_mono S1.f h1, hz, fun a St n hn hS hl => ?_⟩
  refine ⟨a, St, n, rfl, upd_same, by omega, fun ms q hord hmem hlen hq => ?_⟩
  have em : ms = sortU ns := ord_eq hord (sortU_ord ns) fun k => by rw [hmem, hS, mem_sortU]
  subst em
  obtain ⟨S3, N⟩ := (S1.fresh (o := SetO X.w a St n) hn).newL hq (DrAll.ints (sortU ns))
  exact w2 F1 q _ s1 S3 N
end
end DL


/-! D layer, 23: set(list of ints), sorted(set(list or tuple of ints)). -/
namespace DL
open PySem PySem.Spec L2 PyProof.Rows
theorem b_bool : bootBuiltins "bool" = some (.type "bool") := by decide +kernel
section
variable {P : Program} {w : World} {A : Around} {E : Value → Shared → Prop} {s : Shared}
abbrev set0 (w : World) : Obj := { cls := .type "set", dict := none, data := .set #[] 0 (.fresh 0 0 (!w.params.followText "set-order")) }
/-- T(args): the new object by its code, then the initializer's code -/
theorem callType_code {T newId initId : String} {args : List Value} {Q Q1 : Value → Shared → Prop} (ft : TypeCalled T newId initId) (hct : checkTypeCall T ⟨args, []⟩ = pure ())
    (hnew : codeAny (model P w) A.in1 (.call (.builtin newId) ⟨.type T :: args, []⟩) (wants Q1 E) s)
    (hinit : ∀ obj s1, Q1 obj s1 → s1.TypeIs obj T ∧ codeAny (model P w) A.in1 (.call (.builtin initId) ⟨obj :: args, []⟩) (wants (fun r s2 => r = .none ∧ Q obj s2) E) s1) : wpAny (model P w) A (call (.type T) args) Q E s := by
  have ⟨c, tl, hmro⟩ := ft.mro
  have hmade := ft.made
  have hsub := ft.sub
  have h1 := ft.notType
  have h2 := ft.canCreate
  have plain := Around.under_plain (A := A) (weight_type_call_type T args []) rfl
  refine wpAny_call (codeAny_of_tree (show wpAny _ _ (callAny (.type T) _) _ _ _ from wpAny_pure ⟨Code.quiet_builtin _ (by decide +kernel), codeAny_builtin F.entry_type_call ?_⟩))
  rw [plain]
  clear plain
  repeat (any_goals (first | assumption | wp_step))
  refine codeAny_mono hnew fun r s1 hr => ?_
  rcases r with e | fl
  · exact hr
  cases fl with
  | ret obj =>
    have ⟨hT, hi⟩ := hinit obj s1 hr
    have hli := ft.init.lookup
    have hbi := ft.init.bind obj
    clear hinit hnew
    repeat (any_goals (first | assumption | wp_step))
    refine codeAny_mono hi fun r s2 hr => ?_
    rcases r with e | fl
    · exact hr
    cases fl with
    | ret v =>
      obtain ⟨rfl, hq⟩ := hr
      repeat (any_goals (first | assumption | wp_step))
    | _ => exact hr.elim
  | _ => exact hr.elim
theorem call_set_lstI {l : Addr} {items : Array Value} (ns : List Int) {Q : Value → Shared → Prop} (hh : A.handled = none) (hl : s.heap.IsList l items) (hi : IntsAre items.toList ns) (hb : ns.length + 1 < scanBound)
    (h : ∀ (h' : Heap) (tk c : Nat), SetR w h' s.heap.objs.size (fun j => decide (j ∈ ns)) c → c ≤ ns.length → (∀ b o, s.heap.get? b = some o → h'.get? b = some o) → Q (.ref s.heap.objs.size) { s with heap := h', toks := tk }) :
    wpAny (model P w) A (call (.type "set") [.ref l]) Q E s := by
  have many : items.size = ns.length := by rw [← IntsAre.length hi, Array.length_toList]
  refine callType_code (Q1 := fun obj s1 => obj = .ref s.heap.objs.size ∧ s1 = { s with heap := s.heap.push (set0 w) }) F.called_set (F.typeCall_set_1 _) (code_set_led1 (.ref l) ⟨rfl, rfl⟩) fun obj s1 z => ?_
  obtain ⟨rfl, rfl⟩ := z
  have at0 : (s.heap.push (set0 w)).get? s.heap.objs.size = some (set0 w) := Heap.get?_push_size _ rfl
  have hT : Shared.TypeIs { s with heap := s.heap.push (set0 w) } (.ref s.heap.objs.size) "set" := ⟨_, at0, rfl⟩
  have lo : l < s.heap.objs.size := let ⟨_, h, _⟩ := hl; Heap.lt_size h
  have lst : (s.heap.push (set0 w)).IsList l items := hl.push _
  have sz : (s.heap.push (set0 w)).objs.size = s.heap.objs.size + 1 := Heap.size_push ..
  refine ⟨hT, codeAny_call_builtin F.called_set.init.plain F.entry_set_init (check_set_init_1 hT ?_)⟩
  have ⟨⟨ocls, odict, odata, oslots⟩, hol, hcl, nl, hdl⟩ := lst
  simp only at hcl hdl
  subst hcl hdl
  have hsls := F.sub_list_set
  have hslf := F.sub_list_frozenset
  have hne : (Value.type "list" == Value.type "dict") = false := by decide
  unfold Builtin.«set.__init__» noKeywords Builtin.Frozenset.updateFrom
  generalize hPI : pyIter = PI
  wp_walk
  subst hPI
  refine wpAny_pyIter_list lst (wpAny_bind (wpAny_runValue ?_))
  have far : l ≠ (s.heap.push (set0 w)).objs.size := Nat.ne_of_lt (by rw [sz]; exact Nat.lt_succ_of_lt lo)
  have val : ∀ (i : Nat) (v : Value), items[i]? = some v → ∃ k t, ns[i]? = some k ∧ v = .int k t := fun i v hv => by
    have hlt : i < ns.length := by rw [← many]; exact (Array.getElem?_eq_some_iff.mp hv).1
    obtain ⟨t, e⟩ := PyProof.Rows.IntsAre.int_at hi i v (by rw [Array.getElem?_toList]; exact hv)
    exact ⟨ns[i], t, List.getElem?_eq_getElem hlt, by rw [e, List.getD_eq_getElem?_getD, List.getElem?_eq_getElem hlt]; rfl⟩
  refine set_update_ints ((Walks.list (by simp [hh]) _ l far items).toS) s.heap.objs.size (fun z => by
      rcases List.mem_cons.mp z with e | e
      · exact Nat.ne_of_lt (Nat.lt_succ_self _) (e.trans sz)
      · exact Nat.ne_of_gt lo (List.mem_singleton.mp e)) ns many hb val (items.size - 0) 0 _ (by omega) (Nat.zero_le _)
    ⟨⟨_, Heap.get?_push_size _ rfl, rfl, rfl⟩, lst.push _⟩ ⟨0, Nat.le_refl 0, setR_new_at (Heap.get?_push_of_some _ at0)⟩ fun s' c hm hc hS => ?_
  obtain ⟨h', g2, d', tk', os'⟩ := s'
  obtain rfl : g2 = s.gens := hm.gens
  obtain rfl : d' = s.drawn := hm.drawn
  obtain rfl : os' = s.os := hm.os
  refine wpAny_pure (wpAny_pure ⟨rfl, h h' tk' c hS (by omega) fun b o e => hm.heap b o (fun z => ?_) (Heap.get?_push_of_some _ (Heap.get?_push_of_some _ e))⟩)
  have := Heap.lt_size e
  rcases List.mem_cons.mp z with e | e
  · exact Nat.ne_of_lt this e
  · exact Nat.ne_of_lt (Nat.lt_succ_of_lt this) ((List.mem_singleton.mp e).trans sz)
end
section
variable {X : Cx} {W : WX}
def rSetLI (K : PySem.W.Frag) (w : World) : List V → Hp → VK → Prop := fun xs H Q => ∃ (l : Addr) (ns : List Int), xs = [V.ref l] ∧ SqL K H l (ns.map V.int) ∧ ns.length < 64 ∧
  ∀ a S n, H a = none → (∀ k, S k = true ↔ k ∈ ns) → n ≤ ns.length → Q (.ref a) (upd H a (SetO w a S n))
theorem cr_setLI (hc : X.calm = true) : CallR X (.type "set") (rSetLI X.K X.w) := by
  intro pins s σ H xs us Q I r h
  obtain ⟨l, ns, rfl, hl, hn, q⟩ := h
  rw [Vals.ref1 r]
  obtain ⟨its, rv, pl, hz⟩ := I.list hl
  refine call_set_lstI (P := X.prog) (w := X.w) ns (I.ok.hd hc) pl.isList (ints_of_vals rv) (by unfold scanBound; omega) fun h' tk c R hcn k => ?_
  exact ⟨.ref s.heap.objs.size, _, I.laid (t' := tk) k (Nat.le_refl _) (setO_new R), rfl, q _ _ c (I.hok.fresh (Nat.le_refl _)) (fun k => by rw [decide_eq_true_eq]) hcn⟩
def rSetI (K : PySem.W.Frag) (w : World) : List V → Hp → VK → Prop := fun xs H Q => rSetTI K w xs H Q ∨ rSetLI K w xs H Q
theorem cr_setI (hc : X.calm = true) : CallR X (.type "set") (rSetI X.K X.w) := fun pins s σ H xs us Q I r h => h.elim (cr_setTI hc pins s σ H xs us Q I r) (cr_setLI hc pins s σ H xs us Q I r)
def gSSetA : D → Option D
  | .tuple ds => (intsD ds).bind fun ns => if ns.length < 64 then some (.list ((sortU ns).map .int)) else none
  | .list ds => (intsD ds).bind fun ns => if ns.length < 64 then some (.list ((sortU ns).map .int)) else none
  | _ => none
def xSSetA (φ : Den Rv) : Den D := fun ρ => (φ ρ).bind fun r ρ1 => ofO ((look ρ1 r).bind gSSetA) ρ1
@[simp] theorem ev_ssetA (φ : Den Rv) (ρ : Env) : xSSetA φ ρ = (φ ρ).bind fun r ρ1 => ofO ((look ρ1 r).bind gSSetA) ρ1 := (rfl)
theorem dn_ssetA {e : Expr} {φ : Den Rv} {p p2 pos pos2 : Pos} (hc : X.calm = true) (hg : Gl X "sorted") (hm : X.mg "sorted" = none) (hg2 : Gl X "set") (hm2 : X.mg "set" = none) (hv : bootBuiltins "sorted" = some (.builtin "sorted")) (hv2 : bootBuiltins "set" = some (.type "set")) (he : DE X W e φ)
    (na : starEach [e] X.env = (false, eval e X.env) :: starEach [] X.env := by rfl) (np : (backTo pos2 (starEach [] X.env)).any (·.1) = false := by rfl)
    (na2 : starEach [Expr.Call (.Name "set" p2) [e] [] pos2] X.env = (false, eval (.Call (.Name "set" p2) [e] [] pos2) X.env) :: starEach [] X.env := by rfl) (np2 : (backTo pos (starEach [] X.env)).any (·.1) = false := by rfl) :
    DN X W (.Call (.Name "sorted" p) [.Call (.Name "set" p2) [e] [] pos2] [] pos) (xSSetA φ) := by
  have inner := pe_callTy (p := p2) (pos := pos2) (cr_setI hc) hg2 hm2 hv2 (pa_cons he pa_nil na) (by decide) (by decide) na np
  refine pe_imp (pe_callB (p := p) (pos := pos) (cr_sortedSet hc) hg hm hv (pa_cons inner pa_nil na2) (by decide) (by decide) na2 np2) fun σ H Q hq => ?_
  obtain ⟨B, F, ρ, S, w⟩ := hq
  refine ⟨B, F, ρ, S, wp_mono (wp_bind w) (fun r ρ1 w1 F1 v H1 s1 S1 q1 => ?_) fun _ _ z => z⟩
  obtain ⟨dz, e1, w2⟩ := wp_ofO w1
  obtain ⟨d, e2, e3⟩ := Option.bind_eq_some_iff.mp e1
  have fin : ∀ (l : Addr) (ns : List Int), ns.length < 64 → dz = .list ((sortU ns).map .int) → ∀ a St n, H1 a = none → (∀ k, St k = true ↔ k ∈ ns) → n ≤ ns.length → rSortedSet X.w [V.ref a] (upd H1 a (SetO X.w a St n)) Q := fun l ns hz ez a St n hn hS hl => by
    subst ez
    refine ⟨a, St, n, rfl, upd_same, by omega, fun ms q hord hmem hlen hq => ?_⟩
    have em : ms = sortU ns := ord_eq hord (sortU_ord ns) fun k => by rw [hmem, hS, mem_sortU]
    subst em
    obtain ⟨S3, N⟩ := (S1.fresh (o := SetO X.w a St n) hn).newL hq (DrAll.ints (sortU ns))
    exact w2 F1 q _ s1 S3 N
  cases d <;> simp only [gSSetA, reduceCtorEq] at e3
  · obtain ⟨ns, e4, e5⟩ := Option.bind_eq_some_iff.mp e3
    obtain ⟨hz, e6⟩ := if_some e5
    obtain ⟨l, vs, rfl, h1, h2⟩ := S1.items q1 e2
    rw [intsD_eq e4] at h2
    cases h2.of_ints
    exact .inr ⟨l, ns, rfl, h1, hz, fin l ns hz e6.symm⟩
  · obtain ⟨ns, e4, e5⟩ := Option.bind_eq_some_iff.mp e3
    obtain ⟨hz, e6⟩ := if_some e5
    obtain ⟨l, vs, rfl, h1, h2⟩ := S1.tuple q1 e2
    rw [intsD_eq e4] at h2
    cases h2.of_ints
    exact .inl ⟨l, ns, rfl, sqT_mono S1.f h1, hz, fin l ns hz e6.symm⟩
end
end DL


/-! D layer, 24: repr of an empty dict. -/
namespace DL
open PySem PySem.Spec L2 PyProof.Rows
section
variable {X : Cx} {W : WX} {K : PySem.W.Frag}
def rReprE : List V → Hp → VK → Prop := fun xs H Q => ∃ a, xs = [.ref a] ∧ Rd H a (.dK []) ∧ Q (.str (PyData.dict []).shown) H
theorem call_reprE {k : Nat} (C : Cok X W k) : CallR X (.builtin "repr") rReprE := by
  intro pins s σ H xs us Q I r h
  obtain ⟨a, rfl, e, q⟩ := h
  rw [Vals.ref1 r]
  have hu := C.rm.un
  obtain ⟨_, hd, vs, rel, o, es, ep, h1, h2, h3, h4⟩ := dk_rd I.hok e
  cases rel
  have hs : (a == sysModules) = false := hd
  have ee : es.toList = [] := by
    have h5 := h4.2.1
    cases z : es.toList with
    | nil => rfl
    | cons x r => rw [z] at h5; first | exact h5.elim | cases h5
  have rd : Reads s.heap (.ref a) (.dict []) (a :: [] ++ []) := .dict h1 h2.1 h3 (by rw [ee]; exact .nil) (by rw [ee]; exact .nil)
  exact repr_of_reads' rd rfl (fun _ m => by simp only [List.append_nil, List.mem_singleton] at m; rw [← m] at hs; simp at hs) C.gd (by show X.A.units + 2 < cLine; omega) (fun b o e => e) (fun h' u tk hk => ⟨.str _, H, I.kept hk, ⟨u, rfl⟩, q⟩) (by decide)
def gReprA : List D → Option D
  | [.dict []] => some (.str (PyData.dict []).shown)
  | as => gRepr as
def rReprA (K : PySem.W.Frag) : List V → Hp → VK → Prop := fun xs H Q => rRepr K xs H Q ∨ rReprE xs H Q
theorem call_reprA {k : Nat} (C : Cok X W k) : CallR X (.builtin "repr") (rReprA X.K) := fun pins s σ H xs us Q I r h => h.elim (call_repr C pins s σ H xs us Q I r) (call_reprE C pins s σ H xs us Q I r)
theorem gReprA_of {d dz : D} (h : gReprA [d] = some dz) : gRepr [d] = some dz ∨ (d = .dict [] ∧ dz = .str (PyData.dict []).shown) := by
  unfold gReprA at h
  split at h
  · rename_i e
    cases e
    cases h
    exact .inr ⟨rfl, rfl⟩
  · exact .inl h
theorem s1_reprA : S1 K (rReprA K) (lk gReprA) := by
  refine s1_one (fun B F ρ σ H v a d dz Q S q e e2 k => ?_) (fun ds dz e => ?_)
  · rcases gReprA_of e2 with e3 | ⟨rfl, rfl⟩
    · obtain ⟨hc, e4⟩ := if_some (show (if SeqAt.shaped d = true ∧ d.showable = true ∧ d.shown.length ≤ sizeLine then some (PyData.str d.shown) else none) = some dz from e3)
      subst e4
      exact .inl ⟨v, d, rfl, Dr.dp _ _ (SeqAt.canLay_of_shaped hc.1) (S.look q e), hc.1, hc.2.1, hc.2.2, k F _ H (Same.refl F) S (.str _)⟩
    · obtain ⟨p, kvs, rfl, h1, h2⟩ := S.dict q e
      cases h2
      exact .inr ⟨p, rfl, h1, k F _ H (Same.refl F) S (.str _)⟩
  · unfold gReprA at e
    split at e
    · exact ⟨_, rfl⟩
    · unfold gRepr at e
      split at e <;> first | exact ⟨_, rfl⟩ | cases e
end
end DL


/-! D layer, 25: dict comprehensions reckoned. -/
namespace DL
open PySem PySem.Spec L2
/-! dict comprehension whose tests are none and whose turns run clean -/
theorem dcD_map {vs : List Nat} {γ : DenG} {κ φ : Den Rv} {ρ : DL.Env} {k : D → Key} {f : D → D} {ds : List D} (h : ∀ d ∈ ds, ∃ ρ1 r ρ2 r' ρ4 ρ5, γ d ρ = some ρ1 ∧ κ ρ1 = .ok r ρ2 ∧ (look ρ2 r).bind gKey = some (k d) ∧ φ ρ2 = .ok r' ρ4 ∧ frz r' ρ4 = .ok (f d) ρ5 ∧ wipeE ρ5 vs = ρ) : ∀ es, dcD vs γ xYes κ φ ds es ρ = .ok (ds.foldl (fun es d => putD es (k d) (f d)) es) ρ := by
  induction ds with
  | nil => intro es; rfl
  | cons d ds ih =>
    intro es
    obtain ⟨ρ1, r, ρ2, r', ρ4, ρ5, h1, h2, h3, h4, h5, h6⟩ := h d List.mem_cons_self
    unfold dcD
    rw [h1]
    simp only [xYes, noX, Ans.bind_ok, if_true, h2, h3, ofO, h4, h5, h6]
    rw [ih fun e he => h e (List.mem_cons_of_mem _ he)]
    rfl
@[simp] theorem ev_dc (ι : Den (List D)) (vs : List Nat) (γ : DenG) (τ : Den Bool) (κ φ : Den Rv) (ρ : DL.Env) : xDc ι vs γ τ κ φ ρ = (ι ρ).bind fun ds ρ1 => if ds.length ≤ sizeLine then (noX (dcD vs γ τ κ φ ds [] (wipeE ρ1 vs))).bind fun es ρ2 => .ok (.dict es) (unwipe ρ1 ρ2 vs) else .bad := (rfl)
end DL


/-! D layer, 26: more for reckoning: steps that the kernel need not look into. -/
namespace DL
open PySem PySem.Spec L2
@[simp high] theorem oBind_some {α β : Type} (a : α) (f : α → Option β) : Option.bind (some a) f = f a := (rfl)
@[simp high] theorem oMap_some {α β : Type} (a : α) (f : α → β) : Option.map f (some a) = some (f a) := (rfl)
@[simp] theorem items_tuple (ds : List D) : itemsOf (.tuple ds) = some ds := (rfl)
@[simp] theorem items_list (ds : List D) : itemsOf (.list ds) = some ds := (rfl)
theorem gRange3_ok {i j : Int} (h : -(2 ^ 62) ≤ i ∧ i < 2 ^ 62 ∧ -(2 ^ 62) ≤ j ∧ j < 2 ^ 62) : gRange3 [.int i, .int j, .int (-1)] = some (downL i (i - j).toNat) := if_pos ⟨rfl, h⟩
theorem lcD_filter {β : Type} {vs : List Nat} {γ : DenG} {τ : Den Bool} {φ : Den Rv} {ρ : DL.Env} {g f : β → D} {P : β → Bool} {bs : List β} (h : ∀ b ∈ bs, ∃ ρ1, lcTurn γ τ φ (g b) ρ = .ok (if P b = true then some (f b) else none) ρ1 ∧ wipeE ρ1 vs = ρ) : lcD vs γ τ φ (bs.map g) ρ = .ok ((bs.filter P).map f) ρ := by
  induction bs with
  | nil => rfl
  | cons b bs ih =>
    obtain ⟨ρ1, h1, h2⟩ := h b List.mem_cons_self
    rw [List.map_cons, lcD_cons, h1, Ans.bind_ok, h2, ih fun c hc => h c (List.mem_cons_of_mem _ hc), Ans.bind_ok, List.filter_cons]
    cases P b <;> rfl
@[simp] theorem ev_while (n : Nat) (c : Den Bool) (ψ : DenS) (ρ : DL.Env) : yWhile n c ψ ρ = whileD c ψ n ρ := (rfl)
/-- what is taken, by a test that draws -/
theorem lcD_sub {vs : List Nat} {γ : DenG} {τ : Den Bool} {φ : Den Rv} {I : DL.Env → Prop} : ∀ {ds : List D} {ρ : DL.Env}, I ρ → (∀ d ∈ ds, ∀ ρ, I ρ → ∃ o ρ1, lcTurn γ τ φ d ρ = .ok o ρ1 ∧ (o = none ∨ o = some d) ∧ I (wipeE ρ1 vs)) →
    ∃ xs ρ', lcD vs γ τ φ ds ρ = .ok xs ρ' ∧ I ρ' ∧ xs.Sublist ds
  | [], ρ, i, _ => ⟨[], ρ, rfl, i, .slnil⟩
  | d :: ds, ρ, i, h => by
    obtain ⟨o, ρ1, h1, h2, h3⟩ := h d List.mem_cons_self ρ i
    obtain ⟨xs, ρ', h4, h5, h6⟩ := lcD_sub (ds := ds) h3 fun e he => h e (List.mem_cons_of_mem _ he)
    rcases h2 with rfl | rfl
    · exact ⟨xs, ρ', by rw [lcD_cons, h1, Ans.bind_ok, h4, Ans.bind_ok]; rfl, h5, .cons _ h6⟩
    · exact ⟨d :: xs, ρ', by rw [lcD_cons, h1, Ans.bind_ok, h4, Ans.bind_ok]; rfl, h5, .cons_cons _ h6⟩
theorem rangeL_cons (i : Int) (n : Nat) : rangeL i (n + 1) = .int i :: rangeL (i + 1) n := by
  unfold rangeL
  rw [List.range_succ_eq_map, List.map_cons, List.map_map]
  congr 1
  · show PyData.int _ = PyData.int _
    congr 1
    show i + ((0 : Nat) : Int) = i
    omega
  · apply List.map_congr_left
    intro k _
    show PyData.int _ = PyData.int _
    congr 1
    show i + ((k + 1 : Nat) : Int) = i + 1 + (k : Int)
    omega
theorem gRgn1_ok {j : Int} (h : -(2 ^ 62) ≤ j ∧ j ≤ 16777216) : gRgn1 (.int j) = some (rangeL 0 j.toNat) := if_pos h
end DL


namespace K23
open PySem PySem.Spec L2 DL
/-! ### the text -/
def topS (i : Nat) : Stmt := PySem.Challenge.pw_onceorlater_k23_size_sets_least.main.body.getD i (.Pass ⟨0, 0, 0, 0⟩)
abbrev s__law_bag : Stmt := topS 14
abbrev s__law_take : Stmt := topS 12
abbrev s__law_some : Stmt := topS 13
abbrev s__law_drawn_set : Stmt := topS 20
abbrev s__law_in : Stmt := topS 17
abbrev s__law_least : Stmt := topS 18
abbrev s__law_alike : Stmt := topS 15
abbrev s__law_bent : Stmt := topS 21
abbrev s__law_is_whole : Stmt := topS 16
abbrev s__law_is_form : Stmt := topS 19
abbrev s_has : Stmt := topS 10
abbrev s_least_period : Stmt := topS 6
abbrev s_last_untold : Stmt := topS 7
abbrev s_least_set : Stmt := topS 8
abbrev s_is_rising : Stmt := topS 3
abbrev s_is_integer : Stmt := topS 1
abbrev s_are_below : Stmt := topS 4
abbrev s_is_size_set_form : Stmt := topS 5
abbrev s_is_size_set : Stmt := topS 9
abbrev s_law : Stmt := topS 22
theorem sc__law_bag : FnScope ["script", "cell"] ["script"] (defScope s__law_bag) := ⟨rfl, rfl, rfl, by decide +kernel, rfl, by decide +kernel, by decide +kernel⟩
theorem sc__law_take : FnScope ["bag", "many", "cell", "stirred", "value", "begin", "second"] ["bag", "many"] (defScope s__law_take) := ⟨rfl, rfl, rfl, by decide +kernel, rfl, by decide +kernel, by decide +kernel⟩
theorem sc__law_some : FnScope ["bag", "things"] ["bag", "things"] (defScope s__law_some) := ⟨rfl, rfl, rfl, by decide +kernel, rfl, by decide +kernel, by decide +kernel⟩
theorem sc__law_drawn_set : FnScope ["bag", "bound", "period", "told", "rests", "part", "base", "at", "few"] ["bag"] (defScope s__law_drawn_set) := ⟨rfl, rfl, rfl, by decide +kernel, rfl, by decide +kernel, by decide +kernel⟩
theorem sc__law_in : FnScope ["sizes", "number", "bound", "told", "period", "rests"] ["sizes", "number"] (defScope s__law_in) := ⟨rfl, rfl, rfl, by decide +kernel, rfl, by decide +kernel, by decide +kernel⟩
theorem sc__law_least : FnScope ["sizes", "bound", "told", "period", "rests", "tail", "short", "least", "found", "later", "at", "few"] ["sizes"] (defScope s__law_least) := ⟨rfl, rfl, rfl, by decide +kernel, rfl, by decide +kernel, by decide +kernel⟩
theorem sc__law_alike : FnScope ["found", "due"] ["found", "due"] (defScope s__law_alike) := ⟨rfl, rfl, rfl, by decide +kernel, rfl, by decide +kernel, by decide +kernel⟩
theorem sc__law_bent : FnScope ["bag", "sizes", "way", "bound", "told", "period", "rests", "some", "at"] ["bag", "sizes"] (defScope s__law_bent) := ⟨rfl, rfl, rfl, by decide +kernel, rfl, by decide +kernel, by decide +kernel⟩
theorem sc__law_is_whole : FnScope ["thing"] ["thing"] (defScope s__law_is_whole) := ⟨rfl, rfl, rfl, by decide +kernel, rfl, by decide +kernel, by decide +kernel⟩
theorem sc__law_is_form : FnScope ["thing", "bound", "told", "period", "rests", "some", "most", "one"] ["thing"] (defScope s__law_is_form) := ⟨rfl, rfl, rfl, by decide +kernel, rfl, by decide +kernel, by decide +kernel⟩
theorem sc_has : FnScope ["sizes", "number", "bound", "told", "period", "rests"] ["sizes", "number"] (defScope s_has) := ⟨rfl, rfl, rfl, by decide +kernel, rfl, by decide +kernel, by decide +kernel⟩
theorem sc_least_period : FnScope ["period", "rests", "known", "many", "parts", "few", "rest"] ["period", "rests"] (defScope s_least_period) := ⟨rfl, rfl, rfl, by decide +kernel, rfl, by decide +kernel, by decide +kernel⟩
theorem sc_last_untold : FnScope ["bound", "told", "period", "rests", "known", "block", "some", "number", "rest"] ["bound", "told", "period", "rests"] (defScope s_last_untold) := ⟨rfl, rfl, rfl, by decide +kernel, rfl, by decide +kernel, by decide +kernel⟩
theorem sc_least_set : FnScope ["thing", "bound", "told", "period", "rests", "known", "last", "few", "left", "rest", "one", "number"] ["thing"] (defScope s_least_set) := ⟨rfl, rfl, rfl, by decide +kernel, rfl, by decide +kernel, by decide +kernel⟩
theorem sc_is_rising : FnScope ["numbers", "one", "other"] ["numbers"] (defScope s_is_rising) := ⟨rfl, rfl, rfl, by decide +kernel, rfl, by decide +kernel, by decide +kernel⟩
theorem sc_is_integer : FnScope ["thing"] ["thing"] (defScope s_is_integer) := ⟨rfl, rfl, rfl, by decide +kernel, rfl, by decide +kernel, by decide +kernel⟩
theorem sc_are_below : FnScope ["numbers", "bound", "number"] ["numbers", "bound"] (defScope s_are_below) := ⟨rfl, rfl, rfl, by decide +kernel, rfl, by decide +kernel, by decide +kernel⟩
theorem sc_is_size_set_form : FnScope ["thing"] ["thing"] (defScope s_is_size_set_form) := ⟨rfl, rfl, rfl, by decide +kernel, rfl, by decide +kernel, by decide +kernel⟩
theorem sc_is_size_set : FnScope ["thing"] ["thing"] (defScope s_is_size_set) := ⟨rfl, rfl, rfl, by decide +kernel, rfl, by decide +kernel, by decide +kernel⟩
theorem sc_law : FnScope ["script", "bag", "turn", "sizes", "least", "kept", "again", "number", "thing", "due", "said", "more"] ["script"] (defScope s_law) := ⟨rfl, rfl, rfl, by decide +kernel, rfl, by decide +kernel, by decide +kernel⟩
/-! ### what each def is worth -/
def d__law_bag : DL.Env → FAns := fnD 2 (
    yRetNew (xLst (xCons (xC (.int 0)) (xCons (xC (.int 1234567891)) (xCons (xC (.int 0)) (xCons (xNew (xLc (xItems (xSl (xName 0) (xNoPart) (xPart (xC (.int 63))))) [1] (gSet 1) (xYes) (xCall (lk gAbs) (xCons (xName 1) (xNil))))) (xNil)))))))
def d__law_take : DL.Env → FAns := fnD 7 (
    ySeq (yIf (xTest (xOp gEqA (xOp gIx (xName 0) (xC (.int 0))) (xC (.int 0)))) (ySeq (ySet (gSet 2) (xOp gIx (xOp gAddA (xSl (xOp gIx (xName 0) (xC (.int 3))) (xPart (xOp gIx (xName 0) (xC (.int 2)))) (xNoPart)) (xNew (xLst (xCons (xC (.int 0)) (xNil))))) (xC (.int 0))))
    (ySeq (yAugIx gAddI 0 (xC (.int 2)) (xC (.int 1)))
    (ySeq (yIf (xTest (xOp gGe (xName 2) (xOp gPow (xC (.int 10)) (xC (.int 18))))) (ySetIx 0 (xC (.int 0)) (xName 2)) (yNext))
    (ySeq (ySet (gSet 3) (xOp gAddA (xOp gAddA (xOp gMulA (xOp gIx (xName 0) (xC (.int 1))) (xC (.int 48271))) (xOp gMod (xCall (lk gInt) (xCons (xName 2) (xNil))) (xC (.int 2147483647)))) (xOp gMulA (xC (.int 7919)) (xOp gIx (xName 0) (xC (.int 2))))))
    (ySetIx 0 (xC (.int 1)) (xOp gMod (xCall (lk gInt) (xCons (xName 3) (xNil))) (xC (.int 2147483647)))))))) (yNext))
    (ySeq (yIf (xTest (xOp gGt (xOp gIx (xName 0) (xC (.int 0))) (xC (.int 0)))) (ySeq (ySet (gSet 4) (xOp gMod (xCall (lk gInt) (xCons (xOp gIx (xName 0) (xC (.int 0))) (xNil))) (xName 1)))
    (ySeq (ySetIx 0 (xC (.int 0)) (xOp gDiv (xCall (lk gInt) (xCons (xOp gIx (xName 0) (xC (.int 0))) (xNil))) (xName 1)))
    (yRet (xName 4)))) (yNext))
    (ySeq (ySet (gSet 5) (xOp gMod (xCall (lk gInt) (xCons (xOp gMulA (xOp gAddA (xOp gIx (xName 0) (xC (.int 1))) (xC (.int 1))) (xC (.int 39373))) (xNil))) (xC (.int 1000000007))))
    (ySeq (ySet (gSet 6) (xOp gMod (xCall (lk gInt) (xCons (xOp gMulA (xOp gMod (xCall (lk gInt) (xCons (xOp gMulA (xName 5) (xName 5)) (xNil))) (xC (.int 998244353))) (xC (.int 30011))) (xNil))) (xC (.int 998244353))))
    (yRet (xOp gMod (xCall (lk gInt) (xCons (xOp gDiv (xName 6) (xC (.int 7))) (xNil))) (xName 1)))))))
def d__law_some : DL.Env → FAns := fnD 2 (
    yRet (xOp gIx (xName 1) (xFn 2 d__law_take (xCons (xName 0) (xCons (xCall (lk gLen) (xCons (xName 1) (xNil))) (xNil))))))
def p__law_drawn_set_1 : Den Bool :=
    xTest (xOp gEqA (xFn 2 d__law_take (xCons (xName 0) (xCons (xC (.int 2)) (xNil)))) (xC (.int 0)))
def p__law_drawn_set_2 : Den Bool :=
    xTest (xOp gEqA (xOp gMod (xCall (lk gInt) (xCons (xName 2) (xNil))) (xName 8)) (xC (.int 0)))
def p__law_drawn_set_3 : Den Bool :=
    xTest (xOp gEqA (xFn 2 d__law_take (xCons (xName 0) (xCons (xC (.int 2)) (xNil)))) (xC (.int 0)))
def p__law_drawn_set_4 : DenS :=
    ySetNew 4 (xOpN gCat (xName 4) (xOp gMulA (xNew (xLst (xCons (xName 7) (xNil)))) (xCall (lk gInt) (xCons (xOp (gInC false) (xOp gMod (xCall (lk gInt) (xCons (xName 7) (xNil))) (xName 5)) (xName 6)) (xNil)))))
def d__law_drawn_set : DL.Env → FAns := fnD 9 (
    ySeq (yPar [1, 2] (mDat (xFn 2 d__law_some (xCons (xName 0) (xCons (xNew (xLst (xCons (xC (.int 0)) (xCons (xC (.int 1)) (xCons (xC (.int 3)) (xCons (xC (.int 7)) (xCons (xC (.int 12)) (xNil)))))))) (xNil)))) (mDat (xFn 2 d__law_some (xCons (xName 0) (xCons (xNew (xLst (xCons (xC (.int 1)) (xCons (xC (.int 2)) (xCons (xC (.int 3)) (xCons (xC (.int 4)) (xCons (xC (.int 6)) (xCons (xC (.int 12)) (xCons (xC (.int 5)) (xNil)))))))))) (xNil)))) (mNil))))
    (ySeq (ySet (gSet 3) (xCall (lk gTuple) (xCons (xNew (xLc (xRng gRange1 (xCons (xName 1) (xNil))) [7] (gSet 7) (p__law_drawn_set_1) (xName 7))) (xNil))))
    (ySeq (yPar [4, 5] (mNew (xLst (xNil)) (mDat (xFn 2 d__law_some (xCons (xName 0) (xCons (xNew (xLc (xRng gRange2 (xCons (xC (.int 1)) (xCons (xOp gAddA (xName 2) (xC (.int 1))) (xNil)))) [8] (gSet 8) (p__law_drawn_set_2) (xName 8))) (xNil)))) (mNil))))
    (ySeq (ySet (gSet 6) (xNew (xLc (xRng gRange1 (xCons (xName 5) (xNil))) [7] (gSet 7) (p__law_drawn_set_3) (xName 7))))
    (ySeq (yFor (xRng gRange1 (xCons (xName 2) (xNil))) (gSet 7) (p__law_drawn_set_4))
    (ySeq (yIf (xAnd (xTest (xOp gEqA (xFn 2 d__law_take (xCons (xName 0) (xCons (xC (.int 4)) (xNil)))) (xC (.int 0)))) (xTest (xOp gNeA (xName 4) (xNew (xLst (xNil)))))) (yExpr (xMut 4 oPopAt (xCons (xFn 2 d__law_take (xCons (xName 0) (xCons (xCall (lk gLen) (xCons (xName 4) (xNil))) (xNil)))) (xNil)))) (yNext))
    (yRet (xTup (xCons (xName 1) (xCons (xName 3) (xCons (xName 2) (xCons (xCall (lk gTuple) (xCons (xName 4) (xNil))) (xNil)))))))))))))
def d__law_in : DL.Env → FAns := fnD 6 (
    ySeq (ySet (gTupD 4 (gsCons (gSet 2) (gsCons (gSet 3) (gsCons (gSet 4) (gsCons (gSet 5) (gsNil)))))) (xName 0))
    (yRet (xIf (xTest (xOp gLt (xName 1) (xName 2))) (xOp (gInC false) (xName 1) (xName 3)) (xOp (gInC false) (xOp gMod (xCall (lk gInt) (xCons (xName 1) (xNil))) (xName 4)) (xName 5)))))
def p__law_least_1 : Den Rv :=
    xOp (gInC false) (xOp gMod (xCall (lk gInt) (xCons (xOp gAddA (xName 1) (xName 10)) (xNil))) (xName 3)) (xName 4)
def p__law_least_2 : Den Bool :=
    xAnd (xTest (xOp gEqA (xOp gMod (xCall (lk gInt) (xCons (xName 3) (xNil))) (xName 11)) (xC (.int 0)))) (xTest (xOp gEqA (xSl (xName 5) (xPart (xName 11)) (xNoPart)) (xSl (xName 5) (xNoPart) (xPart (xOp gSub (xCall (lk gLen) (xCons (xName 5) (xNil))) (xName 11))))))
def p__law_least_3 : Den Bool :=
    xAnd (xTest (xOp gGt (xName 7) (xC (.int 0)))) (xTest (xOp gEqA (xFn 2 d__law_in (xCons (xName 0) (xCons (xOp gSub (xName 7) (xC (.int 1))) (xNil)))) (xFn 2 d__law_in (xCons (xName 0) (xCons (xOp gAddA (xOp gSub (xName 7) (xC (.int 1))) (xName 6)) (xNil))))))
def p__law_least_4 : Den Bool :=
    xTruth (xFn 2 d__law_in (xCons (xName 0) (xCons (xName 10) (xNil))))
def p__law_least_5 : Den Bool :=
    xTruth (xFn 2 d__law_in (xCons (xName 0) (xCons (xOp gAddA (xName 7) (xName 10)) (xNil))))
def p__law_least_6 : Den Rv :=
    xOp gMod (xCall (lk gInt) (xCons (xOp gAddA (xName 7) (xName 10)) (xNil))) (xName 6)
def d__law_least : DL.Env → FAns := fnD 12 (
    ySeq (ySet (gTupD 4 (gsCons (gSet 1) (gsCons (gSet 2) (gsCons (gSet 3) (gsCons (gSet 4) (gsNil)))))) (xName 0))
    (ySeq (ySet (gSet 5) (xNew (xLc (xRng gRange1 (xCons (xOp gMulA (xC (.int 2)) (xName 3)) (xNil))) [10] (gSet 10) (xYes) (p__law_least_1))))
    (ySeq (ySet (gSet 6) (xOp gIx (xNew (xLc (xRng gRange2 (xCons (xC (.int 1)) (xCons (xOp gAddA (xName 3) (xC (.int 1))) (xNil)))) [11] (gSet 11) (p__law_least_2) (xName 11))) (xC (.int 0))))
    (ySeq (ySet (gSet 7) (xName 1))
    (ySeq (yWhile fuel (p__law_least_3) (yAug gSub 7 (xC (.int 1))))
    (ySeq (ySet (gSet 8) (xCall (lk gTuple) (xCons (xNew (xLc (xRng gRange1 (xCons (xName 7) (xNil))) [10] (gSet 10) (p__law_least_4) (xName 10))) (xNil))))
    (ySeq (ySet (gSet 9) (xCall (lk gTuple) (xCons (xNew (xSSetA (xNew (xLc (xRng gRange1 (xCons (xName 6) (xNil))) [10] (gSet 10) (p__law_least_5) (p__law_least_6))))) (xNil))))
    (yRet (xTup (xCons (xName 7) (xCons (xName 8) (xCons (xName 6) (xCons (xName 9) (xNil))))))))))))))
def d__law_alike : DL.Env → FAns := fnD 2 (
    yRet (xAndV (xOp gEqA (xCall (lk gReprA) (xCons (xName 0) (xNil))) (xCall (lk gReprA) (xCons (xName 1) (xNil)))) (xOp gEqA (xName 0) (xName 1))))
def p__law_bent_1 : Den Bool :=
    xTruth (xFn 2 d__law_in (xCons (xName 1) (xCons (xName 8) (xNil))))
def d__law_bent : DL.Env → FAns := fnD 9 (
    ySeq (ySet (gSet 2) (xFn 2 d__law_take (xCons (xName 0) (xCons (xC (.int 7)) (xNil)))))
    (ySeq (ySet (gTupD 4 (gsCons (gSet 3) (gsCons (gSet 4) (gsCons (gSet 5) (gsCons (gSet 6) (gsNil)))))) (xName 1))
    (ySeq (yIf (xTest (xOp gEqA (xName 2) (xC (.int 0)))) (yRet (xFn 2 d__law_some (xCons (xName 0) (xCons (xNew (xLst (xCons (xC .none) (xCons (xTup (xNil)) (xCons (xNew (xCallN (lk gList) (xCons (xName 1) (xNil)))) (xCons (xSl (xName 1) (xNoPart) (xPart (xC (.int 3)))) (xCons (xOp gAddA (xName 1) (xTup (xCons (xC (.int 0)) (xNil)))) (xCons (xC (.str "a")) (xCons (xC (.bool true)) (xCons (xNew (xDct0)) (xNil))))))))))) (xNil))))) (yNext))
    (ySeq (yIf (xTest (xOp gEqA (xName 2) (xC (.int 1)))) (yRet (xTup (xCons (xFn 2 d__law_some (xCons (xName 0) (xCons (xNew (xLst (xCons (xOp gAddA (xName 3) (xC (.int 1))) (xCons (xNeg (xC (.int 1))) (xCons (xC (.bool true)) (xCons (xC .none) (xCons (xC (.str "0")) (xNil)))))))) (xNil)))) (xCons (xName 4) (xCons (xName 5) (xCons (xName 6) (xNil))))))) (yNext))
    (ySeq (yIf (xTest (xOp gEqA (xName 2) (xC (.int 2)))) (yRet (xTup (xCons (xName 3) (xCons (xName 4) (xCons (xFn 2 d__law_some (xCons (xName 0) (xCons (xNew (xLst (xCons (xC (.int 0)) (xCons (xOp gMulA (xC (.int 2)) (xName 5)) (xCons (xNeg (xC (.int 1))) (xCons (xC (.bool true)) (xCons (xC .none) (xNil)))))))) (xNil)))) (xCons (xName 6) (xNil))))))) (yNext))
    (ySeq (yIf (xTest (xOp gEqA (xName 2) (xC (.int 3)))) (ySeq (ySet (gSet 7) (xNew (xLst (xCons (xRev (xName 4)) (xCons (xNew (xCallN (lk gList) (xCons (xName 4) (xNil)))) (xCons (xOp gAddA (xName 4) (xTup (xCons (xName 3) (xNil)))) (xCons (xOp gAddA (xName 4) (xTup (xCons (xC (.int 0)) (xNil)))) (xCons (xC .none) (xCons (xTup (xCons (xC (.bool true)) (xNil))) (xCons (xOp gAddA (xName 4) (xTup (xCons (xC .none) (xNil)))) (xCons (xOp gAddA (xName 4) (xTup (xCons (xNew (xLst (xNil))) (xNil)))) (xNil))))))))))))
    (yRet (xTup (xCons (xName 3) (xCons (xFn 2 d__law_some (xCons (xName 0) (xCons (xName 7) (xNil)))) (xCons (xName 5) (xCons (xName 6) (xNil)))))))) (yNext))
    (ySeq (yIf (xTest (xOp gEqA (xName 2) (xC (.int 4)))) (ySeq (ySet (gSet 7) (xNew (xLst (xCons (xRev (xName 6)) (xCons (xNew (xCallN (lk gList) (xCons (xName 6) (xNil)))) (xCons (xOp gAddA (xName 6) (xTup (xCons (xName 5) (xNil)))) (xCons (xTup (xCons (xNeg (xC (.int 1))) (xNil))) (xCons (xC .none) (xCons (xTup (xCons (xC (.bool false)) (xNil))) (xCons (xOp gAddA (xName 6) (xTup (xCons (xC (.str "0")) (xNil)))) (xNil)))))))))))
    (yRet (xTup (xCons (xName 3) (xCons (xName 4) (xCons (xName 5) (xCons (xFn 2 d__law_some (xCons (xName 0) (xCons (xName 7) (xNil)))) (xNil)))))))) (yNext))
    (ySeq (yIf (xTest (xOp gEqA (xName 2) (xC (.int 5)))) (yRet (xTup (xCons (xName 3) (xCons (xName 4) (xCons (xOp gMulA (xC (.int 2)) (xName 5)) (xCons (xOp gAddA (xName 6) (xCall (lk gTuple) (xCons (xNew (xLc (xItems (xName 6)) [8] (gSet 8) (xYes) (xOp gAddA (xName 8) (xName 5)))) (xNil)))) (xNil))))))) (yNext))
    (yRet (xTup (xCons (xOp gAddA (xName 3) (xName 5)) (xCons (xCall (lk gTuple) (xCons (xNew (xLc (xRng gRange1 (xCons (xOp gAddA (xName 3) (xName 5)) (xNil))) [8] (gSet 8) (p__law_bent_1) (xName 8))) (xNil))) (xCons (xName 5) (xCons (xName 6) (xNil)))))))))))))))
def d__law_is_whole : DL.Env → FAns := fnD 1 (
    yRet (xAndV (xIsi "int" (xName 0)) (xNotV (xIsi "bool" (xName 0)))))
def p__law_is_form_1 : Den Bool :=
    xNot (xTruth (xFn 1 d__law_is_whole (xCons (xName 7) (xNil))))
def p__law_is_form_2 : Den Bool :=
    xNot (xTest (xChain gLe gLt (xC (.int 0)) (xName 7) (xName 6)))
def p__law_is_form_3 : DenS :=
    ySeq (yIf (xOr (xNot (xTruth (xIsi "tuple" (xName 5)))) (xTest (xOp gNeA (xNew (xLc (xItems (xName 5)) [7] (gSet 7) (p__law_is_form_1) (xC (.int 1)))) (xNew (xLst (xNil)))))) (yRet (xC (.bool false))) (yNext))
    (yIf (xOr (xTest (xOp gNeA (xNew (xCallN (lk gList) (xCons (xName 5) (xNil)))) (xNew (xSSetA (xName 5))))) (xTest (xOp gNeA (xNew (xLc (xItems (xName 5)) [7] (gSet 7) (p__law_is_form_2) (xC (.int 1)))) (xNew (xLst (xNil)))))) (yRet (xC (.bool false))) (yNext))
def d__law_is_form : DL.Env → FAns := fnD 8 (
    ySeq (yIf (xOr (xNot (xTruth (xIsi "tuple" (xName 0)))) (xTest (xOp gNeA (xCall (lk gLen) (xCons (xName 0) (xNil))) (xC (.int 4))))) (yRet (xC (.bool false))) (yNext))
    (ySeq (ySet (gTupD 4 (gsCons (gSet 1) (gsCons (gSet 2) (gsCons (gSet 3) (gsCons (gSet 4) (gsNil)))))) (xName 0))
    (ySeq (yIf (xOr (xNot (xTruth (xFn 1 d__law_is_whole (xCons (xName 1) (xNil))))) (xOr (xNot (xTruth (xFn 1 d__law_is_whole (xCons (xName 3) (xNil))))) (xOr (xTest (xOp gLt (xName 1) (xC (.int 0)))) (xTest (xOp gLt (xName 3) (xC (.int 1))))))) (yRet (xC (.bool false))) (yNext))
    (ySeq (yFor (xItems (xTup (xCons (xTup (xCons (xName 2) (xCons (xName 1) (xNil)))) (xCons (xTup (xCons (xName 4) (xCons (xName 3) (xNil)))) (xNil))))) (gTupD 2 (gsCons (gSet 5) (gsCons (gSet 6) (gsNil)))) (p__law_is_form_3))
    (yRet (xC (.bool true)))))))
def d_has : DL.Env → FAns := fnD 6 (
    ySeq (ySet (gTupD 4 (gsCons (gSet 2) (gsCons (gSet 3) (gsCons (gSet 4) (gsCons (gSet 5) (gsNil)))))) (xName 0))
    (yRet (xIf (xTest (xOp gLt (xName 1) (xName 2))) (xOp (gInC false) (xName 1) (xName 3)) (xOp (gInC false) (xOp gMod (xName 1) (xName 4)) (xName 5)))))
def p_least_period_1 : Den Rv :=
    xOp (gInC false) (xOp gMod (xOp gAddA (xName 6) (xName 5)) (xName 0)) (xName 2)
def p_least_period_2 : DenS :=
    ySeq (ySet (gSet 5) (xOp gDiv (xName 0) (xName 4)))
    (yIf (xAnd (xTest (xOp gEqA (xOp gMod (xName 3) (xName 4)) (xC (.int 0)))) (xAnd (xTest (xOp gEqA (xOp gMod (xName 0) (xName 4)) (xC (.int 0)))) (xTruth (xCall (lk gAll) (xCons (xNew (xLc (xItems (xName 1)) [6] (gSet 6) (xYes) (p_least_period_1))) (xNil)))))) (yRet (xName 5)) (yNext))
def d_least_period : DL.Env → FAns := fnD 7 (
    ySeq (yPar [2, 3] (mDat (xNew (xDc (xItems (xName 1)) [6] (gSet 6) (xYes) (xName 6) (xC (.bool true)))) (mDat (xCall (lk gLen) (xCons (xName 1) (xNil))) (mNil))))
    (ySeq (yIf (xTest (xOp gEqA (xName 3) (xC (.int 0)))) (yRet (xC (.int 1))) (yNext))
    (ySeq (yFor (xRng gRange3 (xCons (xName 3) (xCons (xC (.int 1)) (xCons (xNeg (xC (.int 1))) (xNil))))) (gSet 4) (p_least_period_2))
    (yRet (xName 0)))))
def p_last_untold_1 : Den Bool :=
    xAnd (xTest (xOp gLt (xName 7) (xName 0))) (xTest (xOp (gInC true) (xName 7) (xName 4)))
def p_last_untold_2 : Den Bool :=
    xAnd (xTest (xOp gNeA (xName 3) (xTup (xNil)))) (xTest (xOp gGe (xName 5) (xC (.int 0))))
def p_last_untold_3 : DenS :=
    ySeq (ySet (gSet 6) (xNew (xLc (xItems (xName 3)) [8] (gSet 8) (xYes) (xOp gAddA (xOp gMulA (xName 5) (xName 2)) (xName 8)))))
    (ySeq (ySet (gSet 6) (xNew (xLc (xItems (xName 6)) [7] (gSet 7) (p_last_untold_1) (xName 7))))
    (ySeq (yIf (xTest (xOp gNeA (xName 6) (xNew (xLst (xNil))))) (yRet (xOp gIx (xName 6) (xNeg (xC (.int 1))))) (yNext))
    (yAug gSub 5 (xC (.int 1)))))
def d_last_untold : DL.Env → FAns := fnD 9 (
    ySeq (yPar [4, 5] (mDat (xNew (xDc (xItems (xName 1)) [7] (gSet 7) (xYes) (xName 7) (xC (.bool true)))) (mDat (xOp gDiv (xName 0) (xName 2)) (mNil))))
    (ySeq (yWhile fuel (p_last_untold_2) (p_last_untold_3))
    (yRet (xNeg (xC (.int 1))))))
def p_least_set_1 : Den Bool :=
    xTest (xOp (gInC true) (xOp gMod (xName 10) (xName 3)) (xName 5))
def d_least_set : DL.Env → FAns := fnD 12 (
    ySeq (ySet (gTupD 4 (gsCons (gSet 1) (gsCons (gSet 2) (gsCons (gSet 3) (gsCons (gSet 4) (gsNil)))))) (xName 0))
    (ySeq (ySet (gSet 5) (xNew (xDc (xItems (xName 4)) [9] (gSet 9) (xYes) (xName 9) (xC (.bool true)))))
    (ySeq (ySet (gSet 6) (xCall (lk gMax) (xCons (xOp gAddA (xNew (xLst (xCons (xNeg (xC (.int 1))) (xCons (xFn 4 d_last_untold (xCons (xName 1) (xCons (xName 2) (xCons (xName 3) (xCons (xName 4) (xNil)))))) (xNil))))) (xNew (xLc (xItems (xName 2)) [10] (gSet 10) (p_least_set_1) (xName 10)))) (xNil))))
    (ySeq (ySet (gSet 7) (xFn 2 d_least_period (xCons (xName 3) (xCons (xName 4) (xNil)))))
    (ySeq (ySet (gSet 8) (xCall (lk gTuple) (xCons (xNew (xLc (xItems (xName 2)) [11] (gSet 11) (xTest (xOp gLe (xName 11) (xName 6))) (xName 11))) (xNil))))
    (yRet (xTup (xCons (xOp gAddA (xName 6) (xC (.int 1))) (xCons (xName 8) (xCons (xName 7) (xCons (xCall (lk gTuple) (xCons (xNew (xLc (xItems (xName 4)) [9] (gSet 9) (xTest (xOp gLt (xName 9) (xName 7))) (xName 9))) (xNil))) (xNil))))))))))))
def d_is_rising : DL.Env → FAns := fnD 3 (
    yRet (xCall (lk gAll) (xCons (xNew (xLc (xWalk gZip (xCons (xName 0) (xCons (xSl (xName 0) (xPart (xC (.int 1))) (xNoPart)) (xNil)))) [1, 2] (gTupD 2 (gsCons (gSet 1) (gsCons (gSet 2) (gsNil)))) (xYes) (xOp gLt (xName 1) (xName 2)))) (xNil))))
def d_is_integer : DL.Env → FAns := fnD 1 (
    yRet (xAndV (xIsi "int" (xName 0)) (xNotV (xIsi "bool" (xName 0)))))
def d_are_below : DL.Env → FAns := fnD 3 (
    ySeq (yIf (xOr (xNot (xTruth (xIsi "tuple" (xName 0)))) (xNot (xTruth (xCall (lk gAll) (xCons (xNew (xLc (xItems (xName 0)) [2] (gSet 2) (xYes) (xFn 1 d_is_integer (xCons (xName 2) (xNil))))) (xNil)))))) (yRet (xC (.bool false))) (yNext))
    (yRet (xAndV (xFn 1 d_is_rising (xCons (xName 0) (xNil))) (xOrV (xOp gEqA (xName 0) (xTup (xNil))) (xAndV (xOp gGe (xOp gIx (xName 0) (xC (.int 0))) (xC (.int 0))) (xOp gLt (xOp gIx (xName 0) (xNeg (xC (.int 1)))) (xName 1)))))))
def d_is_size_set_form : DL.Env → FAns := fnD 1 (
    ySeq (yIf (xOr (xNot (xTruth (xIsi "tuple" (xName 0)))) (xOr (xTest (xOp gNeA (xCall (lk gLen) (xCons (xName 0) (xNil))) (xC (.int 4)))) (xOr (xNot (xTruth (xFn 1 d_is_integer (xCons (xOp gIx (xName 0) (xC (.int 0))) (xNil))))) (xNot (xTruth (xFn 1 d_is_integer (xCons (xOp gIx (xName 0) (xC (.int 2))) (xNil)))))))) (yRet (xC (.bool false))) (yNext))
    (yRet (xAndV (xOp gGe (xOp gIx (xName 0) (xC (.int 0))) (xC (.int 0))) (xAndV (xOp gGe (xOp gIx (xName 0) (xC (.int 2))) (xC (.int 1))) (xAndV (xFn 2 d_are_below (xCons (xOp gIx (xName 0) (xC (.int 1))) (xCons (xOp gIx (xName 0) (xC (.int 0))) (xNil)))) (xFn 2 d_are_below (xCons (xOp gIx (xName 0) (xC (.int 3))) (xCons (xOp gIx (xName 0) (xC (.int 2))) (xNil)))))))))
def d_is_size_set : DL.Env → FAns := fnD 1 (
    yRet (xAndV (xFn 1 d_is_size_set_form (xCons (xName 0) (xNil))) (xOp gEqA (xFn 1 d_least_set (xCons (xName 0) (xNil))) (xName 0))))
def p_law_1 : DenS :=
    yIf (xOr (xNot (xTruth (xFn 2 d__law_alike (xCons (xFn 1 d_least_set (xCons (xName 3) (xNil))) (xCons (xName 4) (xNil)))))) (xTest (xOp gNeA (xCall (lk gReprA) (xCons (xName 3) (xNil))) (xName 5)))) (yRet (xC (.bool false))) (yNext)
def p_law_2 : DenS :=
    yIf (xNot (xTruth (xFn 2 d__law_alike (xCons (xFn 2 d_has (xCons (xName 4) (xCons (xName 7) (xNil)))) (xCons (xFn 2 d__law_in (xCons (xName 3) (xCons (xName 7) (xNil)))) (xNil)))))) (yRet (xC (.bool false))) (yNext)
def p_law_3 : Den Rv :=
    xFn 2 d__law_bent (xCons (xName 1) (xCons (xFn 2 d__law_some (xCons (xName 1) (xCons (xNew (xLst (xCons (xName 3) (xCons (xName 4) (xNil))))) (xNil)))) (xNil)))
def p_law_4 : DenS :=
    ySeq (yPar [9, 10] (mDat (xFn 1 d__law_is_form (xCons (xName 8) (xNil))) (mDat (xCall (lk gReprA) (xCons (xName 8) (xNil))) (mNil))))
    (ySeq (ySet (gSet 9) (xAndV (xName 9) (xFn 2 d__law_alike (xCons (xFn 1 d__law_least (xCons (xName 8) (xNil))) (xCons (xName 8) (xNil))))))
    (yIf (xOr (xNot (xTruth (xFn 2 d__law_alike (xCons (xFn 1 d_is_size_set (xCons (xName 8) (xNil))) (xCons (xName 9) (xNil)))))) (xTest (xOp gNeA (xCall (lk gReprA) (xCons (xName 8) (xNil))) (xName 10)))) (yRet (xC (.bool false))) (yNext)))
def p_law_5 : DenS :=
    ySeq (ySet (gSet 3) (xFn 1 d__law_drawn_set (xCons (xName 1) (xNil))))
    (ySeq (yPar [4, 5] (mDat (xFn 1 d__law_least (xCons (xName 3) (xNil))) (mDat (xCall (lk gReprA) (xCons (xName 3) (xNil))) (mNil))))
    (ySeq (yFor (xRng gRange1 (xCons (xC (.int 2)) (xNil))) (gSet 6) (p_law_1))
    (ySeq (yFor (xItems (xOp gAddA (xNew (xLRg1 (xC (.int 26)))) (xNew (xLst (xCons (xOp gAddA (xOp gPow (xC (.int 10)) (xC (.int 40))) (xFn 2 d__law_take (xCons (xName 1) (xCons (xC (.int 24)) (xNil))))) (xCons (xC (.int 999983)) (xNil))))))) (gSet 7) (p_law_2))
    (yFor (xItems (xOp gAddA (xNew (xLst (xCons (xName 3) (xCons (xName 4) (xNil))))) (xNew (xLc (xRng gRange1 (xCons (xC (.int 5)) (xNil))) [11] (gSet 11) (xYes) (p_law_3))))) (gSet 8) (p_law_4)))))
def d_law : DL.Env → FAns := fnD 12 (
    ySeq (ySetNew 1 (xFnN 1 d__law_bag (xCons (xName 0) (xNil))))
    (ySeq (yFor (xRng gRange1 (xCons (xC (.int 8)) (xNil))) (gSet 2) (p_law_5))
    (yRet (xC (.bool true)))))
/-! ### what the module holds -/
structure Txt (K : PySem.W.Frag) (mg : Str → Option Value) : Prop where
  z_abs : mg "abs" = none
  z_all : mg "all" = none
  z_bool : mg "bool" = none
  z_int : mg "int" = none
  z_isinstance : mg "isinstance" = none
  z_len : mg "len" = none
  z_list : mg "list" = none
  z_max : mg "max" = none
  z_range : mg "range" = none
  z_repr : mg "repr" = none
  z_set : mg "set" = none
  z_sorted : mg "sorted" = none
  z_tuple : mg "tuple" = none
  z_zip : mg "zip" = none
section
variable {P : Program} {w : World} {K : PySem.W.Frag} {mg : Str → Option Value} {base : Heap}
set_option maxHeartbeats 0 in
theorem f__law_bag (T : Txt K mg) {f : Addr} {fd : FuncData} (F : Fun K "_law_bag" "_law_bag" s__law_bag f fd) : FnG P w K mg base 1 f fd ["script"] d__law_bag :=
  fn_D (k := 0) F sc__law_bag fun cdv A outer s H E C => (dss_one (ds_retNew (dn_lst (da_cons de_int (da_cons de_int (da_cons de_int (da_cons (de_new (dn_lc C (own := [("cell", 1)]) (di_seq (de_sl de_name do_none (do_some de_int))) (blkOk_by (by kernel_rfl)) (by decide) (fun _ _ _ _ _ => (dg_name C.blk.nd)) (fun _ _ _ _ _ => dts_nil) (fun _ _ _ _ _ => (de_callB call_abs s1_abs (by rfl) T.z_abs DL.b_abs (da_cons de_name da_nil))))) da_nil)))))))
set_option maxHeartbeats 0 in
theorem f__law_take (T : Txt K mg) {f : Addr} {fd : FuncData} (F : Fun K "_law_take" "_law_take" s__law_take f fd) : FnG P w K mg base 1 f fd ["bag", "many"] d__law_take :=
  fn_D (k := 0) F sc__law_take fun cdv A outer s H E C => (dss_cons (ds_if (dt_cmp (op_eqA C.rm) s2_eqA (de_ix de_name de_int) de_int (by rfl)) (dss_cons (ds_set C.nd (de_ix (de_op op_addL s2_addL (de_sl (de_ix de_name de_int) (do_some (de_ix de_name de_int)) do_none) (de_new (dn_lst (da_cons de_int da_nil)))) de_int))
    (dss_cons (ds_augIx ip_add s2_iadd de_int de_int)
    (dss_cons (ds_if (dt_cmp op_geA s2_ge de_name (de_op op_pow s2_pow de_int de_int) (by rfl)) (dss_one (ds_setIx de_name de_int)) dss_nil)
    (dss_cons (ds_set C.nd (de_op op_addL s2_addL (de_op op_addL s2_addL (de_op op_mulA s2_mulA (de_ix de_name de_int) de_int) (de_op op_mod s2_mod (de_callTy call_intA s1_int (by rfl) T.z_int DL.b_int (da_cons de_name da_nil)) de_int)) (de_op op_mulA s2_mulA de_int (de_ix de_name de_int))))
    (dss_one (ds_setIx (de_op op_mod s2_mod (de_callTy call_intA s1_int (by rfl) T.z_int DL.b_int (da_cons de_name da_nil)) de_int) de_int)))))) dss_nil)
    (dss_cons (ds_if (dt_cmp op_gtA s2_gt (de_ix de_name de_int) de_int (by rfl)) (dss_cons (ds_set C.nd (de_op op_mod s2_mod (de_callTy call_intA s1_int (by rfl) T.z_int DL.b_int (da_cons (de_ix de_name de_int) da_nil)) de_name))
    (dss_cons (ds_setIx (de_op op_fdiv s2_div (de_callTy call_intA s1_int (by rfl) T.z_int DL.b_int (da_cons (de_ix de_name de_int) da_nil)) de_name) de_int)
    (dss_one (ds_ret de_name)))) dss_nil)
    (dss_cons (ds_set C.nd (de_op op_mod s2_mod (de_callTy call_intA s1_int (by rfl) T.z_int DL.b_int (da_cons (de_op op_mulA s2_mulA (de_op op_addL s2_addL (de_ix de_name de_int) de_int) de_int) da_nil)) de_int))
    (dss_cons (ds_set C.nd (de_op op_mod s2_mod (de_callTy call_intA s1_int (by rfl) T.z_int DL.b_int (da_cons (de_op op_mulA s2_mulA (de_op op_mod s2_mod (de_callTy call_intA s1_int (by rfl) T.z_int DL.b_int (da_cons (de_op op_mulA s2_mulA de_name de_name) da_nil)) de_int) de_int) da_nil)) de_int))
    (dss_one (ds_ret (de_op op_mod s2_mod (de_callTy call_intA s1_int (by rfl) T.z_int DL.b_int (da_cons (de_op op_fdiv s2_div de_name de_int) da_nil)) de_name)))))))
set_option maxHeartbeats 0 in
theorem f__law_some (T : Txt K mg) {f : Addr} {fd : FuncData} (F : Fun K "_law_some" "_law_some" s__law_some f fd) (G__law_take : Ce P w K mg base "_law_take" 1 ["bag", "many"] d__law_take) : FnG P w K mg base 2 f fd ["bag", "things"] d__law_some :=
  fn_D (k := 1) F sc__law_some fun cdv A outer s H E C => (dss_one (ds_ret (de_ix de_name (de_ce G__law_take C (by decide) (by rfl) (da_cons de_name (da_cons (de_callB call_len s1_len (by rfl) T.z_len DL.b_len (da_cons de_name da_nil)) da_nil))))))
set_option maxHeartbeats 0 in
theorem f__law_drawn_set (T : Txt K mg) {f : Addr} {fd : FuncData} (F : Fun K "_law_drawn_set" "_law_drawn_set" s__law_drawn_set f fd) (G__law_some : Ce P w K mg base "_law_some" 2 ["bag", "things"] d__law_some) (G__law_take : Ce P w K mg base "_law_take" 1 ["bag", "many"] d__law_take) : FnG P w K mg base 3 f fd ["bag"] d__law_drawn_set :=
  fn_D (k := 2) F sc__law_drawn_set fun cdv A outer s H E C => (dss_cons (ds_parT C (dm_dat (de_ce G__law_some C (by decide) (by rfl) (da_cons de_name (da_cons (de_new (dn_lst (da_cons de_int (da_cons de_int (da_cons de_int (da_cons de_int (da_cons de_int da_nil))))))) da_nil))) (dm_dat (de_ce G__law_some C (by decide) (by rfl) (da_cons de_name (da_cons (de_new (dn_lst (da_cons de_int (da_cons de_int (da_cons de_int (da_cons de_int (da_cons de_int (da_cons de_int (da_cons de_int da_nil))))))))) da_nil))) dm_nil)) (.cons (by rfl) (by first | exact Or.inl rfl | exact Or.inr rfl) (by first | exact .inl rfl | exact .inr rfl) (by rfl) (.cons (by rfl) (by first | exact Or.inl rfl | exact Or.inr rfl) (by first | exact .inl rfl | exact .inr rfl) (by rfl) .nil)))
    (dss_cons (ds_set C.nd (de_callTy call_tuple_of s1_tuple (by rfl) T.z_tuple DL.b_tuple (da_cons (de_new (dn_lc C (own := [("at", 7)]) (di_range1 (by rfl) T.z_range (da_cons de_name da_nil)) (blkOk_by (by kernel_rfl)) (by decide) (fun _ _ _ _ _ => (dg_name C.blk.nd)) (fun _ _ _ _ _ => (dts_one (dt_cmp (op_eqA C.blk.rm) s2_eqA (de_ce G__law_take C.blk (by decide) (by rfl) (da_cons de_name (da_cons de_int da_nil))) de_int (by rfl)))) (fun _ _ _ _ _ => de_name))) da_nil)))
    (dss_cons (ds_par2 C (dm_new (dn_lst da_nil) (dm_dat (de_ce G__law_some C (by decide) (by rfl) (da_cons de_name (da_cons (de_new (dn_lc C (own := [("few", 8)]) (di_range2 (by rfl) T.z_range (da_cons de_int (da_cons (de_op op_addL s2_addL de_name de_int) da_nil))) (blkOk_by (by kernel_rfl)) (by decide) (fun _ _ _ _ _ => (dg_name C.blk.nd)) (fun _ _ _ _ _ => (dts_one (dt_cmp (op_eqA C.blk.rm) s2_eqA (de_op op_mod s2_mod (de_callTy call_intA s1_int (by rfl) T.z_int DL.b_int (da_cons de_name da_nil)) de_name) de_int (by rfl)))) (fun _ _ _ _ _ => de_name))) da_nil))) dm_nil)))
    (dss_cons (ds_setLcD C (own := [("at", 7)]) (di_range1 (by rfl) T.z_range (da_cons de_name da_nil)) (blkOk_by (by kernel_rfl)) (by decide) (fun _ _ _ _ _ => (dg_name C.blk.nd)) (fun _ _ _ _ _ => (dts_one (dt_cmp (op_eqA C.blk.rm) s2_eqA (de_ce G__law_take C.blk (by decide) (by rfl) (da_cons de_name (da_cons de_int da_nil))) de_int (by rfl)))) (fun _ _ _ _ _ => de_name))
    (dss_cons (ds_for C (di_range1 (by rfl) T.z_range (da_cons de_name da_nil)) (dg_name C.nd) (dss_one (ds_setNew C.nd (dn_op op_catL s2n_cat de_name (de_op op_mulA s2_mulA (de_new (dn_lst (da_cons de_name da_nil))) (de_callTy call_intA s1_int (by rfl) T.z_int DL.b_int (da_cons (de_cmp (op_inC C.rm) s2_inC (de_op op_mod s2_mod (de_callTy call_intA s1_int (by rfl) T.z_int DL.b_int (da_cons de_name da_nil)) de_name) de_name (by rfl)) da_nil)))))))
    (dss_cons (ds_if (DW.dt (dw_and (dt_cmp (op_eqA C.rm) s2_eqA (de_ce G__law_take C (by decide) (by rfl) (da_cons de_name (da_cons de_int da_nil))) de_int (by rfl)) (dw_and1 (dt_cmp (op_neA C.rm) s2_neA de_name (de_new (dn_lst da_nil)) (by rfl))))) (dss_one (ds_expr (de_mut PySem.F.slot_list_pop PySem.F.type_list_pop mt_popAt sm_popAt (da_cons (de_ce G__law_take C (by decide) (by rfl) (da_cons de_name (da_cons (de_callB call_len s1_len (by rfl) T.z_len DL.b_len (da_cons de_name da_nil)) da_nil))) da_nil)))) dss_nil)
    (dss_one (ds_ret (de_tup (da_cons de_name (da_cons de_name (da_cons de_name (da_cons (de_callTy call_tuple_of s1_tuple (by rfl) T.z_tuple DL.b_tuple (da_cons de_name da_nil)) da_nil)))))))))))))
set_option maxHeartbeats 0 in
theorem f__law_in (T : Txt K mg) {f : Addr} {fd : FuncData} (F : Fun K "_law_in" "_law_in" s__law_in f fd) : FnG P w K mg base 1 f fd ["sizes", "number"] d__law_in :=
  fn_D (k := 0) F sc__law_in fun cdv A outer s H E C => (dss_cons (ds_asg de_name (dg_tup C.calm (dgs_cons (dg_name C.nd) (dgs_cons (dg_name C.nd) (dgs_cons (dg_name C.nd) (dgs_cons (dg_name C.nd) dgs_nil))))))
    (dss_one (ds_ret (de_if (dt_cmp op_ltA s2_lt de_name de_name (by rfl)) (de_cmp (op_inC C.rm) s2_inC de_name de_name (by rfl)) (de_cmp (op_inC C.rm) s2_inC (de_op op_mod s2_mod (de_callTy call_intA s1_int (by rfl) T.z_int DL.b_int (da_cons de_name da_nil)) de_name) de_name (by rfl))))))
set_option maxHeartbeats 0 in
theorem f__law_least (T : Txt K mg) {f : Addr} {fd : FuncData} (F : Fun K "_law_least" "_law_least" s__law_least f fd) (G__law_in : Ce P w K mg base "_law_in" 1 ["sizes", "number"] d__law_in) : FnG P w K mg base 2 f fd ["sizes"] d__law_least :=
  fn_D (k := 1) F sc__law_least fun cdv A outer s H E C => (dss_cons (ds_asg de_name (dg_tup C.calm (dgs_cons (dg_name C.nd) (dgs_cons (dg_name C.nd) (dgs_cons (dg_name C.nd) (dgs_cons (dg_name C.nd) dgs_nil))))))
    (dss_cons (ds_set C.nd (de_new (dn_lc C (own := [("at", 10)]) (di_range1 (by rfl) T.z_range (da_cons (de_op op_mulA s2_mulA de_int de_name) da_nil)) (blkOk_by (by kernel_rfl)) (by decide) (fun _ _ _ _ _ => (dg_name C.blk.nd)) (fun _ _ _ _ _ => dts_nil) (fun _ _ _ _ _ => (de_cmp (op_inC C.blk.rm) s2_inC (de_op op_mod s2_mod (de_callTy call_intA s1_int (by rfl) T.z_int DL.b_int (da_cons (de_op op_addL s2_addL de_name de_name) da_nil)) de_name) de_name (by rfl))))))
    (dss_cons (ds_set C.nd (de_ix (de_new (dn_lc C (own := [("few", 11)]) (di_range2 (by rfl) T.z_range (da_cons de_int (da_cons (de_op op_addL s2_addL de_name de_int) da_nil))) (blkOk_by (by kernel_rfl)) (by decide) (fun _ _ _ _ _ => (dg_name C.blk.nd)) (fun _ _ _ _ _ => (dts_one (DW.dt (dw_and (dt_cmp (op_eqA C.blk.rm) s2_eqA (de_op op_mod s2_mod (de_callTy call_intA s1_int (by rfl) T.z_int DL.b_int (da_cons de_name da_nil)) de_name) de_int (by rfl)) (dw_and1 (dt_cmp (op_eqA C.blk.rm) s2_eqA (de_sl de_name (do_some de_name) do_none) (de_sl de_name do_none (do_some (de_op op_sub s2_sub (de_callB call_len s1_len (by rfl) T.z_len DL.b_len (da_cons de_name da_nil)) de_name))) (by rfl))))))) (fun _ _ _ _ _ => de_name))) de_int))
    (dss_cons (ds_set C.nd de_name)
    (dss_cons (ds_while C fuel (DW.dt (dw_and (dt_cmp op_gtA s2_gt de_name de_int (by rfl)) (dw_and1 (dt_cmp (op_eqA C.rm) s2_eqA (de_ce G__law_in C (by decide) (by rfl) (da_cons de_name (da_cons (de_op op_sub s2_sub de_name de_int) da_nil))) (de_ce G__law_in C (by decide) (by rfl) (da_cons de_name (da_cons (de_op op_addL s2_addL (de_op op_sub s2_sub de_name de_int) de_name) da_nil))) (by rfl))))) (dss_one (ds_aug C.nd ip_sub s2_isub de_int)))
    (dss_cons (ds_set C.nd (de_callTy call_tuple_of s1_tuple (by rfl) T.z_tuple DL.b_tuple (da_cons (de_new (dn_lc C (own := [("at", 10)]) (di_range1 (by rfl) T.z_range (da_cons de_name da_nil)) (blkOk_by (by kernel_rfl)) (by decide) (fun _ _ _ _ _ => (dg_name C.blk.nd)) (fun _ _ _ _ _ => (dts_one (dt_truth (de_ce G__law_in C.blk (by decide) (by rfl) (da_cons de_name (da_cons de_name da_nil)))))) (fun _ _ _ _ _ => de_name))) da_nil)))
    (dss_cons (ds_set C.nd (de_callTy call_tuple_of s1_tuple (by rfl) T.z_tuple DL.b_tuple (da_cons (de_new (dn_ssetA C.calm (by rfl) T.z_sorted (by rfl) T.z_set DL.b_sorted DL.b_set (de_new (dn_lc C (own := [("at", 10)]) (di_range1 (by rfl) T.z_range (da_cons de_name da_nil)) (blkOk_by (by kernel_rfl)) (by decide) (fun _ _ _ _ _ => (dg_name C.blk.nd)) (fun _ _ _ _ _ => (dts_one (dt_truth (de_ce G__law_in C.blk (by decide) (by rfl) (da_cons de_name (da_cons (de_op op_addL s2_addL de_name de_name) da_nil)))))) (fun _ _ _ _ _ => (de_op op_mod s2_mod (de_callTy call_intA s1_int (by rfl) T.z_int DL.b_int (da_cons (de_op op_addL s2_addL de_name de_name) da_nil)) de_name)))))) da_nil)))
    (dss_one (ds_ret (de_tup (da_cons de_name (da_cons de_name (da_cons de_name (da_cons de_name da_nil))))))))))))))
set_option maxHeartbeats 0 in
theorem f__law_alike (T : Txt K mg) {f : Addr} {fd : FuncData} (F : Fun K "_law_alike" "_law_alike" s__law_alike f fd) : FnG P w K mg base 1 f fd ["found", "due"] d__law_alike :=
  fn_D (k := 0) F sc__law_alike fun cdv A outer s H E C => (dss_one (ds_ret (de_and (de_cmp (op_eqA C.rm) s2_eqA (de_callB (call_reprA C) s1_reprA (by rfl) T.z_repr DL.b_repr (da_cons de_name da_nil)) (de_callB (call_reprA C) s1_reprA (by rfl) T.z_repr DL.b_repr (da_cons de_name da_nil)) (by rfl)) (de_one (de_cmp (op_eqA C.rm) s2_eqA de_name de_name (by rfl))))))
set_option maxHeartbeats 0 in
theorem f__law_bent (T : Txt K mg) {f : Addr} {fd : FuncData} (F : Fun K "_law_bent" "_law_bent" s__law_bent f fd) (G__law_take : Ce P w K mg base "_law_take" 1 ["bag", "many"] d__law_take) (G__law_some : Ce P w K mg base "_law_some" 2 ["bag", "things"] d__law_some) (G__law_in : Ce P w K mg base "_law_in" 1 ["sizes", "number"] d__law_in) : FnG P w K mg base 3 f fd ["bag", "sizes"] d__law_bent :=
  fn_D (k := 2) F sc__law_bent fun cdv A outer s H E C => (dss_cons (ds_set C.nd (de_ce G__law_take C (by decide) (by rfl) (da_cons de_name (da_cons de_int da_nil))))
    (dss_cons (ds_asg de_name (dg_tup C.calm (dgs_cons (dg_name C.nd) (dgs_cons (dg_name C.nd) (dgs_cons (dg_name C.nd) (dgs_cons (dg_name C.nd) dgs_nil))))))
    (dss_cons (ds_if (dt_cmp (op_eqA C.rm) s2_eqA de_name de_int (by rfl)) (dss_one (ds_ret (de_ce G__law_some C (by decide) (by rfl) (da_cons de_name (da_cons (de_new (dn_lst (da_cons de_none (da_cons (de_tup da_nil) (da_cons (de_new (dn_callTy (call_listA C.calm) s1n_list (by rfl) T.z_list DL.b_list (da_cons de_name da_nil))) (da_cons (de_sl de_name do_none (do_some de_int)) (da_cons (de_op op_addL s2_addL de_name (de_tup (da_cons de_int da_nil))) (da_cons de_str (da_cons de_bool (da_cons (de_new dn_dict0) da_nil)))))))))) da_nil))))) dss_nil)
    (dss_cons (ds_if (dt_cmp (op_eqA C.rm) s2_eqA de_name de_int (by rfl)) (dss_one (ds_ret (de_tup (da_cons (de_ce G__law_some C (by decide) (by rfl) (da_cons de_name (da_cons (de_new (dn_lst (da_cons (de_op op_addL s2_addL de_name de_int) (da_cons (de_neg de_int) (da_cons de_bool (da_cons de_none (da_cons de_str da_nil))))))) da_nil))) (da_cons de_name (da_cons de_name (da_cons de_name da_nil))))))) dss_nil)
    (dss_cons (ds_if (dt_cmp (op_eqA C.rm) s2_eqA de_name de_int (by rfl)) (dss_one (ds_ret (de_tup (da_cons de_name (da_cons de_name (da_cons (de_ce G__law_some C (by decide) (by rfl) (da_cons de_name (da_cons (de_new (dn_lst (da_cons de_int (da_cons (de_op op_mulA s2_mulA de_int de_name) (da_cons (de_neg de_int) (da_cons de_bool (da_cons de_none da_nil))))))) da_nil))) (da_cons de_name da_nil))))))) dss_nil)
    (dss_cons (ds_if (dt_cmp (op_eqA C.rm) s2_eqA de_name de_int (by rfl)) (dss_cons (ds_set C.nd (de_new (dn_lst (da_cons (de_rev de_name) (da_cons (de_new (dn_callTy (call_listA C.calm) s1n_list (by rfl) T.z_list DL.b_list (da_cons de_name da_nil))) (da_cons (de_op op_addL s2_addL de_name (de_tup (da_cons de_name da_nil))) (da_cons (de_op op_addL s2_addL de_name (de_tup (da_cons de_int da_nil))) (da_cons de_none (da_cons (de_tup (da_cons de_bool da_nil)) (da_cons (de_op op_addL s2_addL de_name (de_tup (da_cons de_none da_nil))) (da_cons (de_op op_addL s2_addL de_name (de_tup (da_cons (de_new (dn_lst da_nil)) da_nil))) da_nil)))))))))))
    (dss_one (ds_ret (de_tup (da_cons de_name (da_cons (de_ce G__law_some C (by decide) (by rfl) (da_cons de_name (da_cons de_name da_nil))) (da_cons de_name (da_cons de_name da_nil)))))))) dss_nil)
    (dss_cons (ds_if (dt_cmp (op_eqA C.rm) s2_eqA de_name de_int (by rfl)) (dss_cons (ds_set C.nd (de_new (dn_lst (da_cons (de_rev de_name) (da_cons (de_new (dn_callTy (call_listA C.calm) s1n_list (by rfl) T.z_list DL.b_list (da_cons de_name da_nil))) (da_cons (de_op op_addL s2_addL de_name (de_tup (da_cons de_name da_nil))) (da_cons (de_tup (da_cons (de_neg de_int) da_nil)) (da_cons de_none (da_cons (de_tup (da_cons de_bool da_nil)) (da_cons (de_op op_addL s2_addL de_name (de_tup (da_cons de_str da_nil))) da_nil))))))))))
    (dss_one (ds_ret (de_tup (da_cons de_name (da_cons de_name (da_cons de_name (da_cons (de_ce G__law_some C (by decide) (by rfl) (da_cons de_name (da_cons de_name da_nil))) da_nil)))))))) dss_nil)
    (dss_cons (ds_if (dt_cmp (op_eqA C.rm) s2_eqA de_name de_int (by rfl)) (dss_one (ds_ret (de_tup (da_cons de_name (da_cons de_name (da_cons (de_op op_mulA s2_mulA de_int de_name) (da_cons (de_op op_addL s2_addL de_name (de_callTy call_tuple_of s1_tuple (by rfl) T.z_tuple DL.b_tuple (da_cons (de_new (dn_lc C (own := [("at", 8)]) (di_seq de_name) (blkOk_by (by kernel_rfl)) (by decide) (fun _ _ _ _ _ => (dg_name C.blk.nd)) (fun _ _ _ _ _ => dts_nil) (fun _ _ _ _ _ => (de_op op_addL s2_addL de_name de_name)))) da_nil))) da_nil))))))) dss_nil)
    (dss_one (ds_ret (de_tup (da_cons (de_op op_addL s2_addL de_name de_name) (da_cons (de_callTy call_tuple_of s1_tuple (by rfl) T.z_tuple DL.b_tuple (da_cons (de_new (dn_lc C (own := [("at", 8)]) (di_range1 (by rfl) T.z_range (da_cons (de_op op_addL s2_addL de_name de_name) da_nil)) (blkOk_by (by kernel_rfl)) (by decide) (fun _ _ _ _ _ => (dg_name C.blk.nd)) (fun _ _ _ _ _ => (dts_one (dt_truth (de_ce G__law_in C.blk (by decide) (by rfl) (da_cons de_name (da_cons de_name da_nil)))))) (fun _ _ _ _ _ => de_name))) da_nil)) (da_cons de_name (da_cons de_name da_nil)))))))))))))))
set_option maxHeartbeats 0 in
theorem f__law_is_whole (T : Txt K mg) {f : Addr} {fd : FuncData} (F : Fun K "_law_is_whole" "_law_is_whole" s__law_is_whole f fd) : FnG P w K mg base 1 f fd ["thing"] d__law_is_whole :=
  fn_D (k := 0) F sc__law_is_whole fun cdv A outer s H E C => (dss_one (ds_ret (de_and (de_isi de_name (by rfl) T.z_isinstance (by rfl) T.z_int DL.b_int kit_int) (de_one (de_not (de_isi de_name (by rfl) T.z_isinstance (by rfl) T.z_bool DL.b_bool kit_bool))))))
set_option maxHeartbeats 0 in
theorem f__law_is_form (T : Txt K mg) {f : Addr} {fd : FuncData} (F : Fun K "_law_is_form" "_law_is_form" s__law_is_form f fd) (G__law_is_whole : Ce P w K mg base "_law_is_whole" 1 ["thing"] d__law_is_whole) : FnG P w K mg base 2 f fd ["thing"] d__law_is_form :=
  fn_D (k := 1) F sc__law_is_form fun cdv A outer s H E C => (dss_cons (ds_if (DW.dt (dw_or (dt_not (dt_truth (de_isi de_name (by rfl) T.z_isinstance (by rfl) T.z_tuple DL.b_tuple kit_tuple))) (dw_or1 (dt_cmp (op_neA C.rm) s2_neA (de_callB call_len s1_len (by rfl) T.z_len DL.b_len (da_cons de_name da_nil)) de_int (by rfl))))) (dss_one (ds_ret de_bool)) dss_nil)
    (dss_cons (ds_asg de_name (dg_tup C.calm (dgs_cons (dg_name C.nd) (dgs_cons (dg_name C.nd) (dgs_cons (dg_name C.nd) (dgs_cons (dg_name C.nd) dgs_nil))))))
    (dss_cons (ds_if (DW.dt (dw_or (dt_not (dt_truth (de_ce G__law_is_whole C (by decide) (by rfl) (da_cons de_name da_nil)))) (dw_or (dt_not (dt_truth (de_ce G__law_is_whole C (by decide) (by rfl) (da_cons de_name da_nil)))) (dw_or (dt_cmp op_ltA s2_lt de_name de_int (by rfl)) (dw_or1 (dt_cmp op_ltA s2_lt de_name de_int (by rfl))))))) (dss_one (ds_ret de_bool)) dss_nil)
    (dss_cons (ds_for C (di_seq (de_tup (da_cons (de_tup (da_cons de_name (da_cons de_name da_nil))) (da_cons (de_tup (da_cons de_name (da_cons de_name da_nil))) da_nil)))) (dg_tup C.calm (dgs_cons (dg_name C.nd) (dgs_cons (dg_name C.nd) dgs_nil))) (dss_cons (ds_if (DW.dt (dw_or (dt_not (dt_truth (de_isi de_name (by rfl) T.z_isinstance (by rfl) T.z_tuple DL.b_tuple kit_tuple))) (dw_or1 (dt_cmp (op_neA C.rm) s2_neA (de_new (dn_lc C (own := [("one", 7)]) (di_seq de_name) (blkOk_by (by kernel_rfl)) (by decide) (fun _ _ _ _ _ => (dg_name C.blk.nd)) (fun _ _ _ _ _ => (dts_one (dt_not (dt_truth (de_ce G__law_is_whole C.blk (by decide) (by rfl) (da_cons de_name da_nil)))))) (fun _ _ _ _ _ => de_int))) (de_new (dn_lst da_nil)) (by rfl))))) (dss_one (ds_ret de_bool)) dss_nil)
    (dss_one (ds_if (DW.dt (dw_or (dt_cmp (op_neA C.rm) s2_neA (de_new (dn_callTy (call_listA C.calm) s1n_list (by rfl) T.z_list DL.b_list (da_cons de_name da_nil))) (de_new (dn_ssetA C.calm (by rfl) T.z_sorted (by rfl) T.z_set DL.b_sorted DL.b_set de_name)) (by rfl)) (dw_or1 (dt_cmp (op_neA C.rm) s2_neA (de_new (dn_lc C (own := [("one", 7)]) (di_seq de_name) (blkOk_by (by kernel_rfl)) (by decide) (fun _ _ _ _ _ => (dg_name C.blk.nd)) (fun _ _ _ _ _ => (dts_one (dt_not (dt_chain op_leA op_ltA s2_le s2_lt de_int de_name de_name)))) (fun _ _ _ _ _ => de_int))) (de_new (dn_lst da_nil)) (by rfl))))) (dss_one (ds_ret de_bool)) dss_nil))))
    (dss_one (ds_ret de_bool))))))
set_option maxHeartbeats 0 in
theorem f_has (T : Txt K mg) {f : Addr} {fd : FuncData} (F : Fun K "has" "has" s_has f fd) : FnG P w K mg base 1 f fd ["sizes", "number"] d_has :=
  fn_D (k := 0) F sc_has fun cdv A outer s H E C => (dss_cons (ds_asg de_name (dg_tup C.calm (dgs_cons (dg_name C.nd) (dgs_cons (dg_name C.nd) (dgs_cons (dg_name C.nd) (dgs_cons (dg_name C.nd) dgs_nil))))))
    (dss_one (ds_ret (de_if (dt_cmp op_ltA s2_lt de_name de_name (by rfl)) (de_cmp (op_inC C.rm) s2_inC de_name de_name (by rfl)) (de_cmp (op_inC C.rm) s2_inC (de_op op_mod s2_mod de_name de_name) de_name (by rfl))))))
set_option maxHeartbeats 0 in
theorem f_least_period (T : Txt K mg) {f : Addr} {fd : FuncData} (F : Fun K "least_period" "least_period" s_least_period f fd) : FnG P w K mg base 1 f fd ["period", "rests"] d_least_period :=
  fn_D (k := 0) F sc_least_period fun cdv A outer s H E C => (dss_cons (ds_parT C (dm_dat (de_new (dn_dc C (own := [("rest", 6)]) (di_seq de_name) (blkOk_by (by kernel_rfl)) (by decide) (fun _ _ _ _ _ => (dg_name C.blk.nd)) (fun _ _ _ _ _ => dts_nil) (fun _ _ _ _ _ => de_name) (fun _ _ _ _ _ => de_bool))) (dm_dat (de_callB call_len s1_len (by rfl) T.z_len DL.b_len (da_cons de_name da_nil)) dm_nil)) (.cons (by rfl) (by first | exact Or.inl rfl | exact Or.inr rfl) (by first | exact .inl rfl | exact .inr rfl) (by rfl) (.cons (by rfl) (by first | exact Or.inl rfl | exact Or.inr rfl) (by first | exact .inl rfl | exact .inr rfl) (by rfl) .nil)))
    (dss_cons (ds_if (dt_cmp (op_eqA C.rm) s2_eqA de_name de_int (by rfl)) (dss_one (ds_ret de_int)) dss_nil)
    (dss_cons (ds_for C (di_range3 (by rfl) T.z_range (da_cons de_name (da_cons de_int (da_cons (de_neg de_int) da_nil)))) (dg_name C.nd) (dss_cons (ds_set C.nd (de_op op_fdiv s2_div de_name de_name))
    (dss_one (ds_if (DW.dt (dw_and (dt_cmp (op_eqA C.rm) s2_eqA (de_op op_mod s2_mod de_name de_name) de_int (by rfl)) (dw_and (dt_cmp (op_eqA C.rm) s2_eqA (de_op op_mod s2_mod de_name de_name) de_int (by rfl)) (dw_and1 (dt_truth (de_callB (cr_all C.calm) s1_all (by rfl) T.z_all DL.b_all (da_cons (de_new (dn_lc C (own := [("rest", 6)]) (di_seq de_name) (blkOk_by (by kernel_rfl)) (by decide) (fun _ _ _ _ _ => (dg_name C.blk.nd)) (fun _ _ _ _ _ => dts_nil) (fun _ _ _ _ _ => (de_cmp (op_inC C.blk.rm) s2_inC (de_op op_mod s2_mod (de_op op_addL s2_addL de_name de_name) de_name) de_name (by rfl))))) da_nil))))))) (dss_one (ds_ret de_name)) dss_nil))))
    (dss_one (ds_ret de_name)))))
set_option maxHeartbeats 0 in
theorem f_last_untold (T : Txt K mg) {f : Addr} {fd : FuncData} (F : Fun K "last_untold" "last_untold" s_last_untold f fd) : FnG P w K mg base 1 f fd ["bound", "told", "period", "rests"] d_last_untold :=
  fn_D (k := 0) F sc_last_untold fun cdv A outer s H E C => (dss_cons (ds_parT C (dm_dat (de_new (dn_dc C (own := [("number", 7)]) (di_seq de_name) (blkOk_by (by kernel_rfl)) (by decide) (fun _ _ _ _ _ => (dg_name C.blk.nd)) (fun _ _ _ _ _ => dts_nil) (fun _ _ _ _ _ => de_name) (fun _ _ _ _ _ => de_bool))) (dm_dat (de_op op_fdiv s2_div de_name de_name) dm_nil)) (.cons (by rfl) (by first | exact Or.inl rfl | exact Or.inr rfl) (by first | exact .inl rfl | exact .inr rfl) (by rfl) (.cons (by rfl) (by first | exact Or.inl rfl | exact Or.inr rfl) (by first | exact .inl rfl | exact .inr rfl) (by rfl) .nil)))
    (dss_cons (ds_while C fuel (DW.dt (dw_and (dt_cmp (op_neA C.rm) s2_neA de_name (de_tup da_nil) (by rfl)) (dw_and1 (dt_cmp op_geA s2_ge de_name de_int (by rfl))))) (dss_cons (ds_setLcD C (own := [("rest", 8)]) (di_seq de_name) (blkOk_by (by kernel_rfl)) (by decide) (fun _ _ _ _ _ => (dg_name C.blk.nd)) (fun _ _ _ _ _ => dts_nil) (fun _ _ _ _ _ => (de_op op_addL s2_addL (de_op op_mulA s2_mulA de_name de_name) de_name)))
    (dss_cons (ds_setLcD C (own := [("number", 7)]) (di_seq de_name) (blkOk_by (by kernel_rfl)) (by decide) (fun _ _ _ _ _ => (dg_name C.blk.nd)) (fun _ _ _ _ _ => (dts_one (DW.dt (dw_and (dt_cmp op_ltA s2_lt de_name de_name (by rfl)) (dw_and1 (dt_cmp (op_notInC C.blk.rm) s2_notInC de_name de_name (by rfl))))))) (fun _ _ _ _ _ => de_name))
    (dss_cons (ds_if (dt_cmp (op_neA C.rm) s2_neA de_name (de_new (dn_lst da_nil)) (by rfl)) (dss_one (ds_ret (de_ix de_name (de_neg de_int)))) dss_nil)
    (dss_one (ds_aug C.nd ip_sub s2_isub de_int))))))
    (dss_one (ds_ret (de_neg de_int)))))
set_option maxHeartbeats 0 in
theorem f_least_set (T : Txt K mg) {f : Addr} {fd : FuncData} (F : Fun K "least_set" "least_set" s_least_set f fd) (G_least_period : Ce P w K mg base "least_period" 1 ["period", "rests"] d_least_period) (G_last_untold : Ce P w K mg base "last_untold" 1 ["bound", "told", "period", "rests"] d_last_untold) : FnG P w K mg base 2 f fd ["thing"] d_least_set :=
  fn_D (k := 1) F sc_least_set fun cdv A outer s H E C => (dss_cons (ds_asg de_name (dg_tup C.calm (dgs_cons (dg_name C.nd) (dgs_cons (dg_name C.nd) (dgs_cons (dg_name C.nd) (dgs_cons (dg_name C.nd) dgs_nil))))))
    (dss_cons (ds_set C.nd (de_new (dn_dc C (own := [("rest", 9)]) (di_seq de_name) (blkOk_by (by kernel_rfl)) (by decide) (fun _ _ _ _ _ => (dg_name C.blk.nd)) (fun _ _ _ _ _ => dts_nil) (fun _ _ _ _ _ => de_name) (fun _ _ _ _ _ => de_bool))))
    (dss_cons (ds_set C.nd (de_callB (cr_max C.calm) s1_max (by rfl) T.z_max DL.b_max (da_cons (de_op op_addL s2_addL (de_new (dn_lst (da_cons (de_neg de_int) (da_cons (de_ce G_last_untold C (by decide) (by rfl) (da_cons de_name (da_cons de_name (da_cons de_name (da_cons de_name da_nil))))) da_nil)))) (de_new (dn_lc C (own := [("one", 10)]) (di_seq de_name) (blkOk_by (by kernel_rfl)) (by decide) (fun _ _ _ _ _ => (dg_name C.blk.nd)) (fun _ _ _ _ _ => (dts_one (dt_cmp (op_notInC C.blk.rm) s2_notInC (de_op op_mod s2_mod de_name de_name) de_name (by rfl)))) (fun _ _ _ _ _ => de_name)))) da_nil)))
    (dss_cons (ds_set C.nd (de_ce G_least_period C (by decide) (by rfl) (da_cons de_name (da_cons de_name da_nil))))
    (dss_cons (ds_set C.nd (de_callTy call_tuple_of s1_tuple (by rfl) T.z_tuple DL.b_tuple (da_cons (de_new (dn_lc C (own := [("number", 11)]) (di_seq de_name) (blkOk_by (by kernel_rfl)) (by decide) (fun _ _ _ _ _ => (dg_name C.blk.nd)) (fun _ _ _ _ _ => (dts_one (dt_cmp op_leA s2_le de_name de_name (by rfl)))) (fun _ _ _ _ _ => de_name))) da_nil)))
    (dss_one (ds_ret (de_tup (da_cons (de_op op_addL s2_addL de_name de_int) (da_cons de_name (da_cons de_name (da_cons (de_callTy call_tuple_of s1_tuple (by rfl) T.z_tuple DL.b_tuple (da_cons (de_new (dn_lc C (own := [("rest", 9)]) (di_seq de_name) (blkOk_by (by kernel_rfl)) (by decide) (fun _ _ _ _ _ => (dg_name C.blk.nd)) (fun _ _ _ _ _ => (dts_one (dt_cmp op_ltA s2_lt de_name de_name (by rfl)))) (fun _ _ _ _ _ => de_name))) da_nil)) da_nil))))))))))))
set_option maxHeartbeats 0 in
theorem f_is_rising (T : Txt K mg) {f : Addr} {fd : FuncData} (F : Fun K "is_rising" "is_rising" s_is_rising f fd) : FnG P w K mg base 1 f fd ["numbers"] d_is_rising :=
  fn_D (k := 0) F sc_is_rising fun cdv A outer s H E C => (dss_one (ds_ret (de_callB (cr_all C.calm) s1_all (by rfl) T.z_all DL.b_all (da_cons (de_new (dn_lc C (own := [("one", 1), ("other", 2)]) (di_zip (by rfl) T.z_zip (da_cons de_name (da_cons (de_sl de_name (do_some de_int) do_none) da_nil))) (blkOk_by (by kernel_rfl)) (by decide) (fun _ _ _ _ _ => (dg_tup C.blk.calm (dgs_cons (dg_name C.blk.nd) (dgs_cons (dg_name C.blk.nd) dgs_nil)))) (fun _ _ _ _ _ => dts_nil) (fun _ _ _ _ _ => (de_cmp op_ltA s2_lt de_name de_name (by rfl))))) da_nil))))
set_option maxHeartbeats 0 in
theorem f_is_integer (T : Txt K mg) {f : Addr} {fd : FuncData} (F : Fun K "is_integer" "is_integer" s_is_integer f fd) : FnG P w K mg base 1 f fd ["thing"] d_is_integer :=
  fn_D (k := 0) F sc_is_integer fun cdv A outer s H E C => (dss_one (ds_ret (de_and (de_isi de_name (by rfl) T.z_isinstance (by rfl) T.z_int DL.b_int kit_int) (de_one (de_not (de_isi de_name (by rfl) T.z_isinstance (by rfl) T.z_bool DL.b_bool kit_bool))))))
set_option maxHeartbeats 0 in
theorem f_are_below (T : Txt K mg) {f : Addr} {fd : FuncData} (F : Fun K "are_below" "are_below" s_are_below f fd) (G_is_rising : Ce P w K mg base "is_rising" 1 ["numbers"] d_is_rising) (G_is_integer : Ce P w K mg base "is_integer" 1 ["thing"] d_is_integer) : FnG P w K mg base 2 f fd ["numbers", "bound"] d_are_below :=
  fn_D (k := 1) F sc_are_below fun cdv A outer s H E C => (dss_cons (ds_if (DW.dt (dw_or (dt_not (dt_truth (de_isi de_name (by rfl) T.z_isinstance (by rfl) T.z_tuple DL.b_tuple kit_tuple))) (dw_or1 (dt_not (dt_truth (de_callB (cr_all C.calm) s1_all (by rfl) T.z_all DL.b_all (da_cons (de_new (dn_lc C (own := [("number", 2)]) (di_seq de_name) (blkOk_by (by kernel_rfl)) (by decide) (fun _ _ _ _ _ => (dg_name C.blk.nd)) (fun _ _ _ _ _ => dts_nil) (fun _ _ _ _ _ => (de_ce G_is_integer C.blk (by decide) (by rfl) (da_cons de_name da_nil))))) da_nil))))))) (dss_one (ds_ret de_bool)) dss_nil)
    (dss_one (ds_ret (de_and (de_ce G_is_rising C (by decide) (by rfl) (da_cons de_name da_nil)) (de_one (de_or (de_cmp (op_eqA C.rm) s2_eqA de_name (de_tup da_nil) (by rfl)) (de_one (de_and (de_cmp op_geA s2_ge (de_ix de_name de_int) de_int (by rfl)) (de_one (de_cmp op_ltA s2_lt (de_ix de_name (de_neg de_int)) de_name (by rfl)))))))))))
set_option maxHeartbeats 0 in
theorem f_is_size_set_form (T : Txt K mg) {f : Addr} {fd : FuncData} (F : Fun K "is_size_set_form" "is_size_set_form" s_is_size_set_form f fd) (G_are_below : Ce P w K mg base "are_below" 2 ["numbers", "bound"] d_are_below) (G_is_integer : Ce P w K mg base "is_integer" 1 ["thing"] d_is_integer) : FnG P w K mg base 3 f fd ["thing"] d_is_size_set_form :=
  fn_D (k := 2) F sc_is_size_set_form fun cdv A outer s H E C => (dss_cons (ds_if (DW.dt (dw_or (dt_not (dt_truth (de_isi de_name (by rfl) T.z_isinstance (by rfl) T.z_tuple DL.b_tuple kit_tuple))) (dw_or (dt_cmp (op_neA C.rm) s2_neA (de_callB call_len s1_len (by rfl) T.z_len DL.b_len (da_cons de_name da_nil)) de_int (by rfl)) (dw_or (dt_not (dt_truth (de_ce G_is_integer C (by decide) (by rfl) (da_cons (de_ix de_name de_int) da_nil)))) (dw_or1 (dt_not (dt_truth (de_ce G_is_integer C (by decide) (by rfl) (da_cons (de_ix de_name de_int) da_nil))))))))) (dss_one (ds_ret de_bool)) dss_nil)
    (dss_one (ds_ret (de_and (de_cmp op_geA s2_ge (de_ix de_name de_int) de_int (by rfl)) (de_and (de_cmp op_geA s2_ge (de_ix de_name de_int) de_int (by rfl)) (de_and (de_ce G_are_below C (by decide) (by rfl) (da_cons (de_ix de_name de_int) (da_cons (de_ix de_name de_int) da_nil))) (de_one (de_ce G_are_below C (by decide) (by rfl) (da_cons (de_ix de_name de_int) (da_cons (de_ix de_name de_int) da_nil))))))))))
set_option maxHeartbeats 0 in
theorem f_is_size_set (T : Txt K mg) {f : Addr} {fd : FuncData} (F : Fun K "is_size_set" "is_size_set" s_is_size_set f fd) (G_is_size_set_form : Ce P w K mg base "is_size_set_form" 3 ["thing"] d_is_size_set_form) (G_least_set : Ce P w K mg base "least_set" 2 ["thing"] d_least_set) : FnG P w K mg base 4 f fd ["thing"] d_is_size_set :=
  fn_D (k := 3) F sc_is_size_set fun cdv A outer s H E C => (dss_one (ds_ret (de_and (de_ce G_is_size_set_form C (by decide) (by rfl) (da_cons de_name da_nil)) (de_one (de_cmp (op_eqA C.rm) s2_eqA (de_ce G_least_set C (by decide) (by rfl) (da_cons de_name da_nil)) de_name (by rfl))))))
set_option maxHeartbeats 0 in
theorem f_law (T : Txt K mg) {f : Addr} {fd : FuncData} (F : Fun K "law" "law" s_law f fd) (G__law_bag : Ce P w K mg base "_law_bag" 1 ["script"] d__law_bag) (G__law_drawn_set : Ce P w K mg base "_law_drawn_set" 3 ["bag"] d__law_drawn_set) (G__law_least : Ce P w K mg base "_law_least" 2 ["sizes"] d__law_least) (G__law_alike : Ce P w K mg base "_law_alike" 1 ["found", "due"] d__law_alike) (G__law_bent : Ce P w K mg base "_law_bent" 3 ["bag", "sizes"] d__law_bent) (G__law_is_form : Ce P w K mg base "_law_is_form" 2 ["thing"] d__law_is_form) (G__law_take : Ce P w K mg base "_law_take" 1 ["bag", "many"] d__law_take) (G_has : Ce P w K mg base "has" 1 ["sizes", "number"] d_has) (G__law_in : Ce P w K mg base "_law_in" 1 ["sizes", "number"] d__law_in) (G__law_some : Ce P w K mg base "_law_some" 2 ["bag", "things"] d__law_some) (G_least_set : Ce P w K mg base "least_set" 2 ["thing"] d_least_set) (G_is_size_set : Ce P w K mg base "is_size_set" 4 ["thing"] d_is_size_set) : FnG P w K mg base 5 f fd ["script"] d_law :=
  fn_D (k := 4) F sc_law fun cdv A outer s H E C => (dss_cons (ds_setNew C.nd (dn_ce G__law_bag C (by decide) (by rfl) (da_cons de_name da_nil)))
    (dss_cons (ds_for C (di_range1 (by rfl) T.z_range (da_cons de_int da_nil)) (dg_name C.nd) (dss_cons (ds_set C.nd (de_ce G__law_drawn_set C (by decide) (by rfl) (da_cons de_name da_nil)))
    (dss_cons (ds_parT C (dm_dat (de_ce G__law_least C (by decide) (by rfl) (da_cons de_name da_nil)) (dm_dat (de_callB (call_reprA C) s1_reprA (by rfl) T.z_repr DL.b_repr (da_cons de_name da_nil)) dm_nil)) (.cons (by rfl) (by first | exact Or.inl rfl | exact Or.inr rfl) (by first | exact .inl rfl | exact .inr rfl) (by rfl) (.cons (by rfl) (by first | exact Or.inl rfl | exact Or.inr rfl) (by first | exact .inl rfl | exact .inr rfl) (by rfl) .nil)))
    (dss_cons (ds_for C (di_range1 (by rfl) T.z_range (da_cons de_int da_nil)) (dg_name C.nd) (dss_one (ds_if (DW.dt (dw_or (dt_not (dt_truth (de_ce G__law_alike C (by decide) (by rfl) (da_cons (de_ce G_least_set C (by decide) (by rfl) (da_cons de_name da_nil)) (da_cons de_name da_nil))))) (dw_or1 (dt_cmp (op_neA C.rm) s2_neA (de_callB (call_reprA C) s1_reprA (by rfl) T.z_repr DL.b_repr (da_cons de_name da_nil)) de_name (by rfl))))) (dss_one (ds_ret de_bool)) dss_nil)))
    (dss_cons (ds_for C (di_seq (de_op op_addL s2_addL (de_new (dn_listRg1 C.calm (by rfl) T.z_list (by rfl) T.z_range de_int)) (de_new (dn_lst (da_cons (de_op op_addL s2_addL (de_op op_pow s2_pow de_int de_int) (de_ce G__law_take C (by decide) (by rfl) (da_cons de_name (da_cons de_int da_nil)))) (da_cons de_int da_nil)))))) (dg_name C.nd) (dss_one (ds_if (dt_not (dt_truth (de_ce G__law_alike C (by decide) (by rfl) (da_cons (de_ce G_has C (by decide) (by rfl) (da_cons de_name (da_cons de_name da_nil))) (da_cons (de_ce G__law_in C (by decide) (by rfl) (da_cons de_name (da_cons de_name da_nil))) da_nil))))) (dss_one (ds_ret de_bool)) dss_nil)))
    (dss_one (ds_for C (di_seq (de_op op_addL s2_addL (de_new (dn_lst (da_cons de_name (da_cons de_name da_nil)))) (de_new (dn_lc C (own := [("more", 11)]) (di_range1 (by rfl) T.z_range (da_cons de_int da_nil)) (blkOk_by (by kernel_rfl)) (by decide) (fun _ _ _ _ _ => (dg_name C.blk.nd)) (fun _ _ _ _ _ => dts_nil) (fun _ _ _ _ _ => (de_ce G__law_bent C.blk (by decide) (by rfl) (da_cons de_name (da_cons (de_ce G__law_some C.blk (by decide) (by rfl) (da_cons de_name (da_cons (de_new (dn_lst (da_cons de_name (da_cons de_name da_nil)))) da_nil))) da_nil)))))))) (dg_name C.nd) (dss_cons (ds_par2 C (dm_dat (de_ce G__law_is_form C (by decide) (by rfl) (da_cons de_name da_nil)) (dm_dat (de_callB (call_reprA C) s1_reprA (by rfl) T.z_repr DL.b_repr (da_cons de_name da_nil)) dm_nil)))
    (dss_cons (ds_set C.nd (de_and de_name (de_one (de_ce G__law_alike C (by decide) (by rfl) (da_cons (de_ce G__law_least C (by decide) (by rfl) (da_cons de_name da_nil)) (da_cons de_name da_nil))))))
    (dss_one (ds_if (DW.dt (dw_or (dt_not (dt_truth (de_ce G__law_alike C (by decide) (by rfl) (da_cons (de_ce G_is_size_set C (by decide) (by rfl) (da_cons de_name da_nil)) (da_cons de_name da_nil))))) (dw_or1 (dt_cmp (op_neA C.rm) s2_neA (de_callB (call_reprA C) s1_reprA (by rfl) T.z_repr DL.b_repr (da_cons de_name da_nil)) de_name (by rfl))))) (dss_one (ds_ret de_bool)) dss_nil)))))))))))
    (dss_one (ds_ret de_bool))))
end
theorem all_mk {l : PySem.W.OpenLaw} {w : World} {K : PySem.W.Frag} {h : Heap} {mg : Str → Option Value} {fa f1 f2 f3 f4 f5 f6 f7 f8 f9 f10 f11 f12 f13 f14 f15 f16 f17 f18 f19 f20 : Addr} (X : K.In h) (G : h.Ns mainGlobals mg) (hfa : mg "law" = some (.ref fa))
    {od1 an1 od2 an2 od3 an3 od4 an4 od5 an5 od6 an6 od7 an7 od8 an8 od9 an9 od10 an10 od11 an11 od12 an12 od13 an13 od14 an14 od15 an15 od16 an16 od17 an17 od18 an18 od19 an19 od20 an20 : Option Addr} {sl1 sl2 sl3 sl4 sl5 sl6 sl7 sl8 sl9 sl10 sl11 sl12 sl13 sl14 sl15 sl16 sl17 sl18 sl19 sl20 : Array (Option Value)} {oc1 kV1 dc1 pm1 cd1 ct1 oc2 kV2 dc2 pm2 cd2 ct2 oc3 kV3 dc3 pm3 cd3 ct3 oc4 kV4 dc4 pm4 cd4 ct4 oc5 kV5 dc5 pm5 cd5 ct5 oc6 kV6 dc6 pm6 cd6 ct6 oc7 kV7 dc7 pm7 cd7 ct7 oc8 kV8 dc8 pm8 cd8 ct8 oc9 kV9 dc9 pm9 cd9 ct9 oc10 kV10 dc10 pm10 cd10 ct10 oc11 kV11 dc11 pm11 cd11 ct11 oc12 kV12 dc12 pm12 cd12 ct12 oc13 kV13 dc13 pm13 cd13 ct13 oc14 kV14 dc14 pm14 cd14 ct14 oc15 kV15 dc15 pm15 cd15 ct15 oc16 kV16 dc16 pm16 cd16 ct16 oc17 kV17 dc17 pm17 cd17 ct17 oc18 kV18 dc18 pm18 cd18 ct18 oc19 kV19 dc19 pm19 cd19 ct19 oc20 kV20 dc20 pm20 cd20 ct20 : Value}
    (a1 : PySem.W.nsIn K mainGlobals "_law_bag" = some (some (.ref f1))) (l1 : K.lookup f1 = some ⟨oc1, od1, .func (PySem.W.fnOf "_law_bag" "_law_bag" (defArgs s__law_bag) (defBody s__law_bag) (defScope s__law_bag) .none kV1 dc1 pm1 an1 cd1 ct1), sl1⟩) (c1 : PySem.W.codeIn K cd1 "_law_bag" = true) (k1 : PySem.W.keepIn K (.ref f1) = true)
    (a2 : PySem.W.nsIn K mainGlobals "_law_take" = some (some (.ref f2))) (l2 : K.lookup f2 = some ⟨oc2, od2, .func (PySem.W.fnOf "_law_take" "_law_take" (defArgs s__law_take) (defBody s__law_take) (defScope s__law_take) .none kV2 dc2 pm2 an2 cd2 ct2), sl2⟩) (c2 : PySem.W.codeIn K cd2 "_law_take" = true) (k2 : PySem.W.keepIn K (.ref f2) = true)
    (a3 : PySem.W.nsIn K mainGlobals "_law_some" = some (some (.ref f3))) (l3 : K.lookup f3 = some ⟨oc3, od3, .func (PySem.W.fnOf "_law_some" "_law_some" (defArgs s__law_some) (defBody s__law_some) (defScope s__law_some) .none kV3 dc3 pm3 an3 cd3 ct3), sl3⟩) (c3 : PySem.W.codeIn K cd3 "_law_some" = true) (k3 : PySem.W.keepIn K (.ref f3) = true)
    (a4 : PySem.W.nsIn K mainGlobals "_law_drawn_set" = some (some (.ref f4))) (l4 : K.lookup f4 = some ⟨oc4, od4, .func (PySem.W.fnOf "_law_drawn_set" "_law_drawn_set" (defArgs s__law_drawn_set) (defBody s__law_drawn_set) (defScope s__law_drawn_set) .none kV4 dc4 pm4 an4 cd4 ct4), sl4⟩) (c4 : PySem.W.codeIn K cd4 "_law_drawn_set" = true) (k4 : PySem.W.keepIn K (.ref f4) = true)
    (a5 : PySem.W.nsIn K mainGlobals "_law_in" = some (some (.ref f5))) (l5 : K.lookup f5 = some ⟨oc5, od5, .func (PySem.W.fnOf "_law_in" "_law_in" (defArgs s__law_in) (defBody s__law_in) (defScope s__law_in) .none kV5 dc5 pm5 an5 cd5 ct5), sl5⟩) (c5 : PySem.W.codeIn K cd5 "_law_in" = true) (k5 : PySem.W.keepIn K (.ref f5) = true)
    (a6 : PySem.W.nsIn K mainGlobals "_law_least" = some (some (.ref f6))) (l6 : K.lookup f6 = some ⟨oc6, od6, .func (PySem.W.fnOf "_law_least" "_law_least" (defArgs s__law_least) (defBody s__law_least) (defScope s__law_least) .none kV6 dc6 pm6 an6 cd6 ct6), sl6⟩) (c6 : PySem.W.codeIn K cd6 "_law_least" = true) (k6 : PySem.W.keepIn K (.ref f6) = true)
    (a7 : PySem.W.nsIn K mainGlobals "_law_alike" = some (some (.ref f7))) (l7 : K.lookup f7 = some ⟨oc7, od7, .func (PySem.W.fnOf "_law_alike" "_law_alike" (defArgs s__law_alike) (defBody s__law_alike) (defScope s__law_alike) .none kV7 dc7 pm7 an7 cd7 ct7), sl7⟩) (c7 : PySem.W.codeIn K cd7 "_law_alike" = true) (k7 : PySem.W.keepIn K (.ref f7) = true)
    (a8 : PySem.W.nsIn K mainGlobals "_law_bent" = some (some (.ref f8))) (l8 : K.lookup f8 = some ⟨oc8, od8, .func (PySem.W.fnOf "_law_bent" "_law_bent" (defArgs s__law_bent) (defBody s__law_bent) (defScope s__law_bent) .none kV8 dc8 pm8 an8 cd8 ct8), sl8⟩) (c8 : PySem.W.codeIn K cd8 "_law_bent" = true) (k8 : PySem.W.keepIn K (.ref f8) = true)
    (a9 : PySem.W.nsIn K mainGlobals "_law_is_whole" = some (some (.ref f9))) (l9 : K.lookup f9 = some ⟨oc9, od9, .func (PySem.W.fnOf "_law_is_whole" "_law_is_whole" (defArgs s__law_is_whole) (defBody s__law_is_whole) (defScope s__law_is_whole) .none kV9 dc9 pm9 an9 cd9 ct9), sl9⟩) (c9 : PySem.W.codeIn K cd9 "_law_is_whole" = true) (k9 : PySem.W.keepIn K (.ref f9) = true)
    (a10 : PySem.W.nsIn K mainGlobals "_law_is_form" = some (some (.ref f10))) (l10 : K.lookup f10 = some ⟨oc10, od10, .func (PySem.W.fnOf "_law_is_form" "_law_is_form" (defArgs s__law_is_form) (defBody s__law_is_form) (defScope s__law_is_form) .none kV10 dc10 pm10 an10 cd10 ct10), sl10⟩) (c10 : PySem.W.codeIn K cd10 "_law_is_form" = true) (k10 : PySem.W.keepIn K (.ref f10) = true)
    (a11 : PySem.W.nsIn K mainGlobals "has" = some (some (.ref f11))) (l11 : K.lookup f11 = some ⟨oc11, od11, .func (PySem.W.fnOf "has" "has" (defArgs s_has) (defBody s_has) (defScope s_has) .none kV11 dc11 pm11 an11 cd11 ct11), sl11⟩) (c11 : PySem.W.codeIn K cd11 "has" = true) (k11 : PySem.W.keepIn K (.ref f11) = true)
    (a12 : PySem.W.nsIn K mainGlobals "least_period" = some (some (.ref f12))) (l12 : K.lookup f12 = some ⟨oc12, od12, .func (PySem.W.fnOf "least_period" "least_period" (defArgs s_least_period) (defBody s_least_period) (defScope s_least_period) .none kV12 dc12 pm12 an12 cd12 ct12), sl12⟩) (c12 : PySem.W.codeIn K cd12 "least_period" = true) (k12 : PySem.W.keepIn K (.ref f12) = true)
    (a13 : PySem.W.nsIn K mainGlobals "last_untold" = some (some (.ref f13))) (l13 : K.lookup f13 = some ⟨oc13, od13, .func (PySem.W.fnOf "last_untold" "last_untold" (defArgs s_last_untold) (defBody s_last_untold) (defScope s_last_untold) .none kV13 dc13 pm13 an13 cd13 ct13), sl13⟩) (c13 : PySem.W.codeIn K cd13 "last_untold" = true) (k13 : PySem.W.keepIn K (.ref f13) = true)
    (a14 : PySem.W.nsIn K mainGlobals "least_set" = some (some (.ref f14))) (l14 : K.lookup f14 = some ⟨oc14, od14, .func (PySem.W.fnOf "least_set" "least_set" (defArgs s_least_set) (defBody s_least_set) (defScope s_least_set) .none kV14 dc14 pm14 an14 cd14 ct14), sl14⟩) (c14 : PySem.W.codeIn K cd14 "least_set" = true) (k14 : PySem.W.keepIn K (.ref f14) = true)
    (a15 : PySem.W.nsIn K mainGlobals "is_rising" = some (some (.ref f15))) (l15 : K.lookup f15 = some ⟨oc15, od15, .func (PySem.W.fnOf "is_rising" "is_rising" (defArgs s_is_rising) (defBody s_is_rising) (defScope s_is_rising) .none kV15 dc15 pm15 an15 cd15 ct15), sl15⟩) (c15 : PySem.W.codeIn K cd15 "is_rising" = true) (k15 : PySem.W.keepIn K (.ref f15) = true)
    (a16 : PySem.W.nsIn K mainGlobals "is_integer" = some (some (.ref f16))) (l16 : K.lookup f16 = some ⟨oc16, od16, .func (PySem.W.fnOf "is_integer" "is_integer" (defArgs s_is_integer) (defBody s_is_integer) (defScope s_is_integer) .none kV16 dc16 pm16 an16 cd16 ct16), sl16⟩) (c16 : PySem.W.codeIn K cd16 "is_integer" = true) (k16 : PySem.W.keepIn K (.ref f16) = true)
    (a17 : PySem.W.nsIn K mainGlobals "are_below" = some (some (.ref f17))) (l17 : K.lookup f17 = some ⟨oc17, od17, .func (PySem.W.fnOf "are_below" "are_below" (defArgs s_are_below) (defBody s_are_below) (defScope s_are_below) .none kV17 dc17 pm17 an17 cd17 ct17), sl17⟩) (c17 : PySem.W.codeIn K cd17 "are_below" = true) (k17 : PySem.W.keepIn K (.ref f17) = true)
    (a18 : PySem.W.nsIn K mainGlobals "is_size_set_form" = some (some (.ref f18))) (l18 : K.lookup f18 = some ⟨oc18, od18, .func (PySem.W.fnOf "is_size_set_form" "is_size_set_form" (defArgs s_is_size_set_form) (defBody s_is_size_set_form) (defScope s_is_size_set_form) .none kV18 dc18 pm18 an18 cd18 ct18), sl18⟩) (c18 : PySem.W.codeIn K cd18 "is_size_set_form" = true) (k18 : PySem.W.keepIn K (.ref f18) = true)
    (a19 : PySem.W.nsIn K mainGlobals "is_size_set" = some (some (.ref f19))) (l19 : K.lookup f19 = some ⟨oc19, od19, .func (PySem.W.fnOf "is_size_set" "is_size_set" (defArgs s_is_size_set) (defBody s_is_size_set) (defScope s_is_size_set) .none kV19 dc19 pm19 an19 cd19 ct19), sl19⟩) (c19 : PySem.W.codeIn K cd19 "is_size_set" = true) (k19 : PySem.W.keepIn K (.ref f19) = true)
    (a20 : PySem.W.nsIn K mainGlobals "law" = some (some (.ref f20))) (l20 : K.lookup f20 = some ⟨oc20, od20, .func (PySem.W.fnOf "law" "law" (defArgs s_law) (defBody s_law) (defScope s_law) .none kV20 dc20 pm20 an20 cd20 ct20), sl20⟩) (c20 : PySem.W.codeIn K cd20 "law" = true) (k20 : PySem.W.keepIn K (.ref f20) = true)
    (z1 : PySem.W.nsIn K mainGlobals "abs" = some none)
    (z2 : PySem.W.nsIn K mainGlobals "all" = some none)
    (z3 : PySem.W.nsIn K mainGlobals "bool" = some none)
    (z4 : PySem.W.nsIn K mainGlobals "int" = some none)
    (z5 : PySem.W.nsIn K mainGlobals "isinstance" = some none)
    (z6 : PySem.W.nsIn K mainGlobals "len" = some none)
    (z7 : PySem.W.nsIn K mainGlobals "list" = some none)
    (z8 : PySem.W.nsIn K mainGlobals "max" = some none)
    (z9 : PySem.W.nsIn K mainGlobals "range" = some none)
    (z10 : PySem.W.nsIn K mainGlobals "repr" = some none)
    (z11 : PySem.W.nsIn K mainGlobals "set" = some none)
    (z12 : PySem.W.nsIn K mainGlobals "sorted" = some none)
    (z13 : PySem.W.nsIn K mainGlobals "tuple" = some none)
    (z14 : PySem.W.nsIn K mainGlobals "zip" = some none)
    : ∃ fd : FuncData, (∀ (s : Shared) (v : Value), BindsTo s fd ⟨[v], []⟩ [("script", v)]) ∧ ∀ base : Heap, K.In base → base.Ns mainGlobals mg → FnG l.prog w K mg base 5 fa fd ["script"] d_law := by
  have e := hfa.symm.trans (PySem.W.mg_of X G a20)
  cases e
  have T : Txt K mg := ⟨PySem.W.mg_none_of X G z1, PySem.W.mg_none_of X G z2, PySem.W.mg_none_of X G z3, PySem.W.mg_none_of X G z4, PySem.W.mg_none_of X G z5, PySem.W.mg_none_of X G z6, PySem.W.mg_none_of X G z7, PySem.W.mg_none_of X G z8, PySem.W.mg_none_of X G z9, PySem.W.mg_none_of X G z10, PySem.W.mg_none_of X G z11, PySem.W.mg_none_of X G z12, PySem.W.mg_none_of X G z13, PySem.W.mg_none_of X G z14⟩
  have F1 := fun_mk (st := s__law_bag) l1 c1 k1
  have b1 := F1.binds (ps := ["script"]) fun _ _ _ _ _ _ us hl => match us, hl with | [_], _ => rfl
  have F2 := fun_mk (st := s__law_take) l2 c2 k2
  have b2 := F2.binds (ps := ["bag", "many"]) fun _ _ _ _ _ _ us hl => match us, hl with | [_, _], _ => rfl
  have F3 := fun_mk (st := s__law_some) l3 c3 k3
  have b3 := F3.binds (ps := ["bag", "things"]) fun _ _ _ _ _ _ us hl => match us, hl with | [_, _], _ => rfl
  have F4 := fun_mk (st := s__law_drawn_set) l4 c4 k4
  have b4 := F4.binds (ps := ["bag"]) fun _ _ _ _ _ _ us hl => match us, hl with | [_], _ => rfl
  have F5 := fun_mk (st := s__law_in) l5 c5 k5
  have b5 := F5.binds (ps := ["sizes", "number"]) fun _ _ _ _ _ _ us hl => match us, hl with | [_, _], _ => rfl
  have F6 := fun_mk (st := s__law_least) l6 c6 k6
  have b6 := F6.binds (ps := ["sizes"]) fun _ _ _ _ _ _ us hl => match us, hl with | [_], _ => rfl
  have F7 := fun_mk (st := s__law_alike) l7 c7 k7
  have b7 := F7.binds (ps := ["found", "due"]) fun _ _ _ _ _ _ us hl => match us, hl with | [_, _], _ => rfl
  have F8 := fun_mk (st := s__law_bent) l8 c8 k8
  have b8 := F8.binds (ps := ["bag", "sizes"]) fun _ _ _ _ _ _ us hl => match us, hl with | [_, _], _ => rfl
  have F9 := fun_mk (st := s__law_is_whole) l9 c9 k9
  have b9 := F9.binds (ps := ["thing"]) fun _ _ _ _ _ _ us hl => match us, hl with | [_], _ => rfl
  have F10 := fun_mk (st := s__law_is_form) l10 c10 k10
  have b10 := F10.binds (ps := ["thing"]) fun _ _ _ _ _ _ us hl => match us, hl with | [_], _ => rfl
  have F11 := fun_mk (st := s_has) l11 c11 k11
  have b11 := F11.binds (ps := ["sizes", "number"]) fun _ _ _ _ _ _ us hl => match us, hl with | [_, _], _ => rfl
  have F12 := fun_mk (st := s_least_period) l12 c12 k12
  have b12 := F12.binds (ps := ["period", "rests"]) fun _ _ _ _ _ _ us hl => match us, hl with | [_, _], _ => rfl
  have F13 := fun_mk (st := s_last_untold) l13 c13 k13
  have b13 := F13.binds (ps := ["bound", "told", "period", "rests"]) fun _ _ _ _ _ _ us hl => match us, hl with | [_, _, _, _], _ => rfl
  have F14 := fun_mk (st := s_least_set) l14 c14 k14
  have b14 := F14.binds (ps := ["thing"]) fun _ _ _ _ _ _ us hl => match us, hl with | [_], _ => rfl
  have F15 := fun_mk (st := s_is_rising) l15 c15 k15
  have b15 := F15.binds (ps := ["numbers"]) fun _ _ _ _ _ _ us hl => match us, hl with | [_], _ => rfl
  have F16 := fun_mk (st := s_is_integer) l16 c16 k16
  have b16 := F16.binds (ps := ["thing"]) fun _ _ _ _ _ _ us hl => match us, hl with | [_], _ => rfl
  have F17 := fun_mk (st := s_are_below) l17 c17 k17
  have b17 := F17.binds (ps := ["numbers", "bound"]) fun _ _ _ _ _ _ us hl => match us, hl with | [_, _], _ => rfl
  have F18 := fun_mk (st := s_is_size_set_form) l18 c18 k18
  have b18 := F18.binds (ps := ["thing"]) fun _ _ _ _ _ _ us hl => match us, hl with | [_], _ => rfl
  have F19 := fun_mk (st := s_is_size_set) l19 c19 k19
  have b19 := F19.binds (ps := ["thing"]) fun _ _ _ _ _ _ us hl => match us, hl with | [_], _ => rfl
  have F20 := fun_mk (st := s_law) l20 c20 k20
  refine ⟨PySem.W.fnOf "law" "law" (defArgs s_law) (defBody s_law) (defScope s_law) .none kV20 dc20 pm20 an20 cd20 ct20, fun s v => .of_eq rfl, fun base _ _ => ?_⟩
  have G1 := Ce.mk (f__law_bag (P := l.prog) (w := w) (base := base) T F1) (PySem.W.mg_of X G a1) k1 b1
  have G2 := Ce.mk (f__law_take (P := l.prog) (w := w) (base := base) T F2) (PySem.W.mg_of X G a2) k2 b2
  have G3 := Ce.mk (f__law_some (P := l.prog) (w := w) (base := base) T F3 G2) (PySem.W.mg_of X G a3) k3 b3
  have G4 := Ce.mk (f__law_drawn_set (P := l.prog) (w := w) (base := base) T F4 G3 G2) (PySem.W.mg_of X G a4) k4 b4
  have G5 := Ce.mk (f__law_in (P := l.prog) (w := w) (base := base) T F5) (PySem.W.mg_of X G a5) k5 b5
  have G6 := Ce.mk (f__law_least (P := l.prog) (w := w) (base := base) T F6 G5) (PySem.W.mg_of X G a6) k6 b6
  have G7 := Ce.mk (f__law_alike (P := l.prog) (w := w) (base := base) T F7) (PySem.W.mg_of X G a7) k7 b7
  have G8 := Ce.mk (f__law_bent (P := l.prog) (w := w) (base := base) T F8 G2 G3 G5) (PySem.W.mg_of X G a8) k8 b8
  have G9 := Ce.mk (f__law_is_whole (P := l.prog) (w := w) (base := base) T F9) (PySem.W.mg_of X G a9) k9 b9
  have G10 := Ce.mk (f__law_is_form (P := l.prog) (w := w) (base := base) T F10 G9) (PySem.W.mg_of X G a10) k10 b10
  have G11 := Ce.mk (f_has (P := l.prog) (w := w) (base := base) T F11) (PySem.W.mg_of X G a11) k11 b11
  have G12 := Ce.mk (f_least_period (P := l.prog) (w := w) (base := base) T F12) (PySem.W.mg_of X G a12) k12 b12
  have G13 := Ce.mk (f_last_untold (P := l.prog) (w := w) (base := base) T F13) (PySem.W.mg_of X G a13) k13 b13
  have G14 := Ce.mk (f_least_set (P := l.prog) (w := w) (base := base) T F14 G12 G13) (PySem.W.mg_of X G a14) k14 b14
  have G15 := Ce.mk (f_is_rising (P := l.prog) (w := w) (base := base) T F15) (PySem.W.mg_of X G a15) k15 b15
  have G16 := Ce.mk (f_is_integer (P := l.prog) (w := w) (base := base) T F16) (PySem.W.mg_of X G a16) k16 b16
  have G17 := Ce.mk (f_are_below (P := l.prog) (w := w) (base := base) T F17 G15 G16) (PySem.W.mg_of X G a17) k17 b17
  have G18 := Ce.mk (f_is_size_set_form (P := l.prog) (w := w) (base := base) T F18 G17 G16) (PySem.W.mg_of X G a18) k18 b18
  have G19 := Ce.mk (f_is_size_set (P := l.prog) (w := w) (base := base) T F19 G18 G14) (PySem.W.mg_of X G a19) k19 b19
  exact f_law (P := l.prog) (w := w) (base := base) T F20 G1 G4 G6 G7 G8 G10 G2 G11 G5 G3 G14 G19
end K23


namespace K23
open PySem PySem.Spec L2 DL
/-! k23: what is whole -/
def whole : D → Bool
  | .int _ => true
  | _ => false
theorem is_whole_is (d : D) : d__law_is_whole [some (.dat d)] = .ret (.dat (.bool (whole d))) [none] := by
  unfold d__law_is_whole
  rw [ev_fnD]
  cases d <;> simp [isiD, tyN, whole, truth]
theorem is_integer_is (d : D) : d_is_integer [some (.dat d)] = .ret (.dat (.bool (whole d))) [none] := by
  unfold d_is_integer
  rw [ev_fnD]
  cases d <;> simp [isiD, tyN, whole, truth]
end K23


namespace K23
open PySem PySem.Spec L2 DL
/-! k23: an int among the ints of a tuple -/
theorem any_int (n : Int) (T : List Int) : ((T.map PyData.int).any fun z => PyData.eqv z (.int n)) = decide (n ∈ T) := by
  induction T with
  | nil => rfl
  | cons t T ih =>
    rw [List.map_cons, List.any_cons, ih]
    have e : PyData.eqv (.int t) (.int n) = decide (n = t) := by
      show (t == n) = decide (n = t)
      by_cases h : n = t
      · subst h; simp
      · rw [decide_eq_false h]
        exact beq_eq_false_iff_ne.mpr fun z => h z.symm
    rw [e, ← Bool.decide_or]
    simp [List.mem_cons]
theorem flat_ints (T : List Int) : (T.map PyData.int).all flatD = true := by
  simp [flatD]
theorem in_tup (n : Int) (T : List Int) : gInC false (.int n) (.tuple (T.map .int)) = some (.bool (decide (n ∈ T))) := by
  have e : gInF false (.int n) (.tuple (T.map .int)) = some (.bool (decide (n ∈ T))) := by
    unfold gInF
    simp only [itemsLT, Option.bind_some]
    rw [if_pos ⟨rfl, flat_ints T⟩, any_int]
    rfl
  unfold gInC gInA
  rw [e]
  rfl
end K23


namespace K23
open PySem PySem.Spec L2 DL
def form (b : Int) (T : List Int) (p : Int) (R : List Int) : D := .tuple [.int b, .tuple (T.map .int), .int p, .tuple (R.map .int)]
def inS (b : Int) (T : List Int) (p : Int) (R : List Int) (n : Int) : Bool := if n < b then decide (n ∈ T) else decide (n % p ∈ R)
theorem law_in_is (b p n : Int) (T R : List Int) (hp : 1 ≤ p) : d__law_in [some (.dat (form b T p R)), some (.dat (.int n))] = .ret (.dat (.bool (inS b T p R n))) [none, none] := by
  have hm : gMod (.int n) (.int p) = some (.int (n % p)) := by
    exact if_pos (show 0 < p by omega)
  unfold d__law_in
  rw [ev_fnD]
  by_cases h : n < b
  · simp [form, gTupD, gsCons, gsNil, in_tup, inS, h, truth]
  · simp [form, gTupD, gsCons, gsNil, in_tup, inS, h, truth, hm]
theorem has_is (b p n : Int) (T R : List Int) (hp : 1 ≤ p) : d_has [some (.dat (form b T p R)), some (.dat (.int n))] = .ret (.dat (.bool (inS b T p R n))) [none, none] := by
  have hm : gMod (.int n) (.int p) = some (.int (n % p)) := if_pos (show 0 < p by omega)
  unfold d_has
  rw [ev_fnD]
  by_cases h : n < b
  · simp [form, gTupD, gsCons, gsNil, in_tup, inS, h, truth]
  · simp [form, gTupD, gsCons, gsNil, in_tup, inS, h, truth, hm]
end K23


namespace K23
open PySem PySem.Spec L2 DL
/-! k23: a rising tuple of ints -/
theorem zip_ints : ∀ (S T : List Int), (zipL (S.map PyData.int) (T.map PyData.int)).map PyData.tuple = (S.zip T).map fun q => PyData.tuple [.int q.1, .int q.2]
  | [], _ => by simp [zipL]
  | _ :: _, [] => by simp [zipL]
  | s :: S, t :: T => by
    simp only [List.map_cons, zipL, List.zip_cons_cons]
    rw [zip_ints S T]
def rising (T : List Int) : Bool := (T.zip T.tail).all fun q => decide (q.1 < q.2)
theorem bools_map {α : Type} (f : α → Bool) (l : List α) : boolsD (l.map fun a => PyData.bool (f a)) = some (l.map f) := by
  induction l with
  | nil => rfl
  | cons a l ih => simp [boolsD, ih]
theorem cut_one (ds : List D) : cutD ds (some 1) none = ds.tail := by
  unfold cutD
  cases ds with
  | nil => rfl
  | cons d ds =>
    simp [HT.sIx]
theorem is_rising_is (T : List Int) (hz : T.length ≤ 1000) : d_is_rising [some (.dat (.tuple (T.map .int)))] = .ret (.dat (.bool (rising T))) [none] := by
  unfold d_is_rising
  rw [ev_fnD]
  have hl : lcD [1, 2] (gTupD 2 (gsCons (gSet 1) (gsCons (gSet 2) gsNil))) xYes (xOp gLt (xName 1) (xName 2)) ((T.zip T.tail).map fun q => PyData.tuple [.int q.1, .int q.2]) [some (.dat (.tuple (T.map .int))), none, none] = .ok ((T.zip T.tail).map fun q => PyData.bool (decide (q.1 < q.2))) [some (.dat (.tuple (T.map .int))), none, none] := by
    refine lcD_gen fun q _ => ⟨[some (.dat (.tuple (T.map .int))), some (.dat (.int q.1)), some (.dat (.int q.2))], ?_, by simp [wipeE]⟩
    simp [lcTurn, gTupD, gsCons, gsNil]
  have hs : ((T.zip T.tail).map fun q => PyData.tuple [.int q.1, .int q.2]).length ≤ 16777216 := by
    rw [List.length_map, List.length_zip]
    omega
  have hg : gSl (.tuple (T.map .int)) (some 1) none = some (.tuple (T.map PyData.int).tail) := by
    show some (PyData.tuple (cutD _ _ _)) = _
    rw [cut_one]
  have hw : gZip [.tuple (T.map .int), .tuple (T.map PyData.int).tail] = some ((T.zip T.tail).map fun q => PyData.tuple [.int q.1, .int q.2]) := by
    show some ((zipL _ _).map PyData.tuple) = _
    rw [← List.map_tail, zip_ints]
  have hs2 : T.length ≤ 16777217 := by omega
  simp [hg, hw, hs2, hl, wipeE, unwipe, datOnly, gAll, lstOf, bools_map, rising]
end K23


namespace K23
open PySem PySem.Spec L2 DL
/-! k23: all whole -/
theorem wholes_lc (ds : List D) (ρ0 : D) (b : D) : lcD [2] (gSet 2) xYes (xFn 1 d_is_integer (xCons (xName 2) xNil)) ds [some (.dat ρ0), some (.dat b), none] = .ok (ds.map fun d => PyData.bool (whole d)) [some (.dat ρ0), some (.dat b), none] := by
  refine lcD_map fun d _ => ⟨[some (.dat ρ0), some (.dat b), some (.dat d)], ?_, by simp [wipeE]⟩
  simp [lcTurn, is_integer_is]
theorem below_odd {ds : List D} (b : D) (hz : ds.length ≤ 16777216) (h : ds.all whole = false) : d_are_below [some (.dat (.tuple ds)), some (.dat b)] = .ret (.dat (.bool false)) [none, none] := by
  unfold d_are_below
  rw [ev_fnD]
  have e : (ds.all fun d => whole d) = false := h
  simp [isiD, tyN, truth, hz, wipeE, unwipe, datOnly, wholes_lc, gAll, lstOf, bools_map, e, xOr, itemsOf]
def below (T : List Int) (b : Int) : Bool := rising T && (T.isEmpty || (decide (0 ≤ T.headD 0) && decide (T.getLastD 0 < b)))
theorem all_whole (T : List Int) : ((T.map PyData.int).all fun d => whole d) = true := by
  simp [whole]
end K23


namespace K23
open PySem PySem.Spec L2 DL
/-! k23: ints below a bound -/
theorem shT (T : List Int) : Sh 1 (.tuple (T.map .int)) := Sh.tuple fun d h => by
  obtain ⟨i, _, rfl⟩ := List.mem_map.mp h
  exact .int i
theorem eq_nilT (T : List Int) : gEqA (.tuple (T.map .int)) (.tuple []) = some (.bool T.isEmpty) := by
  have e : gEq (.tuple (T.map .int)) (.tuple []) = some (.bool T.isEmpty) := by
    unfold gEq
    rw [if_pos ⟨(shT T).shaped (by decide), by decide +kernel⟩]
    cases T with
    | nil => rfl
    | cons t T => rfl
  unfold gEqA
  rw [e]
  rfl
theorem last_is {T : List Int} (h : T ≠ []) : L2.atI (T.map PyData.int) (-1) = some (.int (T.getLastD 0)) := by
  have e : T = T.dropLast ++ [T.getLast h] := (List.dropLast_concat_getLast h).symm
  have g : T.getLastD 0 = T.getLast h := by
    rw [List.getLastD_eq_getLast?, List.getLast?_eq_some_getLast h]
    rfl
  rw [g]
  conv => lhs; rw [e]
  rw [List.map_append]
  exact L2.atI_last _ _
theorem below_is (T : List Int) (b : Int) (hz : T.length ≤ 1000) : d_are_below [some (.dat (.tuple (T.map .int))), some (.dat (.int b))] = .ret (.dat (.bool (below T b))) [none, none] := by
  have hR := is_rising_is T hz
  have hE := eq_nilT T
  have hL : (T.map PyData.int).length ≤ 16777216 := by rw [List.length_map]; omega
  have hA : ((T.map PyData.int).all fun d => whole d) = true := all_whole T
  have hl : T ≠ [] → L2.atI (T.map PyData.int) (-1) = some (.int (T.getLastD 0)) := last_is
  have h0 : T ≠ [] → (T.map PyData.int)[0]? = some (.int (T.headD 0)) := fun h => by
    cases T with
    | nil => exact absurd rfl h
    | cons t T => rfl
  generalize T.map PyData.int = ds at hR hE hL hA hl h0 ⊢
  have hB : boolsD (ds.map fun d => PyData.bool (whole d)) = some (ds.map whole) := bools_map whole ds
  have hC : (ds.map whole).all id = true := by simpa using hA
  unfold d_are_below
  rw [ev_fnD]
  by_cases h : T = []
  · subst h
    cases hr : rising [] <;> rw [hr] at hR <;> simp [isiD, tyN, truth, wipeE, unwipe, datOnly, wholes_lc, gAll, lstOf, hB, hC, xOr, itemsOf, hR, hE, hL, below, hr]
  · have q := hl h
    have q0 := h0 h
    cases hr : rising T <;> rw [hr] at hR <;> by_cases h1 : 0 ≤ T.head?.getD 0 <;> simp [isiD, tyN, truth, wipeE, unwipe, datOnly, wholes_lc, gAll, lstOf, hB, hC, xOr, itemsOf, hR, hE, hL, below, q, q0, h, hr, h1]
end K23


namespace K23
/-! k23: the mathematics of size sets -/
def Shift (p f : Int) (R : List Int) : Prop := ∀ r ∈ R, (r + f) % p ∈ R
theorem shift_fwd {p f : Int} {R : List Int} (h : Shift p f R) {x : Int} (hx : x % p ∈ R) : (x + f) % p ∈ R := by
  have := h _ hx
  rwa [Int.emod_add_emod] at this
theorem shift_up {p f : Int} {R : List Int} (h : Shift p f R) {x : Int} (hx : x % p ∈ R) : ∀ k : Nat, (x + (k : Int) * f) % p ∈ R
  | 0 => by simpa using hx
  | k + 1 => by
    have := shift_fwd h (shift_up h hx k)
    have e : x + ((k + 1 : Nat) : Int) * f = x + (k : Int) * f + f := by
      rw [Int.natCast_add, Int.add_mul]; omega
    rw [e]; exact this
theorem shift_iff {p f : Int} {R : List Int} (hf : 1 ≤ f) (hd : f ∣ p) (hp : 1 ≤ p) (h : Shift p f R) (x : Int) : x % p ∈ R ↔ (x + f) % p ∈ R := by
  refine ⟨shift_fwd h, fun hx => ?_⟩
  obtain ⟨m, rfl⟩ := hd
  have hm : 1 ≤ m := by
    rcases Int.lt_or_le 0 m with a | a
    · exact a
    · have := Int.mul_le_mul_of_nonneg_left (c := f) a (by omega)
      omega
  have := shift_up h hx (m - 1).toNat
  have e : x + f + ((m - 1).toNat : Int) * f = x + f * m := by
    rw [Int.toNat_of_nonneg (by omega), Int.sub_mul, Int.mul_comm m f]; omega
  rw [e, Int.add_emod_right] at this
  exact this
theorem shift_iffk {p f : Int} {R : List Int} (hf : 1 ≤ f) (hd : f ∣ p) (hp : 1 ≤ p) (h : Shift p f R) (x : Int) : ∀ k : Nat, x % p ∈ R ↔ (x + (k : Int) * f) % p ∈ R
  | 0 => by simp
  | k + 1 => by
    have e : x + ((k + 1 : Nat) : Int) * f = x + (k : Int) * f + f := by
      rw [Int.natCast_add, Int.add_mul]; omega
    rw [e, ← shift_iff hf hd hp h]
    exact shift_iffk hf hd hp h x k
/-- a member by its rest by the lesser period -/
theorem mem_rest {p f : Int} {R : List Int} (hf : 1 ≤ f) (hd : f ∣ p) (hp : 1 ≤ p) (h : Shift p f R) {x : Int} (hx : 0 ≤ x) : x % p ∈ R ↔ x % f ∈ R := by
  have h1 := Int.emod_nonneg x (b := f) (by omega)
  have h2 := Int.emod_lt_of_pos x (b := f) (by omega)
  have h3 : f ≤ p := Int.le_of_dvd (by omega) hd
  have h4 : 0 ≤ x / f := Int.ediv_nonneg hx (by omega)
  have := shift_iffk hf hd hp h (x % f) (x / f).toNat
  rw [Int.toNat_of_nonneg h4] at this
  have e : x % f + x / f * f = x := by
    have := Int.emod_add_mul_ediv x f
    rw [Int.mul_comm] at this
    exact this
  rw [e, Int.emod_eq_of_lt h1 (by omega)] at this
  exact this.symm
/-! counting -/
def cnt (P : Nat → Bool) (n : Nat) : Nat := (List.range n).countP P
theorem cnt_add (P : Nat → Bool) (a b : Nat) : cnt P (a + b) = cnt P a + cnt (fun i => P (a + i)) b := by
  unfold cnt
  rw [List.range_add, List.countP_append, List.countP_map]
  rfl
theorem cnt_congr {P Q : Nat → Bool} {n : Nat} (h : ∀ i, P i = Q i) : cnt P n = cnt Q n := by
  have : P = Q := funext h
  rw [this]
theorem cnt_period {P : Nat → Bool} {f : Nat} (h : ∀ i, P (f + i) = P i) : ∀ m, cnt P (m * f) = m * cnt P f
  | 0 => by simp [cnt]
  | m + 1 => by
    have e : (m + 1) * f = f + m * f := by rw [Nat.succ_mul]; omega
    rw [e, cnt_add, cnt_congr h, cnt_period h m, Nat.succ_mul]
    omega
/-- rising within a bound -/
def Asc (T : List Int) (b : Int) : Prop := T.Pairwise (· < ·) ∧ ∀ t ∈ T, 0 ≤ t ∧ t < b
theorem ordEq : ∀ {a b : List Int}, a.Pairwise (· < ·) → b.Pairwise (· < ·) → (∀ k, k ∈ a ↔ k ∈ b) → a = b
  | [], [], _, _, _ => rfl
  | [], y :: b, _, _, h => absurd ((h y).mpr List.mem_cons_self) (List.not_mem_nil)
  | x :: a, [], _, _, h => absurd ((h x).mp List.mem_cons_self) (List.not_mem_nil)
  | x :: a, y :: b, ha, hb, h => by
    obtain ⟨a1, a2⟩ := List.pairwise_cons.mp ha
    obtain ⟨b1, b2⟩ := List.pairwise_cons.mp hb
    have e : x = y := by
      rcases List.mem_cons.mp ((h x).mp List.mem_cons_self) with e | e
      · exact e
      · rcases List.mem_cons.mp ((h y).mpr List.mem_cons_self) with e2 | e2
        · exact e2.symm
        · have := b1 x e; have := a1 y e2; omega
    subst e
    rw [ordEq a2 b2 fun k => ?_]
    constructor
    · intro hk
      rcases List.mem_cons.mp ((h k).mp (List.mem_cons_of_mem _ hk)) with e | e
      · have := a1 k hk; omega
      · exact e
    · intro hk
      rcases List.mem_cons.mp ((h k).mpr (List.mem_cons_of_mem _ hk)) with e | e
      · have := b1 k hk; omega
      · exact e
/-- the ints from 0 below n -/
def upTo (n : Nat) : List Int := (List.range n).map fun i : Nat => (i : Int)
theorem upTo_ord (n : Nat) : (upTo n).Pairwise (· < ·) := by
  unfold upTo
  rw [List.pairwise_map]
  exact List.pairwise_lt_range.imp fun h => by omega
theorem mem_upTo {n : Nat} {k : Int} : k ∈ upTo n ↔ 0 ≤ k ∧ k < n := by
  unfold upTo
  rw [List.mem_map]
  constructor
  · rintro ⟨i, hi, rfl⟩
    have := List.mem_range.mp hi
    omega
  · rintro ⟨h1, h2⟩
    exact ⟨k.toNat, List.mem_range.mpr (by omega), by omega⟩
theorem asc_eq {T : List Int} {b : Int} (h : Asc T b) : T = (upTo b.toNat).filter fun k => decide (k ∈ T) :=
  ordEq h.1 ((upTo_ord _).sublist List.filter_sublist) fun k => by
    rw [List.mem_filter, mem_upTo, decide_eq_true_eq]
    exact ⟨fun hk => ⟨by have := h.2 k hk; omega, hk⟩, fun hk => hk.2⟩
theorem asc_len {T : List Int} {b : Int} (h : Asc T b) : T.length = cnt (fun i => decide ((i : Int) ∈ T)) b.toNat := by
  have e := congrArg List.length (asc_eq h)
  rw [e, ← List.countP_eq_length_filter, upTo, List.countP_map]
  rfl
theorem asc_len_le {T : List Int} {b : Int} (h : Asc T b) : T.length ≤ b.toNat := by
  rw [asc_len h]
  unfold cnt
  have := List.countP_le_length (p := fun i : Nat => decide ((i : Int) ∈ T)) (l := List.range b.toNat)
  rwa [List.length_range] at this
/-- so many parts of a shift divide the number of the rests -/
theorem parts_dvd {p : Int} {f m : Nat} {R : List Int} (hR : Asc R p) (hf : 1 ≤ f) (hm : 1 ≤ m) (e : p = (m : Int) * f) (h : Shift p f R) : m ∣ R.length := by
  have hp : 1 ≤ p := by
    have : 1 ≤ m * f := Nat.mul_pos hm hf
    rw [e]; omega
  have hd : (f : Int) ∣ p := ⟨m, by rw [e, Int.mul_comm]⟩
  have key : ∀ i : Nat, cnt (fun i => decide (((i : Nat) : Int) % p ∈ R)) p.toNat = R.length := fun _ => by
    rw [asc_len hR]
    unfold cnt
    refine List.countP_congr fun i hi => ?_
    have := List.mem_range.mp hi
    rw [Int.emod_eq_of_lt (by omega) (by omega)]
  rw [← key 0]
  have e2 : p.toNat = m * f := by
    have : ((m * f : Nat) : Int) = p := by rw [e]; omega
    omega
  rw [e2, cnt_period (fun i => ?_)]
  · exact ⟨_, rfl⟩
  · have := shift_iff (by omega) hd hp h (i : Int)
    have e3 : (((f + i : Nat) : Int)) = (i : Int) + f := by omega
    rw [e3]
    simp only [decide_eq_decide]
    exact this.symm
/-- the least period -/
structure IsPer (p : Int) (R : List Int) (f : Int) : Prop where
  pos : 1 ≤ f
  dvd : f ∣ p
  sh : Shift p f R
  least : ∀ g : Int, 1 ≤ g → g ∣ p → Shift p g R → f ≤ g
theorem IsPer.uniq {p f g : Int} {R : List Int} (h : IsPer p R f) (k : IsPer p R g) : f = g :=
  Int.le_antisymm (h.least g k.pos k.dvd k.sh) (k.least f h.pos h.dvd h.sh)
theorem shift_self {p : Int} {R : List Int} (hR : ∀ r ∈ R, 0 ≤ r ∧ r < p) : Shift p p R := fun r hr => by
  rw [Int.add_emod_right, Int.emod_eq_of_lt (hR r hr).1 (hR r hr).2]
  exact hr
/-- going down from the number of the rests, the first hit is the least -/
theorem per_of_parts {p : Int} {R : List Int} {m : Nat} (hp : 1 ≤ p) (hR : Asc R p) (hne : R ≠ []) (hm : 1 ≤ m) (hd : (m : Int) ∣ p) (hs : Shift p (p / m) R)
    (hno : ∀ k : Nat, m < k → k ≤ R.length → k ∣ R.length → (k : Int) ∣ p → ¬ Shift p (p / k) R) : IsPer p R (p / m) := by
  have div : ∀ k : Nat, 1 ≤ k → (k : Int) ∣ p → p = (k : Int) * (p / k) := fun k _ hk => (Int.mul_ediv_cancel' hk).symm
  have one : ∀ k : Nat, 1 ≤ k → (k : Int) ∣ p → 1 ≤ p / k := fun k h1 h2 => by
    have := div k h1 h2
    rcases Int.lt_or_le 0 (p / k) with a | a
    · exact a
    · have := Int.mul_le_mul_of_nonneg_left (c := (k : Int)) a (by omega)
      omega
  refine ⟨one m hm hd, ⟨m, by rw [Int.mul_comm]; exact div m hm hd⟩, hs, fun g h1 h2 h3 => ?_⟩
  obtain ⟨c, hc⟩ := h2
  have hc1 : 1 ≤ c := by
    rcases Int.lt_or_le 0 c with a | a
    · exact a
    · have := Int.mul_le_mul_of_nonneg_left (c := g) a (by omega)
      omega
  have hk : ((c.toNat : Nat) : Int) = c := by omega
  have hg : ((g.toNat : Nat) : Int) = g := by omega
  have hgc : p / c = g := by rw [hc]; exact Int.mul_ediv_cancel _ (by omega)
  have hdv : c.toNat ∣ R.length := parts_dvd (f := g.toNat) hR (by omega) (by omega) (by rw [hk, hg, hc, Int.mul_comm]) (by rw [hg]; exact h3)
  have hpos : 0 < R.length := List.length_pos_iff.mpr hne
  have hle : c.toNat ≤ R.length := Nat.le_of_dvd hpos hdv
  have hcd : ((c.toNat : Nat) : Int) ∣ p := ⟨g, by rw [hk, hc, Int.mul_comm]⟩
  rcases Nat.lt_or_ge m c.toNat with a | a
  · exact absurd (by rw [hk, hgc]; exact h3) (hno c.toNat a hle hdv hcd)
  · -- c ≤ m
    have e1 := div m hm hd
    have hcm : c ≤ (m : Int) := by omega
    rcases Int.lt_or_le g (p / m) with q | q
    · exfalso
      have := one m hm hd
      have h4 : (p / m) * c ≤ (p / m) * m := Int.mul_le_mul_of_nonneg_left hcm (by omega)
      have h5 : g * c < (p / m) * c := Int.mul_lt_mul_of_pos_right q (by omega)
      have h6 : (p / m) * m = p := by rw [Int.mul_comm]; exact e1.symm
      omega
    · exact q
end K23


namespace K23
/-! k23: the law's own least period -/
def tail2 (b p : Int) (R : List Int) : List Bool := (List.range (2 * p).toNat).map fun k : Nat => decide ((b + (k : Int)) % p ∈ R)
theorem drop_take_iff (b p : Int) (R : List Int) (f : Nat) : (tail2 b p R).drop f = (tail2 b p R).take ((2 * p).toNat - f) ↔ ∀ k : Nat, k < (2 * p).toNat - f → ((b + ((k + f : Nat) : Int)) % p ∈ R ↔ (b + (k : Int)) % p ∈ R) := by
  unfold tail2
  constructor
  · intro h k hk
    have := congrArg (fun l => l[k]?) h
    simp only [List.getElem?_drop, List.getElem?_take, List.getElem?_map] at this
    rw [if_pos (by omega), List.getElem?_range (by omega), List.getElem?_range (by omega)] at this
    simp only [Option.map_some, Option.some.injEq, decide_eq_decide] at this
    rw [show k + f = f + k by omega]
    exact this
  · intro h
    apply List.ext_getElem?
    intro k
    simp only [List.getElem?_drop, List.getElem?_take, List.getElem?_map]
    by_cases hk : k < (2 * p).toNat - f
    · rw [if_pos (by omega), List.getElem?_range (by omega), List.getElem?_range (by omega)]
      simp only [Option.map_some, Option.some.injEq, decide_eq_decide]
      rw [show f + k = k + f by omega]
      exact h k hk
    · rw [if_neg hk, List.getElem?_eq_none (by rw [List.length_range]; omega)]
      rfl
theorem tail_shift {b p : Int} {R : List Int} {f : Nat} (hR : ∀ r ∈ R, 0 ≤ r ∧ r < p) (hf : 1 ≤ f) (hd : (f : Int) ∣ p) (hp : 1 ≤ p) :
    (tail2 b p R).drop f = (tail2 b p R).take ((2 * p).toNat - f) ↔ Shift p f R := by
  rw [drop_take_iff]
  have hfp : (f : Int) ≤ p := Int.le_of_dvd (by omega) hd
  constructor
  · intro h r hr
    obtain ⟨h0, h1⟩ := hR r hr
    have q1 := Int.emod_nonneg (r - b) (b := p) (by omega)
    have q2 := Int.emod_lt_of_pos (r - b) (b := p) (by omega)
    have := h ((r - b) % p).toNat (by omega)
    have e0 : (((r - b) % p).toNat : Int) = (r - b) % p := by omega
    have e1 : (b + (((r - b) % p).toNat : Int)) % p = r := by
      rw [e0, Int.add_emod_emod, show b + (r - b) = r by omega, Int.emod_eq_of_lt h0 h1]
    have e2 : (b + ((((r - b) % p).toNat + f : Nat) : Int)) % p = (r + f) % p := by
      rw [Int.natCast_add, e0, ← Int.add_assoc, ← Int.emod_add_emod, Int.add_emod_emod, show b + (r - b) = r by omega, Int.emod_add_emod]
    rw [e1, e2] at this
    exact this.mpr hr
  · intro h k _
    have := shift_iff (by omega) hd hp h (b + (k : Int))
    rw [show b + ((k + f : Nat) : Int) = b + (k : Int) + f by omega]
    exact this.symm
def lawOk (b p : Int) (R : List Int) (f : Nat) : Bool := decide (p % f = 0) && decide ((tail2 b p R).drop f = (tail2 b p R).take ((2 * p).toNat - f))
theorem lawOk_iff {b p : Int} {R : List Int} {f : Nat} (hR : ∀ r ∈ R, 0 ≤ r ∧ r < p) (hf : 1 ≤ f) (hp : 1 ≤ p) : lawOk b p R f = true ↔ (f : Int) ∣ p ∧ Shift p f R := by
  unfold lawOk
  rw [Bool.and_eq_true, decide_eq_true_eq, decide_eq_true_eq]
  constructor
  · rintro ⟨h1, h2⟩
    have hd : (f : Int) ∣ p := Int.dvd_of_emod_eq_zero h1
    exact ⟨hd, (tail_shift hR hf hd hp).mp h2⟩
  · rintro ⟨hd, h2⟩
    exact ⟨Int.emod_eq_zero_of_dvd hd, (tail_shift hR hf hd hp).mpr h2⟩
def shorts (b p : Int) (R : List Int) : List Nat := ((List.range p.toNat).map (1 + ·)).filter (lawOk b p R)
theorem shorts_ord (b p : Int) (R : List Int) : (shorts b p R).Pairwise (· < ·) := by
  refine List.Pairwise.sublist List.filter_sublist ?_
  rw [List.pairwise_map]
  exact List.pairwise_lt_range.imp fun h => by omega
theorem mem_shorts {b p : Int} {R : List Int} (hR : ∀ r ∈ R, 0 ≤ r ∧ r < p) (hp : 1 ≤ p) {f : Nat} : f ∈ shorts b p R ↔ 1 ≤ f ∧ (f : Int) ∣ p ∧ Shift p f R := by
  unfold shorts
  rw [List.mem_filter, List.mem_map]
  constructor
  · rintro ⟨⟨i, _, rfl⟩, h⟩
    exact ⟨by omega, (lawOk_iff hR (by omega) hp).mp h⟩
  · rintro ⟨h1, h2, h3⟩
    have := Int.le_of_dvd (by omega) h2
    exact ⟨⟨f - 1, List.mem_range.mpr (by omega), by omega⟩, (lawOk_iff hR h1 hp).mpr ⟨h2, h3⟩⟩
theorem shorts_first {b p : Int} {R : List Int} (hR : ∀ r ∈ R, 0 ≤ r ∧ r < p) (hp : 1 ≤ p) : ∃ f r, shorts b p R = f :: r ∧ IsPer p R f := by
  have hself : p.toNat ∈ shorts b p R := (mem_shorts hR hp).mpr ⟨by omega, by rw [Int.toNat_of_nonneg (by omega)]; exact Int.dvd_refl p, by rw [Int.toNat_of_nonneg (by omega)]; exact shift_self hR⟩
  cases e : shorts b p R with
  | nil => rw [e] at hself; exact absurd hself List.not_mem_nil
  | cons f r =>
    refine ⟨f, r, rfl, ?_⟩
    have hf := (mem_shorts hR hp).mp (show f ∈ shorts b p R by rw [e]; exact List.mem_cons_self)
    refine ⟨by omega, hf.2.1, hf.2.2, fun g h1 h2 h3 => ?_⟩
    have hg : g.toNat ∈ shorts b p R := (mem_shorts hR hp).mpr ⟨by omega, by rw [Int.toNat_of_nonneg (by omega)]; exact h2, by rw [Int.toNat_of_nonneg (by omega)]; exact h3⟩
    have ho := shorts_ord b p R
    rw [e] at hg ho
    rcases List.mem_cons.mp hg with q | q
    · omega
    · have := (List.pairwise_cons.mp ho).1 _ q
      omega
/-! the least bound -/
structure Good (b : Int) (T : List Int) (p : Int) (R : List Int) : Prop where
  b0 : 0 ≤ b
  p1 : 1 ≤ p
  t : Asc T b
  r : Asc R p
def Agree (T : List Int) (p : Int) (R : List Int) (n : Int) : Prop := n ∈ T ↔ n % p ∈ R
structure IsLb (b : Int) (T : List Int) (p : Int) (R : List Int) (l : Int) : Prop where
  l0 : 0 ≤ l
  lb : l ≤ b
  above : ∀ n, l ≤ n → n < b → Agree T p R n
  at' : 0 < l → ¬ Agree T p R (l - 1)
theorem IsLb.uniq {b p l m : Int} {T R : List Int} (h : IsLb b T p R l) (k : IsLb b T p R m) : l = m := by
  have one : ∀ {l m : Int}, IsLb b T p R l → IsLb b T p R m → ¬ l < m := fun {l m} h k q => by
    have := h.l0
    have := k.lb
    exact k.at' (by omega) (h.above (m - 1) (by omega) (by omega))
  have := one h k
  have := one k h
  omega
def inSet (b : Int) (T : List Int) (p : Int) (R : List Int) (n : Int) : Bool := if n < b then decide (n ∈ T) else decide (n % p ∈ R)
def leastT (T : List Int) (l : Int) : List Int := T.filter fun t => decide (t < l)
def leastR (R : List Int) (f : Int) : List Int := R.filter fun r => decide (r < f)
theorem asc_filter {T : List Int} {b c : Int} (h : Asc T b) : Asc (T.filter fun t => decide (t < c)) c :=
  ⟨h.1.sublist List.filter_sublist, fun t ht => by
    obtain ⟨h1, h2⟩ := List.mem_filter.mp ht
    rw [decide_eq_true_eq] at h2
    exact ⟨(h.2 t h1).1, h2⟩⟩
theorem Good.least {b p l f : Int} {T R : List Int} (g : Good b T p R) (h : IsLb b T p R l) (k : IsPer p R f) : Good l (leastT T l) f (leastR R f) :=
  ⟨h.l0, k.pos, asc_filter g.t, asc_filter g.r⟩
/-- it stands for the same set -/
theorem least_same {b p l f : Int} {T R : List Int} (g : Good b T p R) (h : IsLb b T p R l) (k : IsPer p R f) {n : Int} (hn : 0 ≤ n) : inSet l (leastT T l) f (leastR R f) n = inSet b T p R n := by
  have hm := mem_rest k.pos k.dvd g.p1 k.sh hn
  have hl := h.lb
  have q1 := Int.emod_lt_of_pos n (b := f) (by have := k.pos; omega)
  have e2 : n % f ∈ leastR R f ↔ n % f ∈ R := by
    unfold leastR
    rw [List.mem_filter, decide_eq_true_eq]
    exact ⟨fun z => z.1, fun z => ⟨z, q1⟩⟩
  unfold inSet
  by_cases a : n < l
  · rw [if_pos a, if_pos (by omega)]
    unfold leastT
    rw [decide_eq_decide, List.mem_filter, decide_eq_true_eq]
    exact ⟨fun z => z.1, fun z => ⟨z, a⟩⟩
  · rw [if_neg a]
    by_cases c : n < b
    · rw [if_pos c, decide_eq_decide, e2, ← hm]
      exact (h.above n (by omega) c).symm
    · rw [if_neg c, decide_eq_decide, e2, hm]
/-- what the law finds below the bound -/
theorem found_is {b p l : Int} {T R : List Int} (g : Good b T p R) (h : IsLb b T p R l) : (upTo l.toNat).filter (inSet b T p R) = leastT T l := by
  refine ordEq ((upTo_ord _).sublist List.filter_sublist) (g.t.1.sublist List.filter_sublist) fun k => ?_
  unfold leastT
  rw [List.mem_filter, mem_upTo, List.mem_filter, decide_eq_true_eq]
  have hl := h.lb
  have h0 := h.l0
  constructor
  · rintro ⟨⟨a, c⟩, d⟩
    unfold inSet at d
    rw [if_pos (by omega), decide_eq_true_eq] at d
    exact ⟨d, by omega⟩
  · rintro ⟨a, c⟩
    have := g.t.2 k a
    refine ⟨⟨this.1, by omega⟩, ?_⟩
    unfold inSet
    rw [if_pos (by omega), decide_eq_true_eq]
    exact a
/-- what the law finds behind it -/
theorem later_mem {b p l f : Int} {T R : List Int} (g : Good b T p R) (h : IsLb b T p R l) (k : IsPer p R f) (x : Int) : x ∈ (((upTo f.toNat).filter fun a => inSet b T p R (l + a)).map fun a => (l + a) % f) ↔ x ∈ leastR R f := by
  have hf := k.pos
  have h0 := h.l0
  have above : ∀ a, 0 ≤ a → inSet b T p R (l + a) = decide ((l + a) % f ∈ R) := fun a ha => by
    have := mem_rest k.pos k.dvd g.p1 k.sh (x := l + a) (by omega)
    unfold inSet
    by_cases c : l + a < b
    · rw [if_pos c, decide_eq_decide, ← this]
      exact h.above (l + a) (by omega) c
    · rw [if_neg c, decide_eq_decide, this]
  unfold leastR
  rw [List.mem_map, List.mem_filter, decide_eq_true_eq]
  constructor
  · rintro ⟨a, ha, rfl⟩
    obtain ⟨h1, h2⟩ := List.mem_filter.mp ha
    have h3 := mem_upTo.mp h1
    rw [above a h3.1, decide_eq_true_eq] at h2
    exact ⟨h2, Int.emod_lt_of_pos _ (by omega)⟩
  · rintro ⟨h1, h2⟩
    have h3 := (g.r.2 x h1).1
    have q1 := Int.emod_nonneg (x - l) (b := f) (by omega)
    have q2 := Int.emod_lt_of_pos (x - l) (b := f) (by omega)
    have e : (l + (x - l) % f) % f = x := by
      rw [Int.add_emod_emod, show l + (x - l) = x by omega, Int.emod_eq_of_lt h3 h2]
    refine ⟨(x - l) % f, List.mem_filter.mpr ⟨mem_upTo.mpr ⟨q1, by omega⟩, ?_⟩, e⟩
    rw [above _ q1, e, decide_eq_true_eq]
    exact h1
end K23


namespace K23
open PySem PySem.Spec L2 DL
/-! k23: the dict of some ints -/
theorem atD_any (es : List (D × D)) (k : Key) : (atD es k).isSome = es.any fun e => keqD k e.1 := by
  unfold atD
  rw [Option.isSome_map]
  induction es with
  | nil => rfl
  | cons e es ih =>
    rw [List.find?_cons, List.any_cons]
    cases keqD k e.1 <;> simp [ih]
theorem put_has (es : List (D × D)) (k k' : Key) (d : D) : ((putD es k d).any fun e => keqD k' e.1) = (decide (k = k') || es.any fun e => keqD k' e.1) := by
  unfold putD
  split
  · rename_i h
    have e : ((es.map (fun e => if keqD k e.1 = true then (e.1, d) else e)).any fun e => keqD k' e.1) = es.any fun e => keqD k' e.1 := by
      rw [List.any_map]
      congr 1
      funext e
      show keqD k' (if keqD k e.1 = true then (e.1, d) else e).1 = keqD k' e.1
      split <;> rfl
    rw [e]
    by_cases q : k = k'
    · subst q
      rw [h]; simp
    · simp [q]
  · rw [List.any_append, List.any_cons, keqD_key]
    simp [Bool.or_comm]
def dictI (R : List Int) : List (D × D) := R.foldl (fun es r => putD es (.inl r) (.bool true)) []
theorem fold_has (R : List Int) (n : Int) : ∀ es : List (D × D), ((R.foldl (fun es r => putD es (.inl r) (.bool true)) es).any fun e => keqD (.inl n) e.1) = (decide (n ∈ R) || es.any fun e => keqD (.inl n) e.1) := by
  induction R with
  | nil => intro es; simp
  | cons r R ih =>
    intro es
    rw [List.foldl_cons, ih, put_has, ← Bool.or_assoc]
    congr 1
    rw [← Bool.decide_or, decide_eq_decide, List.mem_cons]
    constructor
    · rintro (h | h)
      · exact .inr h
      · cases h; exact .inl rfl
    · rintro (h | h)
      · subst h; exact .inr rfl
      · exact .inl h
theorem in_dict (neg : Bool) (n : Int) (R : List Int) : gInC neg (.int n) (.dict (dictI R)) = some (.bool (if neg = true then !decide (n ∈ R) else decide (n ∈ R))) := by
  have e : gInA neg (.int n) (.dict (dictI R)) = none := by
    unfold gInA
    have e1 : gInS neg (.int n) (.dict (dictI R)) = none := rfl
    have e2 : gInF neg (.int n) (.dict (dictI R)) = none := rfl
    have e3 : gInL neg (.int n) (.dict (dictI R)) = none := rfl
    rw [e1, e2, e3]; rfl
  unfold gInC
  rw [e]
  show some (PyData.bool (if neg = true then !(atD (dictI R) (.inl n)).isSome else (atD (dictI R) (.inl n)).isSome)) = _
  rw [atD_any]
  unfold dictI
  rw [fold_has]
  simp
theorem dc_ints {v : Nat} {ρ : DL.Env} (hv : ρ[v]? = some none) (R : List Int) : dcD [v] (gSet v) xYes (xName v) (xC (.bool true)) (R.map PyData.int) [] ρ = .ok (dictI R) ρ := by
  have hl : v < ρ.length := (List.getElem?_eq_some_iff.mp hv).1
  have hs : ∀ d : D, (ρ.set v (some (.dat d)))[v]? = some (some (.dat d)) := fun d => by simp [hl]
  have hw : ∀ d : D, wipeE (ρ.set v (some (.dat d))) [v] = ρ := fun d => by
    unfold wipeE wipeE
    rw [List.set_set]
    apply List.ext_getElem?
    intro i
    by_cases e : i = v
    · subst e; rw [List.getElem?_set_self hl, hv]
    · rw [List.getElem?_set_ne (fun z => e z.symm)]
  have := dcD_map (vs := [v]) (γ := gSet v) (κ := xName v) (φ := xC (.bool true)) (ρ := ρ) (k := fun d => match d with | .int i => .inl i | _ => .inl 0) (f := fun _ => .bool true) (ds := R.map PyData.int) (fun d hd => by
    obtain ⟨i, _, rfl⟩ := List.mem_map.mp hd
    refine ⟨ρ.set v (some (.dat (.int i))), .dat (.int i), ρ.set v (some (.dat (.int i))), .dat (.bool true), ρ.set v (some (.dat (.int i))), ρ.set v (some (.dat (.int i))), ?_, ?_, rfl, rfl, rfl, hw _⟩
    · simp [hv]
    · simp [hs]) []
  rw [this, List.foldl_map]
  rfl
end K23


namespace K23
open PySem PySem.Spec L2 DL
/-! k23: least_period -/
theorem lp_all (p : Int) (hp : 1 ≤ p) (R : List Int) (len k f : Int) (x4 : Option Cell) : lcD [6] (gSet 6) xYes p_least_period_1 (R.map PyData.int) [some (.dat (.int p)), some (.dat (.tuple (R.map .int))), some (.dat (.dict (dictI R))), some (.dat (.int len)), x4, some (.dat (.int f)), none]
    = .ok (R.map fun r => PyData.bool (decide ((r + f) % p ∈ R))) [some (.dat (.int p)), some (.dat (.tuple (R.map .int))), some (.dat (.dict (dictI R))), some (.dat (.int len)), x4, some (.dat (.int f)), none] := by
  refine lcD_gen (g := PyData.int) (f := fun r => PyData.bool (decide ((r + f) % p ∈ R))) fun r _ => ⟨[some (.dat (.int p)), some (.dat (.tuple (R.map .int))), some (.dat (.dict (dictI R))), some (.dat (.int len)), x4, some (.dat (.int f)), some (.dat (.int r))], ?_, by simp [wipeE]⟩
  have hm : gMod (.int (r + f)) (.int p) = some (.int ((r + f) % p)) := gMod_pos (by omega)
  simp [lcTurn, p_least_period_1, hm, in_dict]
def shiftB (p f : Int) (R : List Int) : Bool := R.all fun r => decide ((r + f) % p ∈ R)
theorem shiftB_iff {p f : Int} {R : List Int} : shiftB p f R = true ↔ Shift p f R := by
  unfold shiftB Shift
  rw [List.all_eq_true]
  constructor
  · intro h r hr; simpa using h r hr
  · intro h r hr; simpa using h r hr
def envP (p : Int) (R : List Int) (x4 x5 : Option Cell) : DL.Env := [some (.dat (.int p)), some (.dat (.tuple (R.map .int))), some (.dat (.dict (dictI R))), some (.dat (.int (R.length : Int))), x4, x5, none]
def hitP (p : Int) (R : List Int) (k : Int) : Bool := decide ((R.length : Int) % k = 0) && (decide (p % k = 0) && shiftB p (p / k) R)
theorem lp_turn {p : Int} (hp : 1 ≤ p) {R : List Int} (hz : R.length ≤ 1000) {k : Int} (hk : 1 ≤ k) (hk2 : k < 1000000) {x5 : Option Cell} (hx : Cl x5) :
    p_least_period_2 (envP p R (some (.dat (.int k))) x5) = if hitP p R k = true then .ret (.dat (.int (p / k))) (envP p R (some (.dat (.int k))) (some (.dat (.int (p / k))))) else .next (envP p R (some (.dat (.int k))) (some (.dat (.int (p / k))))) := by
  have hd : gDiv (.int p) (.int k) = some (.int (p / k)) := gDiv_pos (by omega)
  have hm1 : gMod (.int (R.length : Int)) (.int k) = some (.int ((R.length : Int) % k)) := gMod_pos (by omega)
  have hm2 : gMod (.int p) (.int k) = some (.int (p % k)) := gMod_pos (by omega)
  have hl := lp_all p hp R R.length k (p / k) (some (.dat (.int k)))
  have hz2 : R.length ≤ 16777216 := by omega
  have hb : boolsD (R.map fun r => PyData.bool (decide ((r + p / k) % p ∈ R))) = some (R.map fun r => decide ((r + p / k) % p ∈ R)) := bools_map _ R
  have hs : (R.map fun r => decide ((r + p / k) % p ∈ R)).all id = shiftB p (p / k) R := by simp [shiftB]
  unfold p_least_period_2 envP hitP
  by_cases h1 : (R.length : Int) % k = 0
  · by_cases h2 : p % k = 0
    · cases h3 : shiftB p (p / k) R <;> rw [h3] at hs <;> simp [hx.cs, hd, hm1, hm2, h1, h2, hl, hz2, wipeE, unwipe, datOnly, itemsOf, gAll, lstOf, hb, hs, h3, truth]
    · simp [hx.cs, hd, hm1, hm2, h1, h2]
  · simp [hx.cs, hd, hm1, h1]
theorem downL_succ (k : Nat) : downL ((k + 1 : Nat) : Int) (k + 1 - 1) = if k = 0 then [] else .int ((k + 1 : Nat) : Int) :: downL (k : Int) (k - 1) := by
  cases k with
  | zero => rfl
  | succ k =>
    rw [if_neg (by omega)]
    unfold downL
    rw [show k + 1 + 1 - 1 = k + 1 by omega, List.range_succ_eq_map, List.map_cons, List.map_map]
    have e : ((fun (i : Nat) => PyData.int (((k + 1 + 1 : Nat) : Int) - (i : Int))) ∘ Nat.succ) = fun (i : Nat) => PyData.int (((k + 1 : Nat) : Int) - (i : Int)) := by
      funext i
      show PyData.int _ = PyData.int _
      congr 1
      show ((k + 1 + 1 : Nat) : Int) - ((i + 1 : Nat) : Int) = ((k + 1 : Nat) : Int) - (i : Int)
      omega
    rw [e, show k + 1 - 1 = k by omega]
    congr 1
theorem lp_loop {p : Int} (hp : 1 ≤ p) {R : List Int} (hR : Asc R p) (hz : R.length ≤ 1000) (hne : R ≠ []) : ∀ (k : Nat) (x4 x5 : Option Cell), 1 ≤ k → k ≤ R.length → Cl x4 → Cl x5 →
    (∀ j : Nat, k < j → j ≤ R.length → j ∣ R.length → (j : Int) ∣ p → ¬ Shift p (p / j) R) →
    (∃ f ρ', forD (gSet 4) p_least_period_2 (downL (k : Int) (k - 1)) (envP p R x4 x5) = .ret (.dat (.int f)) ρ' ∧ (∃ y4 y5, ρ' = envP p R y4 y5) ∧ IsPer p R f) ∨
    (∃ y4 y5, forD (gSet 4) p_least_period_2 (downL (k : Int) (k - 1)) (envP p R x4 x5) = .next (envP p R y4 y5) ∧ IsPer p R p)
  | 0, _, _, h, _, _, _, _ => absurd h (by omega)
  | k + 1, x4, x5, h1, h2, c4, c5, hno => by
    rw [downL_succ]
    by_cases hk : k = 0
    · subst hk
      rw [if_pos rfl]
      refine .inr ⟨x4, x5, rfl, ?_⟩
      have e : p / ((0 + 1 : Nat) : Int) = p := by simp
      have := per_of_parts (m := 0 + 1) hp hR hne (by omega) ⟨p, by simp⟩ (by rw [e]; exact shift_self hR.2) hno
      rwa [e] at this
    · rw [if_neg hk]
      have hg : gSet 4 (.int ((k + 1 : Nat) : Int)) (envP p R x4 x5) = some (envP p R (some (.dat (.int ((k + 1 : Nat) : Int)))) x5) := by
        unfold envP
        simp [c4.cs]
      have ht := lp_turn hp hz (k := ((k + 1 : Nat) : Int)) (by omega) (by omega) c5
      cases hh : hitP p R ((k + 1 : Nat) : Int) with
      | true =>
        rw [hh, if_pos rfl] at ht
        refine .inl ⟨_, _, forD_ret hg ht, ⟨_, _, rfl⟩, ?_⟩
        unfold hitP at hh
        rw [Bool.and_eq_true, Bool.and_eq_true, decide_eq_true_eq, decide_eq_true_eq, shiftB_iff] at hh
        exact per_of_parts hp hR hne (by omega) (Int.dvd_of_emod_eq_zero hh.2.1) hh.2.2 hno
      | false =>
        rw [hh, if_neg (by simp)] at ht
        rw [forD_step hg (.inl ht)]
        refine lp_loop hp hR hz hne k _ _ (by omega) (by omega) (.dat _) (.dat _) fun j hj1 hj2 hj3 hj4 hj5 => ?_
        by_cases e : j = k + 1
        · subst e
          have : hitP p R ((k + 1 : Nat) : Int) = true := by
            unfold hitP
            rw [Bool.and_eq_true, Bool.and_eq_true, decide_eq_true_eq, decide_eq_true_eq, shiftB_iff]
            exact ⟨by have := Int.natCast_dvd_natCast.mpr hj3; exact Int.emod_eq_zero_of_dvd this, Int.emod_eq_zero_of_dvd hj4, hj5⟩
          rw [hh] at this
          cases this
        · exact hno j (by omega) hj2 hj3 hj4 hj5
theorem per_nil {p : Int} : IsPer p [] 1 := ⟨Int.le_refl 1, ⟨p, by simp⟩, fun r hr => absurd hr List.not_mem_nil, fun g h _ _ => h⟩
theorem least_period_is {p : Int} (hp : 1 ≤ p) {R : List Int} (hR : Asc R p) (hz : R.length ≤ 1000) : ∃ f, IsPer p R f ∧ d_least_period [some (.dat (.int p)), some (.dat (.tuple (R.map .int)))] = .ret (.dat (.int f)) [none, none] := by
  have hdc := dc_ints (v := 6) (ρ := [some (.dat (.int p)), some (.dat (.tuple (R.map .int))), none, none, none, none, none]) rfl R
  have hz2 : R.length ≤ 16777216 := by omega
  unfold d_least_period
  rw [ev_fnD]
  by_cases hne : R = []
  · subst hne
    refine ⟨1, per_nil, ?_⟩
    simp at hdc
    simp [itemsOf, hdc, wipeE, unwipe, datOnly]
  · have hpos : 0 < R.length := List.length_pos_iff.mpr hne
    have hr : gRange3 [.int (R.length : Int), .int 1, .int (-1)] = some (downL (R.length : Int) (R.length - 1)) := by
      have e : ((R.length : Int) - 1).toNat = R.length - 1 := by omega
      rw [← e]
      exact gRange3_ok (by omega)
    rcases lp_loop hp hR hz hne R.length none none (by omega) (Nat.le_refl _) .none .none (fun j h1 h2 => absurd h1 (by omega)) with ⟨f, ρ', h1, ⟨y4, y5, rfl⟩, h2⟩ | ⟨y4, y5, h1, h2⟩
    · refine ⟨f, h2, ?_⟩
      unfold envP at h1
      simp [itemsOf, hdc, wipeE, unwipe, datOnly, hz2, hne, hr, h1]
    · refine ⟨p, h2, ?_⟩
      unfold envP at h1
      simp [itemsOf, hdc, wipeE, unwipe, datOnly, hz2, hne, hr, h1]
end K23


namespace K23
open PySem PySem.Spec L2 DL
/-! k23: last_untold -/
theorem ne_nilT (T : List Int) : gNeA (.tuple (T.map .int)) (.tuple []) = some (.bool (!T.isEmpty)) := by
  have e : gNe (.tuple (T.map .int)) (.tuple []) = some (.bool (!T.isEmpty)) := by
    unfold gNe
    rw [if_pos ⟨(shT T).shaped (by decide), by decide +kernel⟩]
    cases T with
    | nil => rfl
    | cons t T => rfl
  unfold gNeA
  rw [e]
  rfl
theorem ne_nilL (T : List Int) : gNeA (.list (T.map .int)) (.list []) = some (.bool (!T.isEmpty)) := by
  have := gNeA_nil (n := 1) (xs := T.map PyData.int) (Sh.list fun d h => by
    obtain ⟨i, _, rfl⟩ := List.mem_map.mp h
    exact .int i) (by decide)
  rw [this, List.isEmpty_map]
structure IsUn (b : Int) (T : List Int) (p : Int) (R : List Int) (u : Int) : Prop where
  m1 : -1 ≤ u
  at' : 0 ≤ u → u < b ∧ u ∉ T ∧ u % p ∈ R
  no : ∀ n, u < n → 0 ≤ n → n < b → n % p ∈ R → n ∈ T
def envU (b : Int) (T : List Int) (p : Int) (R : List Int) (k : Int) (x6 : Option Cell) : DL.Env := [some (.dat (.int b)), some (.dat (.tuple (T.map .int))), some (.dat (.int p)), some (.dat (.tuple (R.map .int))), some (.dat (.dict (dictI T))), some (.dat (.int k)), x6, none, none]
def blockU (b : Int) (T : List Int) (p : Int) (R : List Int) (k : Int) : List Int := (R.map fun r => k * p + r).filter fun n => decide (n < b) && !decide (n ∈ T)
theorem lu_lc1 (b p k : Int) (T R : List Int) (x6 : Option Cell) (hp : 1 ≤ p) (hp2 : p < 1000000) : lcD [8] (gSet 8) xYes (xOp gAddA (xOp gMulA (xName 5) (xName 2)) (xName 8)) (R.map PyData.int) (envU b T p R k x6) = .ok ((R.map fun r => k * p + r).map PyData.int) (envU b T p R k x6) := by
  rw [List.map_map]
  refine lcD_gen (g := PyData.int) (f := fun r => PyData.int (k * p + r)) fun r _ => ⟨(envU b T p R k x6).set 8 (some (.dat (.int r))), ?_, by simp [wipeE, envU]⟩
  have hm : gMulA (.int k) (.int p) = some (.int (k * p)) := gMulA_r (by omega)
  simp [lcTurn, envU, hm]
theorem lu_lc2 (b p k : Int) (T R S : List Int) (x6 : Option Cell) : lcD [7] (gSet 7) p_last_untold_1 (xName 7) (S.map PyData.int) (envU b T p R k x6) = .ok ((S.filter fun n => decide (n < b) && !decide (n ∈ T)).map PyData.int) (envU b T p R k x6) := by
  refine lcD_filter (g := PyData.int) (f := PyData.int) fun n _ => ⟨(envU b T p R k x6).set 7 (some (.dat (.int n))), ?_, by simp [wipeE, envU]⟩
  unfold p_last_untold_1
  by_cases h : n < b
  · by_cases h2 : n ∈ T
    · simp [lcTurn, envU, h, in_dict, h2]
    · simp [lcTurn, envU, h, in_dict, h2]
  · simp [lcTurn, envU, h]
theorem lu_body {b p k : Int} {T R : List Int} {x6 : Option Cell} (hp : 1 ≤ p) (hp2 : p < 1000000) (hz : R.length ≤ 1000) (c6 : Cl x6) :
    p_last_untold_3 (envU b T p R k x6) = if blockU b T p R k = [] then .next (envU b T p R (k - 1) (some (.dat (.list [])))) else .ret (.dat (.int ((blockU b T p R k).getLastD 0))) (envU b T p R k (some (.dat (.list ((blockU b T p R k).map .int))))) := by
  have h1 := lu_lc1 b p k T R x6 hp hp2
  have h2 := lu_lc2 b p k T R (R.map fun r => k * p + r) (some (.dat (.list ((R.map fun r => k * p + r).map .int))))
  have z1 : R.length ≤ 16777216 := by omega
  have z2 : (R.map fun r => k * p + r).length ≤ 16777216 := by rw [List.length_map]; omega
  have hn := ne_nilL (blockU b T p R k)
  have hl : blockU b T p R k ≠ [] → L2.atI ((blockU b T p R k).map PyData.int) (-1) = some (.int ((blockU b T p R k).getLastD 0)) := last_is
  change _ = Ans.ok ((blockU b T p R k).map PyData.int) _ at h2
  generalize (R.map fun r => k * p + r) = S at h1 h2 z2
  generalize blockU b T p R k = U at h2 hn hl ⊢
  unfold p_last_untold_3
  unfold envU at *
  by_cases e : U = []
  · subst e
    simp at h2 hn
    simp [wipeE, unwipe, datOnly, h1, h2, z1, z2, c6.cs, hn]
  · have hl' := hl e
    have hn' : U.isEmpty = false := by cases U with | nil => exact absurd rfl e | cons _ _ => rfl
    rw [hn'] at hn
    simp [wipeE, unwipe, datOnly, h1, h2, z1, z2, c6.cs, hn, hl', e]
theorem mem_block {b p k n : Int} {T R : List Int} (hp : 1 ≤ p) (hR : Asc R p) (h0 : k * p ≤ n) (h1 : n < k * p + p) (hb : n < b) : n ∈ blockU b T p R k ↔ n % p ∈ R ∧ n ∉ T := by
  have e : n % p = n - k * p := by
    have : n = (n - k * p) + p * k := by rw [Int.mul_comm p k]; omega
    rw [this, Int.add_mul_emod_self_left, Int.emod_eq_of_lt (by omega) (by omega)]
    omega
  unfold blockU
  rw [List.mem_filter, List.mem_map, Bool.and_eq_true, decide_eq_true_eq, Bool.not_eq_true', decide_eq_false_iff_not, e]
  constructor
  · rintro ⟨⟨r, hr, rfl⟩, _, h⟩
    rw [show k * p + r - k * p = r by omega]
    exact ⟨hr, h⟩
  · rintro ⟨hr, h⟩
    exact ⟨⟨n - k * p, hr, by omega⟩, hb, h⟩
theorem block_mem {b p k n : Int} {T R : List Int} (hp : 1 ≤ p) (hR : Asc R p) (h : n ∈ blockU b T p R k) : k * p ≤ n ∧ n < k * p + p ∧ n < b ∧ n % p ∈ R ∧ n ∉ T := by
  have h' := h
  unfold blockU at h
  rw [List.mem_filter, List.mem_map, Bool.and_eq_true, decide_eq_true_eq] at h
  obtain ⟨⟨r, hr, rfl⟩, hb, _⟩ := h
  have := hR.2 r hr
  have q := (mem_block hp hR (by omega) (by omega) hb).mp h'
  exact ⟨by omega, by omega, hb, q⟩
theorem block_ord {b p k : Int} {T R : List Int} (hR : Asc R p) : (blockU b T p R k).Pairwise (· < ·) := by
  refine List.Pairwise.sublist List.filter_sublist ?_
  rw [List.pairwise_map]
  exact hR.1.imp fun h => by omega
theorem last_max : ∀ {S : List Int}, S.Pairwise (· < ·) → S ≠ [] → S.getLastD 0 ∈ S ∧ ∀ n ∈ S, n ≤ S.getLastD 0
  | [], _, h => absurd rfl h
  | [x], _, _ => ⟨by simp, by simp⟩
  | x :: y :: S, h, _ => by
    obtain ⟨h1, h2⟩ := List.pairwise_cons.mp h
    obtain ⟨h3, h4⟩ := last_max h2 (by simp)
    have e : (x :: y :: S).getLastD 0 = (y :: S).getLastD 0 := by simp [List.getLastD_eq_getLast?]
    rw [e]
    refine ⟨List.mem_cons_of_mem _ h3, fun n hn => ?_⟩
    rcases List.mem_cons.mp hn with q | q
    · rw [q]; exact Int.le_of_lt (h1 _ h3)
    · exact h4 n q
theorem lu_cond {b p k : Int} {T R : List Int} {x6 : Option Cell} : p_last_untold_2 (envU b T p R k x6) = .ok (!R.isEmpty && decide (0 ≤ k)) (envU b T p R k x6) := by
  have hn := ne_nilT R
  unfold p_last_untold_2
  unfold envU at *
  cases h : R.isEmpty <;> rw [h] at hn <;> simp [hn]
theorem lu_loop {b p : Int} {T R : List Int} (hb : 0 ≤ b) (hb2 : b < 100000) (hp : 1 ≤ p) (hp2 : p < 1000000) (hR : Asc R p) (hz : R.length ≤ 1000) :
    (∃ k y6, whileD p_last_untold_2 p_last_untold_3 fuel (envU b T p R (b / p) none) = .next (envU b T p R k y6) ∧ Cl y6 ∧ IsUn b T p R (-1)) ∨
    (∃ u k y6, whileD p_last_untold_2 p_last_untold_3 fuel (envU b T p R (b / p) none) = .ret (.dat (.int u)) (envU b T p R k y6) ∧ IsUn b T p R u) := by
  have hbp : b / p ≤ b := Int.ediv_le_self p hb
  have hbp0 : 0 ≤ b / p := Int.ediv_nonneg hb (by omega)
  have key := whileD_inv (c := p_last_untold_2) (ψ := p_last_untold_3)
    (I := fun m ρ => ∃ (k : Int) (x6 : Option Cell), ρ = envU b T p R k x6 ∧ Cl x6 ∧ -1 ≤ k ∧ m = (k + 1).toNat ∧ ∀ n, (k + 1) * p ≤ n → n < b → n % p ∈ R → n ∈ T)
    (Post := fun o => (∃ k y6, o = .next (envU b T p R k y6) ∧ Cl y6 ∧ IsUn b T p R (-1)) ∨ (∃ u k y6, o = .ret (.dat (.int u)) (envU b T p R k y6) ∧ IsUn b T p R u))
    (fun m ρ ⟨k, x6, e, c6, hk, hm, hno⟩ => by
      subst e
      have hc := lu_cond (b := b) (p := p) (k := k) (T := T) (R := R) (x6 := x6)
      by_cases hr : R = []
      · subst hr
        exact .inl ⟨_, hc, .inl ⟨k, x6, rfl, c6, ⟨Int.le_refl _, fun h => absurd h (by decide), fun n _ _ _ h => absurd h List.not_mem_nil⟩⟩⟩
      · have hre : R.isEmpty = false := by cases R with | nil => exact absurd rfl hr | cons _ _ => rfl
        rw [hre] at hc
        by_cases hk0 : 0 ≤ k
        · have ht := lu_body (b := b) (p := p) (k := k) (T := T) (R := R) (x6 := x6) hp hp2 hz c6
          refine .inr ⟨envU b T p R k x6, hc.trans (by simp [hk0]), ?_⟩
          by_cases hB : blockU b T p R k = []
          · rw [if_pos hB] at ht
            refine .inl ⟨_, (k - 1 + 1).toNat, .inl ht, by omega, k - 1, _, rfl, .dat _, by omega, rfl, fun n h1 h2 h3 => ?_⟩
            rcases Int.lt_or_le n ((k + 1) * p) with q | q
            · rw [show k - 1 + 1 = k by omega] at h1
              rw [Int.add_mul, Int.one_mul] at q
              rcases Classical.em (n ∈ T) with w | w
              · exact w
              · have := (mem_block (T := T) hp hR h1 q h2).mpr ⟨h3, w⟩
                rw [hB] at this
                exact absurd this List.not_mem_nil
            · exact hno n q h2 h3
          · rw [if_neg hB] at ht
            refine .inr (.inr ⟨_, _, ht, .inr ⟨_, k, _, rfl, ?_⟩⟩)
            obtain ⟨q1, q2⟩ := last_max (block_ord hR) hB
            obtain ⟨a1, a2, a3, a4, a5⟩ := block_mem hp hR q1
            have hkp : 0 ≤ k * p := Int.mul_nonneg hk0 (by omega)
            refine ⟨by omega, fun _ => ⟨a3, a5, a4⟩, fun n h1 h2 h3 h4 => ?_⟩
            rcases Int.lt_or_le n ((k + 1) * p) with q | q
            · rw [Int.add_mul, Int.one_mul] at q
              rcases Classical.em (n ∈ T) with w | w
              · exact w
              · have := q2 n ((mem_block (T := T) hp hR (by omega) q h3).mpr ⟨h4, w⟩)
                omega
            · exact hno n q h3 h4
        · have e : k = -1 := by omega
          subst e
          refine .inl ⟨envU b T p R (-1) x6, hc.trans (by simp), .inl ⟨-1, x6, rfl, c6, ⟨Int.le_refl _, fun h => absurd h (by decide), fun n _ h2 h3 h4 => hno n (by simpa using h2) h3 h4⟩⟩⟩)
    fuel (b / p + 1).toNat (envU b T p R (b / p) none) (by unfold fuel; omega) ⟨b / p, none, rfl, .none, by omega, rfl, fun n h1 h2 _ => by
      have := Int.lt_ediv_add_one_mul_self b (show 0 < p by omega)
      omega⟩
  exact key
theorem last_untold_is {b p : Int} {T R : List Int} (hb : 0 ≤ b) (hb2 : b < 100000) (hp : 1 ≤ p) (hp2 : p < 1000000) (hR : Asc R p) (hz : R.length ≤ 1000) (hzT : T.length ≤ 1000) : ∃ u, IsUn b T p R u ∧
    d_last_untold [some (.dat (.int b)), some (.dat (.tuple (T.map .int))), some (.dat (.int p)), some (.dat (.tuple (R.map .int)))] = .ret (.dat (.int u)) [none, none, none, none] := by
  have hdc := dc_ints (v := 7) (ρ := [some (.dat (.int b)), some (.dat (.tuple (T.map .int))), some (.dat (.int p)), some (.dat (.tuple (R.map .int))), none, none, none, none, none]) rfl T
  have hd : gDiv (.int b) (.int p) = some (.int (b / p)) := gDiv_pos (by omega)
  have z1 : T.length ≤ 16777216 := by omega
  unfold d_last_untold
  rw [ev_fnD]
  rcases lu_loop (T := T) hb hb2 hp hp2 hR hz with ⟨k, y6, h1, c6, h2⟩ | ⟨u, k, y6, h1, h2⟩
  · refine ⟨-1, h2, ?_⟩
    unfold envU at h1
    simp [hdc, hd, z1, wipeE, unwipe, datOnly, h1]
  · refine ⟨u, h2, ?_⟩
    unfold envU at h1
    simp [hdc, hd, z1, wipeE, unwipe, datOnly, h1]
end K23


namespace K23
open PySem PySem.Spec L2 DL
/-! k23: least_set -/
theorem ints_map : ∀ ns : List Int, intsD (ns.map PyData.int) = some ns
  | [] => rfl
  | n :: ns => by
    show intsD (.int n :: ns.map PyData.int) = _
    unfold intsD
    rw [ints_map ns]
    rfl
theorem max_is (x : Int) (ns : List Int) : ∃ m, gMax [.list ((x :: ns).map .int)] = some (.int m) ∧ m ∈ x :: ns ∧ ∀ y ∈ x :: ns, y ≤ m := by
  refine ⟨ns.foldl (fun a b => if a < b then b else a) x, ?_, ?_, ?_⟩
  · show ((intsD ((x :: ns).map .int)).bind fun ns => (maxI ns).map PyData.int) = _
    rw [ints_map]
    rfl
  · rcases (fold_max ns x).1 with h | h
    · rw [h]; exact List.mem_cons_self
    · exact List.mem_cons_of_mem _ h
  · intro y hy
    rcases List.mem_cons.mp hy with h | h
    · rw [h]; exact (fold_max ns x).2.1
    · exact (fold_max ns x).2.2 y h
theorem lb_of {b p u m : Int} {T R : List Int} (g : Good b T p R) (hu : IsUn b T p R u) (h1 : m ∈ -1 :: u :: T.filter fun t => !decide (t % p ∈ R)) (h2 : ∀ y ∈ -1 :: u :: T.filter fun t => !decide (t % p ∈ R), y ≤ m) : IsLb b T p R (m + 1) := by
  have hm1 : -1 ≤ m := h2 _ List.mem_cons_self
  have hmu : u ≤ m := h2 _ (List.mem_cons_of_mem _ List.mem_cons_self)
  have hb := g.b0
  have ht : ∀ {t}, t ∈ (T.filter fun t => !decide (t % p ∈ R)) ↔ t ∈ T ∧ ¬ t % p ∈ R := fun {t} => by
    rw [List.mem_filter, Bool.not_eq_true', decide_eq_false_iff_not]
  have cases' : m = -1 ∨ m = u ∨ (m ∈ T ∧ ¬ m % p ∈ R) := by
    rcases List.mem_cons.mp h1 with e | e
    · exact .inl e
    · rcases List.mem_cons.mp e with e | e
      · exact .inr (.inl e)
      · exact .inr (.inr (ht.mp e))
  refine ⟨by omega, ?_, fun n hn hnb => ?_, fun hl hag => ?_⟩
  · rcases cases' with e | e | e
    · omega
    · rcases Int.lt_or_le u 0 with q | q
      · omega
      · have := (hu.at' q).1; omega
    · have := g.t.2 m e.1; omega
  · constructor
    · intro h
      rcases Classical.em (n % p ∈ R) with w | w
      · exact w
      · have := h2 n (List.mem_cons_of_mem _ (List.mem_cons_of_mem _ (ht.mpr ⟨h, w⟩)))
        omega
    · intro h
      exact hu.no n (by omega) (by omega) hnb h
  · rw [show m + 1 - 1 = m by omega] at hag
    rcases cases' with e | e | e
    · omega
    · subst e
      have := hu.at' (by omega)
      exact this.2.1 (hag.mpr this.2.2)
    · exact e.2 (hag.mp e.1)
theorem ls_lc1 (d bd td : D) {p : Int} (hp : 1 ≤ p) (T R : List Int) : lcD [10] (gSet 10) (xTest (xOp (gInC true) (xOp gMod (xName 10) (xName 3)) (xName 5))) (xName 10) (T.map PyData.int) [some (.dat d), some (.dat bd), some (.dat td), some (.dat (.int p)), some (.dat (.tuple (R.map .int))), some (.dat (.dict (dictI R))), none, none, none, none, none, none] = .ok ((T.filter fun t => !decide (t % p ∈ R)).map PyData.int) [some (.dat d), some (.dat bd), some (.dat td), some (.dat (.int p)), some (.dat (.tuple (R.map .int))), some (.dat (.dict (dictI R))), none, none, none, none, none, none] := by
  refine lcD_filter (g := PyData.int) (f := PyData.int) fun n _ => ⟨[some (.dat d), some (.dat bd), some (.dat td), some (.dat (.int p)), some (.dat (.tuple (R.map .int))), some (.dat (.dict (dictI R))), none, none, none, none, some (.dat (.int n)), none], ?_, by simp [wipeE]⟩
  have hm : gMod (.int n) (.int p) = some (.int (n % p)) := gMod_pos (by omega)
  by_cases h : n % p ∈ R <;> simp [lcTurn, hm, in_dict, h]
theorem least_set_is {b p : Int} {T R : List Int} (g : Good b T p R) (hb2 : b < 100000) (hp2 : p < 1000000) (hz : R.length ≤ 1000) (hzT : T.length ≤ 1000) : ∃ l f, IsLb b T p R l ∧ IsPer p R f ∧
    d_least_set [some (.dat (form b T p R))] = .ret (.dat (form l (leastT T l) f (leastR R f))) [none] := by
  have hp := g.p1
  obtain ⟨u, hu, e1⟩ := last_untold_is g.b0 hb2 hp hp2 g.r hz hzT
  obtain ⟨f, hf, e2⟩ := least_period_is hp g.r hz
  obtain ⟨m, e3, h1, h2⟩ := max_is (-1) (u :: T.filter fun t => !decide (t % p ∈ R))
  refine ⟨m + 1, f, lb_of g hu h1 h2, hf, ?_⟩
  have hdc := dc_ints (v := 9) (ρ := [some (.dat (form b T p R)), some (.dat (.int b)), some (.dat (.tuple (T.map .int))), some (.dat (.int p)), some (.dat (.tuple (R.map .int))), none, none, none, none, none, none, none]) rfl R
  have hl1 := ls_lc1 (form b T p R) (.int b) (.tuple (T.map .int)) hp T R
  have hl2 : lcD [11] (gSet 11) (xTest (xOp gLe (xName 11) (xName 6))) (xName 11) (T.map PyData.int) [some (.dat (form b T p R)), some (.dat (.int b)), some (.dat (.tuple (T.map .int))), some (.dat (.int p)), some (.dat (.tuple (R.map .int))), some (.dat (.dict (dictI R))), some (.dat (.int m)), some (.dat (.int f)), none, none, none, none] = .ok ((leastT T (m + 1)).map .int) [some (.dat (form b T p R)), some (.dat (.int b)), some (.dat (.tuple (T.map .int))), some (.dat (.int p)), some (.dat (.tuple (R.map .int))), some (.dat (.dict (dictI R))), some (.dat (.int m)), some (.dat (.int f)), none, none, none, none] := by
    refine lcD_filter (g := PyData.int) (f := PyData.int) fun n _ => ⟨[some (.dat (form b T p R)), some (.dat (.int b)), some (.dat (.tuple (T.map .int))), some (.dat (.int p)), some (.dat (.tuple (R.map .int))), some (.dat (.dict (dictI R))), some (.dat (.int m)), some (.dat (.int f)), none, none, none, some (.dat (.int n))], ?_, by simp [wipeE]⟩
    by_cases h : n ≤ m
    · have h' : n < m + 1 := by omega
      simp [lcTurn, h, h']
    · have h' : ¬ n < m + 1 := by omega
      simp [lcTurn, h, h']
  have hl3 : lcD [9] (gSet 9) (xTest (xOp gLt (xName 9) (xName 7))) (xName 9) (R.map PyData.int) [some (.dat (form b T p R)), some (.dat (.int b)), some (.dat (.tuple (T.map .int))), some (.dat (.int p)), some (.dat (.tuple (R.map .int))), some (.dat (.dict (dictI R))), some (.dat (.int m)), some (.dat (.int f)), some (.dat (.tuple ((leastT T (m + 1)).map .int))), none, none, none] = .ok ((leastR R f).map .int) [some (.dat (form b T p R)), some (.dat (.int b)), some (.dat (.tuple (T.map .int))), some (.dat (.int p)), some (.dat (.tuple (R.map .int))), some (.dat (.dict (dictI R))), some (.dat (.int m)), some (.dat (.int f)), some (.dat (.tuple ((leastT T (m + 1)).map .int))), none, none, none] := by
    refine lcD_filter (g := PyData.int) (f := PyData.int) fun n _ => ⟨[some (.dat (form b T p R)), some (.dat (.int b)), some (.dat (.tuple (T.map .int))), some (.dat (.int p)), some (.dat (.tuple (R.map .int))), some (.dat (.dict (dictI R))), some (.dat (.int m)), some (.dat (.int f)), some (.dat (.tuple ((leastT T (m + 1)).map .int))), some (.dat (.int n)), none, none], ?_, by simp [wipeE]⟩
    by_cases h : n < f <;> simp [lcTurn, h]
  have zT : T.length ≤ 16777216 := by omega
  have zR : R.length ≤ 16777216 := by omega
  have zF : (T.filter fun t => !decide (t % p ∈ R)).length ≤ 1000 := Nat.le_trans (List.length_filter_le _ _) hzT
  have e4 : gAddA (.list [.int (-1), .int u]) (.list ((T.filter fun t => !decide (t % p ∈ R)).map .int)) = some (.list ((-1 :: u :: T.filter fun t => !decide (t % p ∈ R)).map .int)) := by
    rw [gAddA_list (by rw [List.length_map]; simp only [List.length_cons, List.length_nil]; omega)]
    rfl
  have e5 : ∀ L : List D, gTuple [.list L] = some (.tuple L) := fun L => rfl
  generalize (-1 :: u :: T.filter fun t => !decide (t % p ∈ R)) = M at e3 e4
  generalize (T.filter fun t => !decide (t % p ∈ R)) = S at hl1 e4 zF
  unfold form at *
  generalize leastT T (m + 1) = LT at *
  generalize leastR R f = LR at *
  unfold d_least_set p_least_set_1
  rw [ev_fnD]
  simp [gTupD, gsCons, gsNil, hdc, hl1, hl2, hl3, e1, e2, e3, e4, e5, zT, zR, wipeE, unwipe, datOnly]
end K23


namespace K23
open PySem PySem.Spec L2 DL
/-! k23: the law's own least set -/
theorem range0 (n : Nat) : rangeL 0 n = (upTo n).map PyData.int := by
  unfold rangeL upTo
  rw [List.map_map]
  apply List.map_congr_left
  intro i _
  show PyData.int _ = PyData.int _
  rw [Int.zero_add]
theorem range1 (n : Nat) : rangeL 1 n = ((List.range n).map (1 + ·)).map fun i : Nat => PyData.int (i : Int) := by
  unfold rangeL
  rw [List.map_map]
  apply List.map_congr_left
  intro i _
  show PyData.int _ = PyData.int _
  congr 1
theorem eqvAll_bools : ∀ a b : List Bool, PyData.eqvAll (a.map .bool) (b.map .bool) = decide (a = b)
  | [], [] => rfl
  | [], _ :: _ => by simp [PyData.eqvAll]
  | _ :: _, [] => by simp [PyData.eqvAll]
  | x :: a, y :: b => by
    simp only [List.map_cons, PyData.eqvAll]
    rw [eqvAll_bools a b]
    have : PyData.eqv (.bool x) (.bool y) = decide (x = y) := by cases x <;> cases y <;> rfl
    rw [this, ← Bool.decide_and, decide_eq_decide, List.cons.injEq]
theorem shB (a : List Bool) : Sh 1 (.list (a.map .bool)) := Sh.list fun d h => by
  obtain ⟨i, _, rfl⟩ := List.mem_map.mp h
  exact .bool i
theorem eq_bools (a b : List Bool) : gEqA (.list (a.map .bool)) (.list (b.map .bool)) = some (.bool (decide (a = b))) := by
  have e : gEq (.list (a.map .bool)) (.list (b.map .bool)) = some (.bool (decide (a = b))) := by
    unfold gEq
    rw [if_pos ⟨(shB a).shaped (by decide), (shB b).shaped (by decide)⟩]
    simp only [PyData.eqv]
    rw [eqvAll_bools]
  unfold gEqA
  rw [e]
  rfl
def envL (b : Int) (T : List Int) (p : Int) (R : List Int) (c5 c6 c7 c8 c9 : Option Cell) : DL.Env := [some (.dat (form b T p R)), some (.dat (.int b)), some (.dat (.tuple (T.map .int))), some (.dat (.int p)), some (.dat (.tuple (R.map .int))), c5, c6, c7, c8, c9, none, none]
theorem ll_tail {b p : Int} (hp : 1 ≤ p) (T R : List Int) : lcD [10] (gSet 10) xYes p__law_least_1 (rangeL 0 (2 * p).toNat) (envL b T p R none none none none none) = .ok ((tail2 b p R).map .bool) (envL b T p R none none none none none) := by
  unfold tail2
  rw [List.map_map]
  refine lcD_gen (g := fun k : Nat => PyData.int (0 + (k : Int))) (f := fun k : Nat => PyData.bool (decide ((b + (k : Int)) % p ∈ R))) fun k _ => ⟨(envL b T p R none none none none none).set 10 (some (.dat (.int (0 + (k : Int))))), ?_, by simp [wipeE, envL]⟩
  have hm : gMod (.int (b + (k : Int))) (.int p) = some (.int ((b + (k : Int)) % p)) := gMod_pos (by omega)
  simp [lcTurn, envL, p__law_least_1, hm, in_tup]
theorem ll_short {b p : Int} (hp : 1 ≤ p) (T R : List Int) : lcD [11] (gSet 11) p__law_least_2 (xName 11) (rangeL 1 p.toNat) (envL b T p R (some (.dat (.list ((tail2 b p R).map .bool)))) none none none none) = .ok ((shorts b p R).map fun f : Nat => PyData.int (f : Int)) (envL b T p R (some (.dat (.list ((tail2 b p R).map .bool)))) none none none none) := by
  rw [range1]
  unfold shorts
  refine lcD_filter (g := fun k : Nat => PyData.int (k : Int)) (f := fun k : Nat => PyData.int (k : Int)) fun k hk => ⟨(envL b T p R (some (.dat (.list ((tail2 b p R).map .bool)))) none none none none).set 11 (some (.dat (.int (k : Int)))), ?_, by simp [wipeE, envL]⟩
  obtain ⟨i, hi, rfl⟩ := List.mem_map.mp hk
  have hi := List.mem_range.mp hi
  have hm : gMod (.int p) (.int ((1 + i : Nat) : Int)) = some (.int (p % ((1 + i : Nat) : Int))) := gMod_pos (by omega)
  have hl : (tail2 b p R).length = (2 * p).toNat := by simp [tail2]
  have hc1 : cutD ((tail2 b p R).map PyData.bool) (some ((1 + i : Nat) : Int)) none = ((tail2 b p R).drop (1 + i)).map .bool := by
    rw [cutD_from _ (by omega), List.map_drop, Int.toNat_natCast]
  have hc2 : cutD ((tail2 b p R).map PyData.bool) none (some (((2 * p).toNat : Int) - ((1 + i : Nat) : Int))) = ((tail2 b p R).take ((2 * p).toNat - (1 + i))).map .bool := by
    rw [cutD_to _ (by omega), List.map_take]
    congr 1
    omega
  have he := eq_bools ((tail2 b p R).drop (1 + i)) ((tail2 b p R).take ((2 * p).toNat - (1 + i)))
  have hlk : lawOk b p R (1 + i) = (decide (p % ((1 + i : Nat) : Int) = 0) && decide ((tail2 b p R).drop (1 + i) = (tail2 b p R).take ((2 * p).toNat - (1 + i)))) := rfl
  rw [hlk]
  generalize hk : ((1 + i : Nat) : Int) = kk at *
  generalize (tail2 b p R).drop (1 + i) = A at *
  generalize (tail2 b p R).take ((2 * p).toNat - (1 + i)) = B at *
  rw [← hl] at hc2
  generalize tail2 b p R = TL at *
  by_cases h1 : p % kk = 0
  · by_cases h2 : A = B
    · rw [decide_eq_true h2] at he
      subst h2
      simp [lcTurn, envL, p__law_least_2, hm, h1, hc1, hc2, he]
    · rw [decide_eq_false h2] at he
      simp [lcTurn, envL, p__law_least_2, hm, h1, hc1, hc2, he, h2]
  · simp [lcTurn, envL, p__law_least_2, hm, h1]

theorem eq_bool (x y : Bool) : gEqA (.bool x) (.bool y) = some (.bool (x == y)) := by
  have e : gEq (.bool x) (.bool y) = some (.bool (x == y)) := by
    unfold gEq
    rw [if_pos ⟨(Sh.bool x).shaped (by decide), (Sh.bool y).shaped (by decide)⟩]
    cases x <;> cases y <;> rfl
  unfold gEqA
  rw [e]
  rfl
theorem ll_loop {b p f : Int} {T R : List Int} (g : Good b T p R) (hb2 : b < 100000) (k : IsPer p R f) (x5 : Option Cell) : ∃ l, IsLb b T p R l ∧
    whileD p__law_least_3 (yAug gSub 7 (xC (.int 1))) fuel (envL b T p R x5 (some (.dat (.int f))) (some (.dat (.int b))) none none) = .next (envL b T p R x5 (some (.dat (.int f))) (some (.dat (.int l))) none none) := by
  have hb := g.b0
  have hf := k.pos
  have key := whileD_inv (c := p__law_least_3) (ψ := yAug gSub 7 (xC (.int 1)))
    (I := fun m ρ => ∃ l : Int, ρ = envL b T p R x5 (some (.dat (.int f))) (some (.dat (.int l))) none none ∧ 0 ≤ l ∧ l ≤ b ∧ m = l.toNat ∧ ∀ n, l ≤ n → n < b → Agree T p R n)
    (Post := fun o => ∃ l, o = .next (envL b T p R x5 (some (.dat (.int f))) (some (.dat (.int l))) none none) ∧ IsLb b T p R l)
    (fun m ρ ⟨l, e, h0, h1, hm, hag⟩ => by
      subst e
      have ab : ∀ n, l ≤ n → inS b T p R n = decide (n % p ∈ R) := fun n hn => by
        unfold inS
        by_cases c : n < b
        · rw [if_pos c, decide_eq_decide]; exact hag n hn c
        · rw [if_neg c]
      have q1 := law_in_is b p (l - 1) T R g.p1
      have q2 := law_in_is b p (l - 1 + f) T R g.p1
      have q3 := eq_bool (inS b T p R (l - 1)) (inS b T p R (l - 1 + f))
      by_cases hl : 0 < l
      · have i1 : inS b T p R (l - 1) = decide (l - 1 ∈ T) := if_pos (by omega)
        have i2 : inS b T p R (l - 1 + f) = decide ((l - 1) % p ∈ R) := by
          rw [ab _ (by omega), decide_eq_decide]
          exact (shift_iff k.pos k.dvd g.p1 k.sh (l - 1)).symm
        have hc : p__law_least_3 (envL b T p R x5 (some (.dat (.int f))) (some (.dat (.int l))) none none) = .ok (inS b T p R (l - 1) == inS b T p R (l - 1 + f)) (envL b T p R x5 (some (.dat (.int f))) (some (.dat (.int l))) none none) := by
          simp [p__law_least_3, envL, hl, q1, q2, q3]
        rw [i1, i2] at hc
        by_cases ha : Agree T p R (l - 1)
        · have hc2 : p__law_least_3 (envL b T p R x5 (some (.dat (.int f))) (some (.dat (.int l))) none none) = .ok true (envL b T p R x5 (some (.dat (.int f))) (some (.dat (.int l))) none none) := hc.trans (by rw [show decide (l - 1 ∈ T) = decide ((l - 1) % p ∈ R) from decide_eq_decide.mpr ha, beq_self_eq_true])
          refine .inr ⟨_, hc2, .inl ⟨envL b T p R x5 (some (.dat (.int f))) (some (.dat (.int (l - 1)))) none none, (l - 1).toNat, .inl ?_, by omega, l - 1, rfl, by omega, by omega, rfl, fun n h2 h3 => ?_⟩⟩
          · simp [envL]
          · by_cases e : n = l - 1
            · rw [e]; exact ha
            · exact hag n (by omega) h3
        · have hc2 : p__law_least_3 (envL b T p R x5 (some (.dat (.int f))) (some (.dat (.int l))) none none) = .ok false (envL b T p R x5 (some (.dat (.int f))) (some (.dat (.int l))) none none) := hc.trans (by rw [show (decide (l - 1 ∈ T) == decide ((l - 1) % p ∈ R)) = false from beq_eq_false_iff_ne.mpr fun z => ha (decide_eq_decide.mp z)])
          exact .inl ⟨_, hc2, l, rfl, h0, h1, hag, fun _ => ha⟩
      · refine .inl ⟨envL b T p R x5 (some (.dat (.int f))) (some (.dat (.int l))) none none, ?_, l, rfl, h0, h1, hag, fun z => absurd z hl⟩
        simp [p__law_least_3, envL, hl])
    fuel b.toNat (envL b T p R x5 (some (.dat (.int f))) (some (.dat (.int b))) none none) (by unfold fuel; omega) ⟨b, rfl, hb, Int.le_refl b, rfl, fun n h1 h2 => by omega⟩
  obtain ⟨l, h1, h2⟩ := key
  exact ⟨l, h2, h1⟩
theorem ll_found {b p l f : Int} {T R : List Int} (g : Good b T p R) (h : IsLb b T p R l) (x5 : Option Cell) : lcD [10] (gSet 10) p__law_least_4 (xName 10) (rangeL 0 l.toNat) (envL b T p R x5 (some (.dat (.int f))) (some (.dat (.int l))) none none) = .ok ((leastT T l).map PyData.int) (envL b T p R x5 (some (.dat (.int f))) (some (.dat (.int l))) none none) := by
  have e : leastT T l = (upTo l.toNat).filter (inS b T p R) := (found_is g h).symm
  rw [range0, e]
  refine lcD_filter (g := PyData.int) (f := PyData.int) fun n _ => ⟨(envL b T p R x5 (some (.dat (.int f))) (some (.dat (.int l))) none none).set 10 (some (.dat (.int n))), ?_, by simp [wipeE, envL]⟩
  have q := law_in_is b p n T R g.p1
  cases hi : inS b T p R n <;> rw [hi] at q <;> simp [lcTurn, envL, p__law_least_4, q, truth]
theorem ll_later {b p l f : Int} {T R : List Int} (g : Good b T p R) (k : IsPer p R f) (x5 x8 : Option Cell) : lcD [10] (gSet 10) p__law_least_5 p__law_least_6 (rangeL 0 f.toNat) (envL b T p R x5 (some (.dat (.int f))) (some (.dat (.int l))) x8 none) = .ok ((((upTo f.toNat).filter fun a => inS b T p R (l + a)).map fun a => (l + a) % f).map PyData.int) (envL b T p R x5 (some (.dat (.int f))) (some (.dat (.int l))) x8 none) := by
  rw [range0, List.map_map]
  refine lcD_filter (g := PyData.int) (f := fun a => PyData.int ((l + a) % f)) fun n _ => ⟨(envL b T p R x5 (some (.dat (.int f))) (some (.dat (.int l))) x8 none).set 10 (some (.dat (.int n))), ?_, by simp [wipeE, envL]⟩
  have q := law_in_is b p (l + n) T R g.p1
  have hf := k.pos
  have hm : gMod (.int (l + n)) (.int f) = some (.int ((l + n) % f)) := gMod_pos (by omega)
  cases hi : inS b T p R (l + n) <;> rw [hi] at q <;> simp [lcTurn, envL, p__law_least_5, p__law_least_6, q, truth, hm]
theorem law_least_is {b p : Int} {T R : List Int} (g : Good b T p R) (hb2 : b < 60) (hp2 : p < 60) : ∃ l f, IsLb b T p R l ∧ IsPer p R f ∧
    d__law_least [some (.dat (form b T p R))] = .ret (.dat (form l (leastT T l) f (leastR R f))) [none] := by
  have hp := g.p1
  have hb := g.b0
  obtain ⟨f, r, e1, hf⟩ := shorts_first (b := b) g.r.2 hp
  obtain ⟨l, hl, e2⟩ := ll_loop g (by omega) hf (some (.dat (.list ((tail2 b p R).map .bool))))
  refine ⟨l, f, hl, hf, ?_⟩
  have t1 := ll_tail (b := b) hp T R
  have t2 := ll_short (b := b) hp T R
  have t3 := ll_found (f := f) g hl (some (.dat (.list ((tail2 b p R).map .bool))))
  have t4 := ll_later (l := l) g hf (some (.dat (.list ((tail2 b p R).map .bool)))) (some (.dat (.tuple ((leastT T l).map .int))))
  have hfp : (f : Int) ≤ p := Int.le_of_dvd (by omega) hf.dvd
  have hf1 := hf.pos
  have hl0 := hl.l0
  have hlb := hl.lb
  have t5 : sortU (((upTo (f : Int).toNat).filter fun a => inS b T p R (l + a)).map fun a => (l + a) % (f : Int)) = leastR R f := ord_eq (sortU_ord _) ((asc_filter g.r).1) fun x => by
    rw [mem_sortU]
    exact later_mem g hl hf x
  have z4 : (((upTo (f : Int).toNat).filter fun a => inS b T p R (l + a)).map fun a => (l + a) % (f : Int)).length < 64 := by
    rw [List.length_map]
    have := List.length_filter_le (fun a => inS b T p R (l + a)) (upTo (f : Int).toNat)
    have : (upTo (f : Int).toNat).length = (f : Int).toNat := by simp [upTo]
    omega
  have m1 : gMulA (.int 2) (.int p) = some (.int (2 * p)) := gMulA_r (by omega)
  have r1 : gRange1 [.int (2 * p)] = some (rangeL 0 (2 * p).toNat) := gRange1_ok (by omega)
  have r2 : gRange2 [.int 1, .int (p + 1)] = some (rangeL 1 p.toNat) := by
    rw [gRange2_ok (by omega)]
    congr 2
    omega
  have r3 : gRange1 [.int l] = some (rangeL 0 l.toNat) := gRange1_ok (by omega)
  have r4 : gRange1 [.int (f : Int)] = some (rangeL 0 (f : Int).toNat) := gRange1_ok (by omega)
  have y1 : (rangeL 0 (2 * p).toNat).length ≤ 16777216 := by rw [rangeL_len]; omega
  have y2 : (rangeL 1 p.toNat).length ≤ 16777216 := by rw [rangeL_len]; omega
  have y3 : (rangeL 0 l.toNat).length ≤ 16777216 := by rw [rangeL_len]; omega
  have y4 : (rangeL 0 (f : Int).toNat).length ≤ 16777216 := by rw [rangeL_len]; omega
  have s1 : ∀ ns : List Int, ns.length < 64 → gSSetA (.list (ns.map .int)) = some (.list ((sortU ns).map .int)) := fun ns hz => by
    show (intsD (ns.map .int)).bind _ = _
    rw [intsD_map]
    exact if_pos hz
  have s2 := s1 _ z4
  rw [t5] at s2
  have e5 : ∀ L : List D, gTuple [.list L] = some (.tuple L) := fun L => rfl
  rw [e1] at t2
  clear t5 z4 s1
  generalize (tail2 b p R).map PyData.bool = TL at *
  generalize (((upTo (f : Int).toNat).filter fun a => inS b T p R (l + a)).map fun a => (l + a) % (f : Int)) = M at *
  generalize leastT T l = LT at *
  generalize leastR R f = LR at *
  generalize rangeL 0 (2 * p).toNat = r1 at *
  generalize rangeL 1 p.toNat = r2 at *
  generalize rangeL 0 l.toNat = r3 at *
  generalize rangeL 0 (f : Int).toNat = r4 at *
  unfold envL at *
  unfold form at *
  unfold d__law_least
  rw [ev_fnD]
  simp [gTupD, gsCons, gsNil, m1, r1, r2, r3, r4, y1, y2, y3, y4, t1, t2, t3, t4, e2, e5, s2, wipeE, unwipe, datOnly]
end K23


namespace K23
open PySem PySem.Spec L2 DL
/-! k23: any value as a form -/
def ascB (T : List Int) (c : Int) : Bool := decide (T.Pairwise (· < ·)) && T.all fun t => decide (0 ≤ t) && decide (t < c)
theorem ascB_iff {T : List Int} {c : Int} : ascB T c = true ↔ Asc T c := by
  unfold ascB Asc
  rw [Bool.and_eq_true, decide_eq_true_eq, List.all_eq_true]
  simp
theorem rising_iff : ∀ T : List Int, rising T = true ↔ T.Pairwise (· < ·)
  | [] => by simp [rising]
  | [x] => by simp [rising]
  | x :: y :: T => by
    have ih := rising_iff (y :: T)
    have e : rising (x :: y :: T) = (decide (x < y) && rising (y :: T)) := by simp [rising]
    rw [e, Bool.and_eq_true, decide_eq_true_eq, ih, List.pairwise_cons (a := x)]
    constructor
    · rintro ⟨h1, h2⟩
      refine ⟨fun z hz => ?_, h2⟩
      rcases List.mem_cons.mp hz with q | q
      · rw [q]; exact h1
      · exact Int.lt_trans h1 ((List.pairwise_cons.mp h2).1 z q)
    · rintro ⟨h1, h2⟩
      exact ⟨h1 y List.mem_cons_self, h2⟩
theorem below_asc (T : List Int) (c : Int) : below T c = ascB T c := by
  rw [Bool.eq_iff_iff]
  unfold below ascB
  rw [Bool.and_eq_true, Bool.and_eq_true, rising_iff, decide_eq_true_eq]
  refine and_congr_right fun h => ?_
  cases T with
  | nil => simp
  | cons x T =>
    obtain ⟨h1, h2⟩ := last_max h (by simp)
    have h3 := (List.pairwise_cons.mp h).1
    rw [List.all_eq_true]
    have e0 : ((x :: T).isEmpty || (decide (0 ≤ (x :: T).headD 0) && decide ((x :: T).getLastD 0 < c))) = (decide (0 ≤ x) && decide ((x :: T).getLastD 0 < c)) := rfl
    rw [e0, Bool.and_eq_true]
    constructor
    · rintro ⟨a, b⟩ t ht
      have a := of_decide_eq_true a
      have b := of_decide_eq_true b
      rw [Bool.and_eq_true, decide_eq_true_eq, decide_eq_true_eq]
      refine ⟨?_, Int.lt_of_le_of_lt (h2 t ht) b⟩
      rcases List.mem_cons.mp ht with q | q
      · rw [q]; exact a
      · have := h3 t q; omega
    · intro q
      have q1 := q x List.mem_cons_self
      have q2 := q _ h1
      rw [Bool.and_eq_true, decide_eq_true_eq, decide_eq_true_eq] at q1 q2
      exact ⟨decide_eq_true q1.1, decide_eq_true q2.2⟩
def rowB : D → Int → Bool
  | .tuple ds, c => match intsD ds with
    | some T => ascB T c
    | none => false
  | _, _ => false
def isForm : D → Bool
  | .tuple [.int b, t, .int p, r] => decide (0 ≤ b) && (decide (1 ≤ p) && (rowB t b && rowB r p))
  | _ => false
theorem intsD_whole : ∀ ds : List D, (intsD ds).isSome = ds.all whole
  | [] => rfl
  | d :: ds => by
    have ih := intsD_whole ds
    rw [List.all_cons]
    cases d <;> first | rfl | skip
    rw [← ih]
    rename_i i
    have e : intsD (.int i :: ds) = (intsD ds).map (i :: ·) := by
      conv => lhs; unfold intsD
    rw [e]
    cases intsD ds <;> rfl
theorem row_is (d : D) (c : Int) (hs : ∀ es, d = .tuple es → es.length ≤ 1000) : d_are_below [some (.dat d), some (.dat (.int c))] = .ret (.dat (.bool (rowB d c))) [none, none] := by
  cases d with
  | tuple ds =>
    have hl := hs ds rfl
    have hw := intsD_whole ds
    cases h : intsD ds with
    | none =>
      rw [h] at hw
      have := below_odd (.int c) (show ds.length ≤ 16777216 by omega) hw.symm
      rw [this]
      simp [rowB, h]
    | some T =>
      have e := intsD_eq h
      subst e
      rw [below_is T c (by rw [List.length_map] at hl; exact hl), below_asc]
      simp [rowB, h]
  | _ => unfold d_are_below; rw [ev_fnD]; simp [isiD, tyN, truth, rowB]
def Small (d : D) : Prop := ∀ ds, d = .tuple ds → ∀ e ∈ ds, ∀ es, e = .tuple es → es.length < 64
theorem form_is (d : D) (hs : Small d) : d_is_size_set_form [some (.dat d)] = .ret (.dat (.bool (isForm d))) [none] := by
  unfold d_is_size_set_form
  rw [ev_fnD]
  cases d with
  | tuple ds =>
    by_cases h4 : ds.length = 4
    · obtain ⟨a, t, c, r, rfl⟩ : ∃ a t c r, ds = [a, t, c, r] := by
        match ds, h4 with
        | [a, t, c, r], _ => exact ⟨a, t, c, r, rfl⟩
      have ht := fun x => row_is t x fun es e => Nat.le_of_lt (Nat.lt_trans (hs _ rfl t (by simp) es e) (by decide))
      have hr := fun x => row_is r x fun es e => Nat.le_of_lt (Nat.lt_trans (hs _ rfl r (by simp) es e) (by decide))
      have wa := is_integer_is a
      have wc := is_integer_is c
      cases a with
      | int b =>
        cases c with
        | int p =>
          by_cases h1 : 0 ≤ b
          · by_cases h2 : 1 ≤ p
            · cases h3 : rowB t b <;> have ht' := ht b <;> rw [h3] at ht' <;> simp [isiD, tyN, truth, isForm, whole, wa, wc, h1, h2, h3, ht', hr]
            · simp [isiD, tyN, truth, isForm, whole, wa, wc, h1, h2]
          · simp [isiD, tyN, truth, isForm, whole, wa, wc, h1]
        | _ => simp [isiD, tyN, truth, isForm, whole, wa, wc]
      | _ => simp [isiD, tyN, truth, isForm, whole, wa, wc]
    · have h4' : ¬ (ds.length : Int) = 4 := by omega
      have e : isForm (.tuple ds) = false := by
        unfold isForm
        split
        · rename_i q; cases q; exact absurd rfl h4
        · rfl
      simp [isiD, tyN, truth, e, h4, h4']
  | _ => simp [isiD, tyN, truth, isForm]
end K23


namespace K23
open PySem PySem.Spec L2 DL
/-! k23: the law's own look at any value -/
theorem eqvAll_ints : ∀ a b : List Int, PyData.eqvAll (a.map .int) (b.map .int) = decide (a = b)
  | [], [] => rfl
  | [], _ :: _ => by simp [PyData.eqvAll]
  | _ :: _, [] => by simp [PyData.eqvAll]
  | x :: a, y :: b => by
    simp only [List.map_cons, PyData.eqvAll]
    rw [eqvAll_ints a b]
    have : PyData.eqv (.int x) (.int y) = decide (x = y) := rfl
    rw [this, ← Bool.decide_and, decide_eq_decide, List.cons.injEq]
theorem shIL (a : List Int) : Sh 1 (.list (a.map .int)) := Sh.list fun d h => by
  obtain ⟨i, _, rfl⟩ := List.mem_map.mp h
  exact .int i
theorem ne_ints (a b : List Int) : gNeA (.list (a.map .int)) (.list (b.map .int)) = some (.bool (!decide (a = b))) := by
  have e : gNe (.list (a.map .int)) (.list (b.map .int)) = some (.bool (!decide (a = b))) := by
    unfold gNe
    rw [if_pos ⟨(shIL a).shaped (by decide), (shIL b).shaped (by decide)⟩]
    simp only [PyData.eqv]
    rw [eqvAll_ints]
  unfold gNeA
  rw [e]
  rfl
theorem ne_ones {α : Type} (l : List α) : gNeA (.list (l.map fun _ => PyData.int 1)) (.list []) = some (.bool (!l.isEmpty)) := by
  have := gNeA_nil (n := 1) (xs := l.map fun _ => PyData.int 1) (Sh.list fun d h => by
    obtain ⟨i, _, rfl⟩ := List.mem_map.mp h
    exact .int 1) (by decide)
  rw [this, List.isEmpty_map]
def envF (x b t p r y : D) (c : Int) : DL.Env := [some (.dat x), some (.dat b), some (.dat t), some (.dat p), some (.dat r), some (.dat y), some (.dat (.int c)), none]
theorem lf_lc1 (x b t p r y : D) (c : Int) (ds : List D) : lcD [7] (gSet 7) p__law_is_form_1 (xC (.int 1)) ds (envF x b t p r y c) = .ok ((ds.filter fun d => !whole d).map fun _ => .int 1) (envF x b t p r y c) := by
  have := lcD_filter (vs := [7]) (γ := gSet 7) (τ := p__law_is_form_1) (φ := xC (.int 1)) (ρ := envF x b t p r y c) (g := id) (f := fun _ => .int 1) (P := fun d => !whole d) (bs := ds) fun d _ => ⟨(envF x b t p r y c).set 7 (some (.dat d)), by
    have w := is_whole_is d
    cases h : whole d <;> rw [h] at w <;> simp [lcTurn, envF, p__law_is_form_1, w, truth, h], by simp [wipeE, envF]⟩
  rwa [List.map_id] at this
theorem lf_lc2 (x b t p r y : D) (c : Int) (T : List Int) : lcD [7] (gSet 7) p__law_is_form_2 (xC (.int 1)) (T.map PyData.int) (envF x b t p r y c) = .ok ((T.filter fun n => !(decide (0 ≤ n) && decide (n < c))).map fun _ => .int 1) (envF x b t p r y c) := by
  refine lcD_filter (g := PyData.int) (f := fun _ => .int 1) fun n _ => ⟨(envF x b t p r y c).set 7 (some (.dat (.int n))), ?_, by simp [wipeE, envF]⟩
  by_cases h1 : 0 ≤ n
  · by_cases h2 : n < c
    · simp [lcTurn, envF, p__law_is_form_2, h1, h2]
    · have h2' : c ≤ n := by omega
      simp [lcTurn, envF, p__law_is_form_2, h1, h2, h2']
  · have h1' : n < 0 := by omega
    simp [lcTurn, envF, p__law_is_form_2, h1, h1']
theorem lf_turn (x b t p r y : D) (c : Int) (hs : ∀ es, y = .tuple es → es.length < 64) : p__law_is_form_3 (envF x b t p r y c) = if rowB y c = true then .next (envF x b t p r y c) else .ret (.dat (.bool false)) (envF x b t p r y c) := by
  cases y with
  | tuple ds =>
    have hl := hs ds rfl
    have z1 : ds.length ≤ 16777216 := by omega
    have q1 := lf_lc1 x b t p r (.tuple ds) c ds
    have q2 := ne_ones (ds.filter fun d => !whole d)
    have hw := intsD_whole ds
    have e5 : gList [.tuple ds] = some (.list ds) := rfl
    cases h : intsD ds with
    | none =>
      rw [h] at hw
      have hne : (ds.filter fun d => !whole d).isEmpty = false := by
        cases hq : (ds.filter fun d => !whole d) with
        | cons _ _ => rfl
        | nil =>
          have : ds.all whole = true := by
            rw [List.all_eq_true]
            intro d hd
            have := List.filter_eq_nil_iff.mp hq d hd
            simpa using this
          rw [this] at hw
          cases hw
      have hr : rowB (.tuple ds) c = false := by simp [rowB, h]
      rw [hr, if_neg (by simp)]
      rw [hne] at q2
      generalize (ds.filter fun d => !whole d).map (fun _ => PyData.int 1) = L at q1 q2
      unfold p__law_is_form_3
      unfold envF at *
      simp [isiD, tyN, truth, z1, wipeE, unwipe, datOnly, q1, q2]
    | some T =>
      rw [h] at hw
      have hne : (ds.filter fun d => !whole d) = [] := by
        rw [List.filter_eq_nil_iff]
        intro d hd
        have := List.all_eq_true.mp hw.symm d hd
        simp [this]
      rw [hne] at q1 q2
      have e := intsD_eq h
      subst e
      have hl' : T.length < 64 := by rw [List.length_map] at hl; exact hl
      have q3 := lf_lc2 x b t p r (.tuple (T.map .int)) c T
      have q4 := ne_ones (T.filter fun n => !(decide (0 ≤ n) && decide (n < c)))
      have q5 := ne_ints T (sortU T)
      have q6 : gSSetA (.tuple (T.map .int)) = some (.list ((sortU T).map .int)) := by
        show (intsD (T.map .int)).bind _ = _
        rw [intsD_map]
        exact if_pos hl'
      have hr : rowB (.tuple (T.map .int)) c = ascB T c := by simp [rowB]
      have ha : ascB T c = (decide (T = sortU T) && (T.filter fun n => !(decide (0 ≤ n) && decide (n < c))).isEmpty) := by
        rw [Bool.eq_iff_iff, ascB_iff, Bool.and_eq_true, decide_eq_true_eq, List.isEmpty_iff, List.filter_eq_nil_iff]
        unfold Asc
        refine and_congr ⟨fun h => ord_eq h (sortU_ord T) fun k => mem_sortU.symm, fun h => by rw [h]; exact sortU_ord T⟩ ?_
        simp
      rw [hr, ha]
      simp only [List.map_nil, List.isEmpty_nil, Bool.not_true] at q1 q2
      generalize (T.filter fun n => !(decide (0 ≤ n) && decide (n < c))) = L2 at q3 q4 ⊢
      have z2 : T.length ≤ 16777216 := by omega
      unfold p__law_is_form_3
      unfold envF at *
      by_cases w1 : T = sortU T
      · rw [← w1] at q5 q6
        rw [← w1]
        cases w2 : L2.isEmpty <;> rw [w2] at q4 <;> simp [isiD, tyN, truth, z2, wipeE, unwipe, datOnly, q1, q2, e5, q3, q4, q5, q6]
      · rw [decide_eq_false w1] at q5
        simp [isiD, tyN, truth, z2, wipeE, unwipe, datOnly, q1, q2, e5, q3, q4, q5, q6, w1]
  | _ =>
    unfold p__law_is_form_3
    unfold envF
    simp [isiD, tyN, truth, rowB]
theorem law_form_is (d : D) (hs : Small d) : d__law_is_form [some (.dat d)] = .ret (.dat (.bool (isForm d))) [none] := by
  unfold d__law_is_form
  rw [ev_fnD]
  cases d with
  | tuple ds =>
    by_cases h4 : ds.length = 4
    · obtain ⟨a, t, c, r, rfl⟩ : ∃ a t c r, ds = [a, t, c, r] := by
        match ds, h4 with
        | [a, t, c, r], _ => exact ⟨a, t, c, r, rfl⟩
      have wa := is_whole_is a
      have wc := is_whole_is c
      cases a with
      | int b =>
        cases c with
        | int p =>
          have ht := lf_turn (.tuple [.int b, t, .int p, r]) (.int b) t (.int p) r t b (hs _ rfl t (by simp))
          have hr := lf_turn (.tuple [.int b, t, .int p, r]) (.int b) t (.int p) r r p (hs _ rfl r (by simp))
          by_cases h1 : 0 ≤ b
          · have h1' : ¬ b < 0 := by omega
            by_cases h2 : 1 ≤ p
            · have h2' : ¬ p < 1 := by omega
              have hloop : forD (gTupD 2 (gsCons (gSet 5) (gsCons (gSet 6) gsNil))) p__law_is_form_3 [.tuple [t, .int b], .tuple [r, .int p]] [some (.dat (.tuple [.int b, t, .int p, r])), some (.dat (.int b)), some (.dat t), some (.dat (.int p)), some (.dat r), none, none, none] = if (rowB t b && rowB r p) = true then .next (envF (.tuple [.int b, t, .int p, r]) (.int b) t (.int p) r r p) else if rowB t b = true then .ret (.dat (.bool false)) (envF (.tuple [.int b, t, .int p, r]) (.int b) t (.int p) r r p) else .ret (.dat (.bool false)) (envF (.tuple [.int b, t, .int p, r]) (.int b) t (.int p) r t b) := by
                have g1 : gTupD 2 (gsCons (gSet 5) (gsCons (gSet 6) gsNil)) (.tuple [t, .int b]) [some (.dat (.tuple [.int b, t, .int p, r])), some (.dat (.int b)), some (.dat t), some (.dat (.int p)), some (.dat r), none, none, none] = some (envF (.tuple [.int b, t, .int p, r]) (.int b) t (.int p) r t b) := by simp [gTupD, gsCons, gsNil, envF]
                have g2 : gTupD 2 (gsCons (gSet 5) (gsCons (gSet 6) gsNil)) (.tuple [r, .int p]) (envF (.tuple [.int b, t, .int p, r]) (.int b) t (.int p) r t b) = some (envF (.tuple [.int b, t, .int p, r]) (.int b) t (.int p) r r p) := by simp [gTupD, gsCons, gsNil, envF]
                cases h3 : rowB t b with
                | false =>
                  rw [h3, if_neg (by simp)] at ht
                  rw [forD_ret g1 ht]
                  rfl
                | true =>
                  rw [h3, if_pos rfl] at ht
                  rw [forD_step g1 (.inl ht)]
                  cases h4 : rowB r p with
                  | false =>
                    rw [h4, if_neg (by simp)] at hr
                    rw [forD_ret g2 hr]
                    rfl
                  | true =>
                    rw [h4, if_pos rfl] at hr
                    rw [forD_step g2 (.inl hr)]
                    rfl
              unfold envF at hloop
              cases h3 : rowB t b <;> cases h4 : rowB r p <;> rw [h3, h4] at hloop <;> simp [isiD, tyN, truth, isForm, whole, wa, wc, h1, h2, h1', h2', h3, h4, gTupD, gsCons, gsNil] at hloop ⊢ <;> simp [hloop]
            · have h2' : p < 1 := by omega
              simp [isiD, tyN, truth, isForm, whole, wa, wc, h1, h2, h1', h2', gTupD, gsCons, gsNil]
          · have h1' : b < 0 := by omega
            simp [isiD, tyN, truth, isForm, whole, wa, wc, h1, h1', gTupD, gsCons, gsNil]
        | _ => simp [isiD, tyN, truth, isForm, whole, wa, wc, gTupD, gsCons, gsNil]
      | _ => simp [isiD, tyN, truth, isForm, whole, wa, wc, gTupD, gsCons, gsNil]
    · have h4' : ¬ (ds.length : Int) = 4 := by omega
      have e : isForm (.tuple ds) = false := by
        unfold isForm
        split
        · rename_i q; cases q; exact absurd rfl h4
        · rfl
      simp [isiD, tyN, truth, e, h4, h4']
  | _ => simp [isiD, tyN, truth, isForm]
end K23


namespace K23
open PySem PySem.Spec L2 DL
/-! k23: what the law draws -/
theorem nc_int {i : Int} (h : -1 ≤ i ∧ i ≤ 50) : Nc 0 41 (.int i) := by
  by_cases e : i = -1
  · subst e
    exact ⟨Sh.int _, by decide +kernel, by decide +kernel, by decide +kernel⟩
  · have := Nc.nat (n := i.toNat) (by omega)
    rwa [Int.toNat_of_nonneg (by omega)] at this
theorem lit_0 : ("0" : Str) = Z [48] := by rw [Z_string]; rfl
theorem lit_a : ("a" : Str) = Z [97] := by rw [Z_string]; rfl
inductive Elem : D → Prop
  | none : Elem .none
  | bool (b : Bool) : Elem (.bool b)
  | int {i : Int} : -1 ≤ i ∧ i ≤ 50 → Elem (.int i)
  | zero : Elem (.str "0")
  | nil : Elem (.list [])
theorem Elem.nc {d : D} (h : Elem d) : Nc 1 41 d := by
  cases h with
  | none => exact Nc.none.mono (by decide) (by decide)
  | bool b => exact (Nc.bool b).mono (by decide) (by decide)
  | int h => exact (nc_int h).mono (by decide) (by decide)
  | zero => rw [lit_0]; exact (Nc.str (n := 1) ⟨by simp, by simp⟩).mono (by decide) (by decide)
  | nil => exact (Nc.list (n := 0) (w := 0) (k := 0) (xs := []) (by simp) (by simp)).mono (by decide) (by decide)
inductive Row : D → Prop
  | elem {d : D} : Elem d → Row d
  | list {ds : List D} : (∀ d ∈ ds, Elem d) → ds.length ≤ 50 → Row (.list ds)
  | tuple {ds : List D} : (∀ d ∈ ds, Elem d) → ds.length ≤ 50 → Row (.tuple ds)
theorem Row.nc {d : D} (h : Row d) : Nc 2 2100 d := by
  cases h with
  | elem h => exact h.nc.mono (by decide) (by decide)
  | list h k => exact Nc.list (fun d hd => (h d hd).nc) k
  | tuple h k => exact Nc.tuple (fun d hd => (h d hd).nc) k
inductive Thing : D → Prop
  | tup {ds : List D} : (∀ d ∈ ds, Row d) → ds.length ≤ 5 → Thing (.tuple ds)
  | list {ds : List D} : (∀ d ∈ ds, Row d) → ds.length ≤ 5 → Thing (.list ds)
  | none : Thing .none
  | bool (b : Bool) : Thing (.bool b)
  | a : Thing (.str "a")
  | dict : Thing (.dict [])
theorem Nc.repr {n w : Nat} {d : D} (h : Nc n w d) (hn : n ≤ 64) (hw : w ≤ 1048576) : gRepr [d] = some (.str d.shown) := by
  have lay : PyData.layable0 d = true := by
    unfold PyData.layable0
    rw [h.sh.1, decide_eq_true (Nat.le_trans h.sh.2 hn), decide_eq_true (Nat.le_trans h.wt hw)]
    rfl
  exact if_pos ⟨h.sh.shaped hn, h.show', Nat.le_trans (PyProof.Rows.shown_le13 lay h.short) (by decide)⟩
theorem repr_of {n w : Nat} {d : D} (h : Nc n w d) (hn : n ≤ 64) (hw : w ≤ 1048576) : gReprA [d] = some (.str d.shown) := by
  have := Nc.repr h hn hw
  unfold gReprA
  split
  · rename_i e
    cases e
    rfl
  · exact this
theorem Thing.repr {d : D} (h : Thing d) : gReprA [d] = some (.str d.shown) := by
  cases h with
  | tup h k => exact repr_of (Nc.tuple (fun d hd => (h d hd).nc) k) (by decide) (by decide)
  | list h k => exact repr_of (Nc.list (fun d hd => (h d hd).nc) k) (by decide) (by decide)
  | none => exact repr_of Nc.none (by decide) (by decide)
  | bool b => exact repr_of (Nc.bool b) (by decide) (by decide)
  | a => rw [lit_a]; exact repr_of (Nc.str (n := 1) ⟨by simp, by simp⟩) (by decide) (by decide)
  | dict => rfl
theorem Thing.small {d : D} (h : Thing d) : Small d := by
  intro ds e x hx es ex
  subst e ex
  cases h with
  | tup h k =>
    cases h _ hx with
    | elem q => cases q
    | tuple q z => omega
theorem row_ints {T : List Int} (h : ∀ t ∈ T, -1 ≤ t ∧ t ≤ 50) (k : T.length ≤ 50) : Row (.tuple (T.map .int)) :=
  .tuple (fun d hd => by obtain ⟨i, hi, rfl⟩ := List.mem_map.mp hd; exact .int (h i hi)) (by rw [List.length_map]; exact k)
theorem thing4 {a b c d : D} (ha : Row a) (hb : Row b) (hc : Row c) (hd : Row d) : Thing (.tuple [a, b, c, d]) := .tup (fun x hx => by
  simp only [List.mem_cons, List.not_mem_nil, or_false] at hx
  rcases hx with rfl | rfl | rfl | rfl <;> assumption) (by simp)
/-- a form's parts, small -/
structure Gs (b : Int) (T : List Int) (p : Int) (R : List Int) : Prop where
  g : Good b T p R
  b2 : b ≤ 12
  p2 : p ≤ 12
theorem Gs.tl {b p : Int} {T R : List Int} (g : Gs b T p R) : T.length ≤ 12 := by
  have := asc_len_le g.g.t
  have := g.b2
  omega
theorem Gs.rl {b p : Int} {T R : List Int} (g : Gs b T p R) : R.length ≤ 12 := by
  have := asc_len_le g.g.r
  have := g.p2
  omega
theorem Gs.tr {b p : Int} {T R : List Int} (g : Gs b T p R) : Row (.tuple (T.map .int)) := row_ints (fun t ht => by
  have := g.g.t.2 t ht
  have := g.b2
  omega) (by have := g.tl; omega)
theorem Gs.rr {b p : Int} {T R : List Int} (g : Gs b T p R) : Row (.tuple (R.map .int)) := row_ints (fun t ht => by
  have := g.g.r.2 t ht
  have := g.p2
  omega) (by have := g.rl; omega)
theorem Gs.br {b p : Int} {T R : List Int} (g : Gs b T p R) : Row (.int b) := .elem (.int (by have := g.b2; have := g.g.b0; omega))
theorem Gs.pr {b p : Int} {T R : List Int} (g : Gs b T p R) : Row (.int p) := .elem (.int (by have := g.p2; have := g.g.p1; omega))
theorem Gs.thing {b p : Int} {T R : List Int} (g : Gs b T p R) : Thing (form b T p R) := thing4 g.br g.tr g.pr g.rr
theorem Gs.least {b p l f : Int} {T R : List Int} (g : Gs b T p R) (h : IsLb b T p R l) (k : IsPer p R f) : Gs l (leastT T l) f (leastR R f) :=
  ⟨g.g.least h k, by have := h.lb; have := g.b2; omega, by have := Int.le_of_dvd (by have := g.g.p1; omega) k.dvd; have := g.p2; omega⟩
/-! what is a form, among these -/
theorem thing_form {d : D} (h : Thing d) (e : isForm d = true) : ∃ b T p R, d = form b T p R ∧ Good b T p R ∧ b ≤ 50 ∧ p ≤ 50 ∧ T.length ≤ 50 ∧ R.length ≤ 50 := by
  unfold isForm at e
  split at e
  · rename_i b t p r
    rw [Bool.and_eq_true, Bool.and_eq_true, Bool.and_eq_true, decide_eq_true_eq, decide_eq_true_eq] at e
    obtain ⟨e1, e2, e3, e4⟩ := e
    have row : ∀ {y : D} {c : Int}, Row y → rowB y c = true → ∃ T : List Int, y = .tuple (T.map .int) ∧ Asc T c ∧ T.length ≤ 50 := fun {y c} hr hb => by
      unfold rowB at hb
      split at hb
      · rename_i ds c
        split at hb
        · rename_i T hT
          have := intsD_eq hT
          subst this
          refine ⟨T, rfl, ascB_iff.mp hb, ?_⟩
          cases hr with
          | elem q => cases q
          | tuple q z => rw [List.length_map] at z; exact z
        · cases hb
      · cases hb
    cases h with
    | tup h k =>
      obtain ⟨T, rfl, a1, a2⟩ := row (h t (by simp)) e3
      obtain ⟨R, rfl, a3, a4⟩ := row (h r (by simp)) e4
      have hb : b ≤ 50 := by
        cases h (.int b) (by simp) with
        | elem q => cases q with | int z => omega
      have hp : p ≤ 50 := by
        cases h (.int p) (by simp) with
        | elem q => cases q with | int z => omega
      exact ⟨b, T, p, R, rfl, ⟨e1, e2, a1, a3⟩, hb, hp, a2, a4⟩
  · cases e
/-! alike -/
theorem alike_gen {x y : D} {s t : Str} {e : Bool} (h1 : gReprA [x] = some (.str s)) (h2 : gReprA [y] = some (.str t)) (h3 : gEqA x y = some (.bool e)) (h4 : e = true → s = t) : d__law_alike [some (.dat x), some (.dat y)] = .ret (.dat (.bool e)) [none, none] := by
  unfold d__law_alike
  rw [ev_fnD]
  by_cases q : s = t
  · simp [h1, h2, h3, q]
  · have : e = false := by cases e with | false => rfl | true => exact absurd (h4 rfl) q
    simp [h1, h2, q, this]
theorem sh_form (b p : Int) (T R : List Int) : Sh 2 (form b T p R) := Sh.tuple (n := 1) fun d hd => by
  simp only [List.mem_cons, List.not_mem_nil, or_false] at hd
  rcases hd with rfl | rfl | rfl | rfl
  · exact (Sh.int b).mono (by decide)
  · exact shT T
  · exact (Sh.int p).mono (by decide)
  · exact shT R
theorem eq_forms (b p b' p' : Int) (T R T' R' : List Int) : gEqA (form b T p R) (form b' T' p' R') = some (.bool (decide (b = b' ∧ T = T' ∧ p = p' ∧ R = R'))) := by
  have e : gEq (form b T p R) (form b' T' p' R') = some (.bool (decide (b = b' ∧ T = T' ∧ p = p' ∧ R = R'))) := by
    unfold gEq
    rw [if_pos ⟨(sh_form b p T R).shaped (by decide), (sh_form b' p' T' R').shaped (by decide)⟩]
    have ei : ∀ x y : Int, PyData.eqv (.int x) (.int y) = decide (x = y) := fun x y => rfl
    unfold form
    simp only [PyData.eqv, PyData.eqvAll, eqvAll_ints, ei]
    simp [Bool.decide_and]
    rfl
  unfold gEqA
  rw [e]
  rfl
end K23


namespace K23
open PySem PySem.Spec L2 DL
/-! k23: something otherwise -/
theorem some_ok {bag : D} (h : BagOk bag) {ds : List D} (hd : ds ≠ []) (hl : ds.length < 1073741824) : ∃ x bag', d__law_some [some (.own false bag), some (.dat (.list ds))] = .ret (.dat x) [some (.own false bag'), none] ∧ x ∈ ds ∧ BagOk bag' := h.some hd hl
theorem tk_ok {bag : D} (h : BagOk bag) {m : Int} (hm : 0 < m) (hm2 : m < 1073741824) : ∃ v bag', d__law_take [some (.own false bag), some (.dat (.int m))] = .ret (.dat (.int v)) [some (.own false bag'), none] ∧ 0 ≤ v ∧ v < m ∧ BagOk bag' := h.take hm hm2
theorem gAddA_tup {xs ys : List D} (h : xs.length + ys.length ≤ 16777216) : gAddA (.tuple xs) (.tuple ys) = some (.tuple (xs ++ ys)) := by
  have : gAdd (.tuple xs) (.tuple ys) = some (.tuple (xs ++ ys)) := if_pos h
  unfold gAddA
  rw [this]
  rfl
theorem elems_of {T : List Int} (h : ∀ t ∈ T, -1 ≤ t ∧ t ≤ 50) : ∀ d ∈ T.map PyData.int, Elem d := fun d hd => by
  obtain ⟨i, hi, rfl⟩ := List.mem_map.mp hd
  exact .int (h i hi)
theorem elems_snoc {ds : List D} {e : D} (h : ∀ d ∈ ds, Elem d) (he : Elem e) : ∀ d ∈ ds ++ [e], Elem d := fun d hd => by
  rcases List.mem_append.mp hd with q | q
  · exact h d q
  · rw [List.mem_singleton.mp q]; exact he
theorem rows_at {ds : List D} (h : ∀ d ∈ ds, Elem d) (hl : ds.length ≤ 40) : (Row (.tuple ds.reverse) ∧ Row (.list ds)) ∧ ∀ e, Elem e → Row (.tuple (ds ++ [e])) :=
  ⟨⟨.tuple (fun d hd => h d (List.mem_reverse.mp hd)) (by rw [List.length_reverse]; omega), .list h (by omega)⟩, fun e he => .tuple (elems_snoc h he) (by rw [List.length_append]; simp; omega)⟩
theorem bent_ok {bag : D} (hb : BagOk bag) {b p : Int} {T R : List Int} (g : Gs b T p R) : ∃ x bag', d__law_bent [some (.own false bag), some (.dat (form b T p R))] = .ret (.dat x) [some (.own false bag'), none] ∧ Thing x ∧ BagOk bag' := by
  obtain ⟨v, bag1, e1, v0, v1, hb1⟩ := tk_ok hb (m := 7) (by decide) (by decide)
  have rT := g.tr
  have rR := g.rr
  have rb := g.br
  have rp := g.pr
  have b0 := g.g.b0
  have b2 := g.b2
  have p1 := g.g.p1
  have p2 := g.p2
  have eT : ∀ d ∈ T.map PyData.int, Elem d := elems_of fun t ht => by have := g.g.t.2 t ht; omega
  have eR : ∀ d ∈ R.map PyData.int, Elem d := elems_of fun t ht => by have := g.g.r.2 t ht; omega
  have lT : (T.map PyData.int).length ≤ 12 := by rw [List.length_map]; exact g.tl
  have lR : (R.map PyData.int).length ≤ 12 := by rw [List.length_map]; exact g.rl
  obtain ⟨⟨rT1, rT2⟩, rT3⟩ := rows_at eT (by omega)
  obtain ⟨⟨rR1, rR2⟩, rR3⟩ := rows_at eR (by omega)
  have m1 : gMulA (.int 2) (.int p) = some (.int (2 * p)) := gMulA_r (by omega)
  have e5 : ∀ L : List D, gList [.tuple L] = some (.list L) := fun L => rfl
  have e6 : ∀ L : List D, gTuple [.list L] = some (.tuple L) := fun L => rfl
  have aT : ∀ e : D, gAddA (.tuple (T.map PyData.int)) (.tuple [e]) = some (.tuple (T.map PyData.int ++ [e])) := fun e => gAddA_tup (by simp only [List.length_cons, List.length_nil]; omega)
  have aR : ∀ e : D, gAddA (.tuple (R.map PyData.int)) (.tuple [e]) = some (.tuple (R.map PyData.int ++ [e])) := fun e => gAddA_tup (by simp only [List.length_cons, List.length_nil]; omega)
  have hv : v = 0 ∨ v = 1 ∨ v = 2 ∨ v = 3 ∨ v = 4 ∨ v = 5 ∨ v = 6 := by omega
  unfold d__law_bent
  rw [ev_fnD]
  have row5 : ∀ {ds : List D}, (∀ d ∈ ds, Row d) → ds.length ≤ 5 → Thing (.list ds) := fun h k => .list h k
  rcases hv with rfl | rfl | rfl | rfl | rfl | rfl | rfl
  · obtain ⟨x, bag2, e2, hx, hb2⟩ := some_ok hb1 (ds := [.none, .tuple [], .list [.int b, .tuple (T.map .int), .int p, .tuple (R.map .int)], .tuple [.int b, .tuple (T.map .int), .int p], .tuple ([.int b, .tuple (T.map .int), .int p, .tuple (R.map .int)] ++ [.int 0]), .str "a", .bool true, .dict []]) (by simp) (by simp)
    have c1 : cutD [PyData.int b, .tuple (T.map .int), .int p, .tuple (R.map .int)] none (some 3) = [.int b, .tuple (T.map .int), .int p] := by rw [cutD_to _ (by decide)]; rfl
    have c2 : gAddA (.tuple [.int b, .tuple (T.map .int), .int p, .tuple (R.map .int)]) (.tuple [.int 0]) = some (.tuple ([.int b, .tuple (T.map .int), .int p, .tuple (R.map .int)] ++ [.int 0])) := gAddA_tup (by simp)
    refine ⟨x, bag2, ?_, ?_, hb2⟩
    · unfold form at *
      generalize ([PyData.int b, .tuple (T.map .int), .int p, .tuple (R.map .int)] ++ [.int 0]) = Z5 at *
      simp [e1, gTupD, gsCons, gsNil, e5, c1, c2, e2]
    · simp only [List.mem_cons, List.not_mem_nil, or_false] at hx
      rcases hx with rfl | rfl | rfl | rfl | rfl | rfl | rfl | rfl
      · exact .none
      · exact .tup (by simp) (by simp)
      · exact .list (fun d hd => by
          simp only [List.mem_cons, List.not_mem_nil, or_false] at hd
          rcases hd with rfl | rfl | rfl | rfl <;> assumption) (by simp)
      · exact .tup (fun d hd => by
          simp only [List.mem_cons, List.not_mem_nil, or_false] at hd
          rcases hd with rfl | rfl | rfl <;> assumption) (by simp)
      · exact .tup (fun d hd => by
          simp only [List.cons_append, List.nil_append, List.mem_cons, List.not_mem_nil, or_false] at hd
          rcases hd with rfl | rfl | rfl | rfl | rfl
          · exact rb
          · exact rT
          · exact rp
          · exact rR
          · exact .elem (.int (by decide))) (by simp)
      · exact .a
      · exact .bool true
      · exact .dict
  · obtain ⟨x, bag2, e2, hx, hb2⟩ := some_ok hb1 (ds := [.int (b + 1), .int (-1), .bool true, .none, .str "0"]) (by simp) (by simp)
    refine ⟨.tuple [x, .tuple (T.map .int), .int p, .tuple (R.map .int)], bag2, ?_, thing4 ?_ rT rp rR, hb2⟩
    · unfold form at *
      simp [e1, gTupD, gsCons, gsNil, e2]
    · simp only [List.mem_cons, List.not_mem_nil, or_false] at hx
      rcases hx with rfl | rfl | rfl | rfl | rfl
      · exact .elem (.int (by omega))
      · exact .elem (.int (by decide))
      · exact .elem (.bool _)
      · exact .elem .none
      · exact .elem .zero
  · obtain ⟨x, bag2, e2, hx, hb2⟩ := some_ok hb1 (ds := [.int 0, .int (2 * p), .int (-1), .bool true, .none]) (by simp) (by simp)
    refine ⟨.tuple [.int b, .tuple (T.map .int), x, .tuple (R.map .int)], bag2, ?_, thing4 rb rT ?_ rR, hb2⟩
    · unfold form at *
      simp [e1, gTupD, gsCons, gsNil, m1, e2]
    · simp only [List.mem_cons, List.not_mem_nil, or_false] at hx
      rcases hx with rfl | rfl | rfl | rfl | rfl
      · exact .elem (.int (by decide))
      · exact .elem (.int (by omega))
      · exact .elem (.int (by decide))
      · exact .elem (.bool _)
      · exact .elem .none
  · obtain ⟨x, bag2, e2, hx, hb2⟩ := some_ok hb1 (ds := [.tuple (T.map PyData.int).reverse, .list (T.map .int), .tuple (T.map PyData.int ++ [.int b]), .tuple (T.map PyData.int ++ [.int 0]), .none, .tuple [.bool true], .tuple (T.map PyData.int ++ [.none]), .tuple (T.map PyData.int ++ [.list []])]) (by simp) (by simp)
    have hR : gRev (.tuple (T.map .int)) = some (.tuple (T.map PyData.int).reverse) := rfl
    refine ⟨.tuple [.int b, x, .int p, .tuple (R.map .int)], bag2, ?_, thing4 rb ?_ rp rR, hb2⟩
    · unfold form at *
      generalize T.map PyData.int = TT at *
      generalize TT.reverse = TR at *
      simp [e1, gTupD, gsCons, gsNil, e5, aT, hR] at e2 ⊢
      simp [e2]
    · simp only [List.mem_cons, List.not_mem_nil, or_false] at hx
      rcases hx with rfl | rfl | rfl | rfl | rfl | rfl | rfl | rfl
      · exact rT1
      · exact rT2
      · exact rT3 _ (.int (by omega))
      · exact rT3 _ (.int (by decide))
      · exact .elem .none
      · exact .tuple (fun d hd => by rw [List.mem_singleton.mp hd]; exact .bool _) (by simp)
      · exact rT3 _ .none
      · exact rT3 _ .nil
  · obtain ⟨x, bag2, e2, hx, hb2⟩ := some_ok hb1 (ds := [.tuple (R.map PyData.int).reverse, .list (R.map .int), .tuple (R.map PyData.int ++ [.int p]), .tuple [.int (-1)], .none, .tuple [.bool false], .tuple (R.map PyData.int ++ [.str "0"])]) (by simp) (by simp)
    have hR : gRev (.tuple (R.map .int)) = some (.tuple (R.map PyData.int).reverse) := rfl
    refine ⟨.tuple [.int b, .tuple (T.map .int), .int p, x], bag2, ?_, thing4 rb rT rp ?_, hb2⟩
    · unfold form at *
      generalize R.map PyData.int = TT at *
      generalize TT.reverse = TR at *
      simp [e1, gTupD, gsCons, gsNil, e5, aR, hR] at e2 ⊢
      simp [e2]
    · simp only [List.mem_cons, List.not_mem_nil, or_false] at hx
      rcases hx with rfl | rfl | rfl | rfl | rfl | rfl | rfl
      · exact rR1
      · exact rR2
      · exact rR3 _ (.int (by omega))
      · exact .tuple (fun d hd => by rw [List.mem_singleton.mp hd]; exact .int (by decide)) (by simp)
      · exact .elem .none
      · exact .tuple (fun d hd => by rw [List.mem_singleton.mp hd]; exact .bool _) (by simp)
      · exact rR3 _ .zero
  · have hl : lcD [8] (gSet 8) xYes (xOp gAddA (xName 8) (xName 5)) (R.map PyData.int) [some (.own false bag1), some (.dat (form b T p R)), some (.dat (.int 5)), some (.dat (.int b)), some (.dat (.tuple (T.map .int))), some (.dat (.int p)), some (.dat (.tuple (R.map .int))), none, none] = .ok ((R.map fun r => r + p).map .int) [some (.own false bag1), some (.dat (form b T p R)), some (.dat (.int 5)), some (.dat (.int b)), some (.dat (.tuple (T.map .int))), some (.dat (.int p)), some (.dat (.tuple (R.map .int))), none, none] := by
      rw [List.map_map]
      refine lcD_gen (g := PyData.int) (f := fun r => PyData.int (r + p)) fun r _ => ⟨[some (.own false bag1), some (.dat (form b T p R)), some (.dat (.int 5)), some (.dat (.int b)), some (.dat (.tuple (T.map .int))), some (.dat (.int p)), some (.dat (.tuple (R.map .int))), none, some (.dat (.int r))], ?_, by simp [wipeE]⟩
      simp [lcTurn]
    have a1 : gAddA (.tuple (R.map PyData.int)) (.tuple ((R.map fun r => r + p).map .int)) = some (.tuple ((R ++ R.map fun r => r + p).map .int)) := by
      rw [gAddA_tup (by simp only [List.length_map]; have := g.rl; omega), List.map_append]
    have z1 : R.length ≤ 16777216 := by have := g.rl; omega
    refine ⟨.tuple [.int b, .tuple (T.map .int), .int (2 * p), .tuple ((R ++ R.map fun r => r + p).map .int)], bag1, ?_, thing4 rb rT (.elem (.int (by omega))) (row_ints (fun t ht => ?_) ?_), hb1⟩
    · unfold form at *
      generalize (R.map fun r => r + p).map PyData.int = R2 at *
      generalize (R ++ R.map fun r => r + p).map PyData.int = R3 at *
      simp [e1, gTupD, gsCons, gsNil, m1, hl, a1, e6, z1, wipeE, unwipe, datOnly]
    · rcases List.mem_append.mp ht with q | q
      · have := g.g.r.2 t q; omega
      · obtain ⟨r, hr, rfl⟩ := List.mem_map.mp q
        have := g.g.r.2 r hr; omega
    · rw [List.length_append, List.length_map]; have := g.rl; omega
  · have hl : lcD [8] (gSet 8) p__law_bent_1 (xName 8) (rangeL 0 (b + p).toNat) [some (.own false bag1), some (.dat (form b T p R)), some (.dat (.int 6)), some (.dat (.int b)), some (.dat (.tuple (T.map .int))), some (.dat (.int p)), some (.dat (.tuple (R.map .int))), none, none] = .ok (((upTo (b + p).toNat).filter (inS b T p R)).map .int) [some (.own false bag1), some (.dat (form b T p R)), some (.dat (.int 6)), some (.dat (.int b)), some (.dat (.tuple (T.map .int))), some (.dat (.int p)), some (.dat (.tuple (R.map .int))), none, none] := by
      rw [range0]
      refine lcD_filter (g := PyData.int) (f := PyData.int) fun n _ => ⟨[some (.own false bag1), some (.dat (form b T p R)), some (.dat (.int 6)), some (.dat (.int b)), some (.dat (.tuple (T.map .int))), some (.dat (.int p)), some (.dat (.tuple (R.map .int))), none, some (.dat (.int n))], ?_, by simp [wipeE]⟩
      have q := law_in_is b p n T R p1
      cases hi : inS b T p R n <;> rw [hi] at q <;> simp [lcTurn, p__law_bent_1, q, truth]
    have r1 : gRange1 [.int (b + p)] = some (rangeL 0 (b + p).toNat) := gRange1_ok (by omega)
    have y1 : (rangeL 0 (b + p).toNat).length ≤ 16777216 := by rw [rangeL_len]; omega
    refine ⟨.tuple [.int (b + p), .tuple (((upTo (b + p).toNat).filter (inS b T p R)).map .int), .int p, .tuple (R.map .int)], bag1, ?_, thing4 (.elem (.int (by omega))) (row_ints (fun t ht => ?_) ?_) rp rR, hb1⟩
    · unfold form at *
      generalize ((upTo (b + p).toNat).filter (inS b T p R)).map PyData.int = R2 at *
      generalize rangeL 0 (b + p).toNat = R3 at *
      simp [e1, gTupD, gsCons, gsNil, r1, y1, hl, e6, wipeE, unwipe, datOnly]
    · have := mem_upTo.mp (List.mem_filter.mp ht).1
      omega
    · have := List.length_filter_le (inS b T p R) (upTo (b + p).toNat)
      have : (upTo (b + p).toNat).length = (b + p).toNat := by simp [upTo]
      omega
end K23


namespace K23
open PySem PySem.Spec L2 DL
/-! k23: a drawn size set -/
theorem in_lst (n : Int) (T : List Int) : gInC false (.int n) (.list (T.map .int)) = some (.bool (decide (n ∈ T))) := by
  have e : gInF false (.int n) (.list (T.map .int)) = some (.bool (decide (n ∈ T))) := by
    unfold gInF
    simp only [itemsLT, Option.bind_some]
    rw [if_pos ⟨rfl, flat_ints T⟩, any_int]
    rfl
  unfold gInC gInA
  rw [e]
  rfl
theorem sub_ints {xs : List D} {n : Nat} (h : xs.Sublist (rangeL 0 n)) : ∃ ns : List Int, xs = ns.map .int ∧ Asc ns n := by
  rw [range0] at h
  obtain ⟨ns, h1, h2⟩ := List.sublist_map_iff.mp h
  refine ⟨ns, h2, (upTo_ord n).sublist h1, fun t ht => mem_upTo.mp (h1.subset ht)⟩
def e23 (bag : D) (b p : Int) (c3 c4 c5 c6 c7 c8 : Option Cell) : DL.Env := [some (.own false bag), some (.dat (.int b)), some (.dat (.int p)), c3, c4, c5, c6, c7, c8]
theorem dr_turn {bag : D} (hb : BagOk bag) (b p : Int) (c3 c4 c5 c6 c8 : Option Cell) (d : D) : ∃ o ρ1, lcTurn (gSet 7) p__law_drawn_set_1 (xName 7) d (e23 bag b p c3 c4 c5 c6 none c8) = .ok o ρ1 ∧ (o = none ∨ o = some d) ∧ ∃ bag', wipeE ρ1 [7] = e23 bag' b p c3 c4 c5 c6 none c8 ∧ BagOk bag' := by
  obtain ⟨v, bag1, e1, v0, v1, hb1⟩ := tk_ok hb (m := 2) (by decide) (by decide)
  by_cases h : v = 0
  · refine ⟨some d, e23 bag1 b p c3 c4 c5 c6 (some (.dat d)) c8, ?_, .inr rfl, bag1, by simp [wipeE, e23], hb1⟩
    simp [lcTurn, e23, p__law_drawn_set_1, e1, h]
  · refine ⟨none, e23 bag1 b p c3 c4 c5 c6 (some (.dat d)) c8, ?_, .inl rfl, bag1, by simp [wipeE, e23], hb1⟩
    simp [lcTurn, e23, p__law_drawn_set_1, e1, h]
theorem dr_told {bag : D} (hb : BagOk bag) (b p : Int) (c3 c4 c5 c6 c8 : Option Cell) (n : Nat) : ∃ (ns : List Int) (bag' : D), lcD [7] (gSet 7) p__law_drawn_set_1 (xName 7) (rangeL 0 n) (e23 bag b p c3 c4 c5 c6 none c8) = .ok (ns.map .int) (e23 bag' b p c3 c4 c5 c6 none c8) ∧ Asc ns n ∧ BagOk bag' := by
  obtain ⟨xs, ρ', h1, ⟨bag', rfl, h2⟩, h3⟩ := lcD_sub (vs := [7]) (γ := gSet 7) (τ := p__law_drawn_set_1) (φ := xName 7) (I := fun ρ => ∃ bag, ρ = e23 bag b p c3 c4 c5 c6 none c8 ∧ BagOk bag) (ds := rangeL 0 n) (ρ := e23 bag b p c3 c4 c5 c6 none c8) ⟨bag, rfl, hb⟩ (fun d _ ρ ⟨bag, e, hb⟩ => by
    subst e
    exact dr_turn hb b p c3 c4 c5 c6 c8 d)
  obtain ⟨ns, rfl, h4⟩ := sub_ints h3
  exact ⟨ns, bag', h1, h4, h2⟩
theorem p3_is : p__law_drawn_set_3 = p__law_drawn_set_1 := rfl
theorem dr_few {bag : D} {b p : Int} (hp : 1 ≤ p) (c3 : Option Cell) : lcD [8] (gSet 8) p__law_drawn_set_2 (xName 8) (rangeL 1 p.toNat) (e23 bag b p c3 none none none none none) = .ok ((((List.range p.toNat).map (1 + ·)).filter fun f : Nat => decide (p % (f : Int) = 0)).map fun f : Nat => .int (f : Int)) (e23 bag b p c3 none none none none none) := by
  rw [range1]
  refine lcD_filter (g := fun k : Nat => PyData.int (k : Int)) (f := fun k : Nat => PyData.int (k : Int)) fun k hk => ⟨(e23 bag b p c3 none none none none none).set 8 (some (.dat (.int (k : Int)))), ?_, by simp [wipeE, e23]⟩
  obtain ⟨i, hi, rfl⟩ := List.mem_map.mp hk
  have hm : gMod (.int p) (.int ((1 + i : Nat) : Int)) = some (.int (p % ((1 + i : Nat) : Int))) := gMod_pos (by omega)
  generalize ((1 + i : Nat) : Int) = kk at *
  by_cases h : p % kk = 0 <;> simp [lcTurn, e23, p__law_drawn_set_2, hm, h]
theorem dr_rest {bag : D} {b p f : Int} (hf : 1 ≤ f) (c3 c7 : Option Cell) (ns base : List Int) (hz : ns.length ≤ 1000) (k : Int) : p__law_drawn_set_4 (e23 bag b p c3 (some (.own true (.list (ns.map .int)))) (some (.dat (.int f))) (some (.dat (.list (base.map .int)))) (some (.dat (.int k))) none) = .next (e23 bag b p c3 (some (.own true (.list ((if k % f ∈ base then ns ++ [k] else ns).map .int)))) (some (.dat (.int f))) (some (.dat (.list (base.map .int)))) (some (.dat (.int k))) none) := by
  have hm : gMod (.int k) (.int f) = some (.int (k % f)) := gMod_pos (by omega)
  have hi := in_lst (k % f) base
  have m1 : gMulA (.list [.int k]) (.int 1) = some (.list [.int k]) := by
    have : gRep (.list [.int k]) (.int 1) = some (.list [.int k]) := by
      have h : -(2 ^ 63) ≤ (1 : Int) ∧ (1 : Int) < 2 ^ 63 ∧ [PyData.int k].length * (1 : Int).toNat ≤ sizeLine := ⟨by decide, by decide, by show 1 * 1 ≤ 16777216; decide⟩
      simp only [gRep]
      rw [if_pos h]
      rfl
    unfold gMulA
    rw [this]
    rfl
  have m0 : gMulA (.list [.int k]) (.int 0) = some (.list []) := by
    have : gRep (.list [.int k]) (.int 0) = some (.list []) := by
      have h : -(2 ^ 63) ≤ (0 : Int) ∧ (0 : Int) < 2 ^ 63 ∧ [PyData.int k].length * (0 : Int).toNat ≤ sizeLine := ⟨by decide, by decide, by show 1 * 0 ≤ 16777216; decide⟩
      simp only [gRep]
      rw [if_pos h]
      rfl
    unfold gMulA
    rw [this]
    rfl
  have c1 : gCat (.list (ns.map PyData.int)) (.list [.int k]) = some (.list ((ns ++ [k]).map .int)) := by
    have : gCat (.list (ns.map PyData.int)) (.list [.int k]) = some (.list (ns.map PyData.int ++ [.int k])) := if_pos (by rw [List.length_map]; show ns.length + 1 ≤ 16777216; omega)
    rw [this, List.map_append]
    rfl
  have c0 : gCat (.list (ns.map PyData.int)) (.list []) = some (.list (ns.map .int)) := by
    have : gCat (.list (ns.map PyData.int)) (.list []) = some (.list (ns.map PyData.int ++ [])) := if_pos (by rw [List.length_map]; show ns.length + 0 ≤ 16777216; omega)
    rw [this, List.append_nil]
  have i1 : gInt [.bool true] = some (.int 1) := rfl
  have i0 : gInt [.bool false] = some (.int 0) := rfl
  by_cases h : k % f ∈ base
  · rw [if_pos h]
    rw [decide_eq_true h] at hi
    generalize ((ns ++ [k]).map PyData.int) = N1 at *
    simp [p__law_drawn_set_4, e23, hm, hi, i1, m1, c1]
  · rw [if_neg h]
    rw [decide_eq_false h] at hi
    simp [p__law_drawn_set_4, e23, hm, hi, i0, m0, c0]
theorem dr_loop {bag : D} {b p f : Int} (hp : 1 ≤ p) (hp2 : p ≤ 1000) (hf : 1 ≤ f) (c3 : Option Cell) (base : List Int) : ∃ (R : List Int) (c7 : Option Cell), Asc R p ∧
    forD (gSet 7) p__law_drawn_set_4 (rangeL 0 p.toNat) (e23 bag b p c3 (some (.own true (.list []))) (some (.dat (.int f))) (some (.dat (.list (base.map .int)))) none none) = .next (e23 bag b p c3 (some (.own true (.list (R.map .int)))) (some (.dat (.int f))) (some (.dat (.list (base.map .int)))) c7 none) := by
  obtain ⟨ρ', h1, k, ns, c7, h2, h3, h4, h5, h6, h7⟩ := forD_inv (γ := gSet 7) (ψ := p__law_drawn_set_4) (I := fun rem ρ => ∃ (k : Int) (ns : List Int) (c7 : Option Cell), rem = rangeL k (p - k).toNat ∧ 0 ≤ k ∧ k ≤ p ∧ Cl c7 ∧ Asc ns k ∧ ρ = e23 bag b p c3 (some (.own true (.list (ns.map .int)))) (some (.dat (.int f))) (some (.dat (.list (base.map .int)))) c7 none)
    (ds := rangeL 0 p.toNat) (ρ := e23 bag b p c3 (some (.own true (.list []))) (some (.dat (.int f))) (some (.dat (.list (base.map .int)))) none none) ⟨0, [], none, by rw [Int.sub_zero], Int.le_refl 0, by omega, .none, ⟨.nil, by simp⟩, rfl⟩
    (fun d r ρ ⟨k, ns, c7, e, k0, k1, cc, ha, hρ⟩ => by
      subst hρ
      have hk : k < p := by
        rcases Int.lt_or_le k p with q | q
        · exact q
        · rw [show (p - k).toNat = 0 by omega] at e
          cases e
      obtain ⟨m, hm⟩ : ∃ m, (p - k).toNat = m + 1 := ⟨(p - k).toNat - 1, by omega⟩
      rw [hm, rangeL_cons] at e
      injection e with e1 e2
      subst e1 e2
      have hz : ns.length ≤ 1000 := by have := asc_len_le ha; omega
      have ht := dr_rest (bag := bag) (b := b) (p := p) hf c3 c7 ns base hz k
      refine ⟨e23 bag b p c3 (some (.own true (.list (ns.map .int)))) (some (.dat (.int f))) (some (.dat (.list (base.map .int)))) (some (.dat (.int k))) none, _, by simp [e23, cc.cs], .inl ht, k + 1, _, _, by rw [show (p - (k + 1)).toNat = m by omega], by omega, by omega, .dat _, ?_, rfl⟩
      split
      · refine ⟨List.pairwise_append.mpr ⟨ha.1, List.pairwise_singleton _ _, fun a h1 c h2 => ?_⟩, fun t ht => ?_⟩
        · rw [List.mem_singleton.mp h2]; exact (ha.2 a h1).2
        · rcases List.mem_append.mp ht with q | q
          · have := ha.2 t q; omega
          · rw [List.mem_singleton.mp q]; omega
      · exact ⟨ha.1, fun t ht => by have := ha.2 t ht; omega⟩)
  refine ⟨ns, c7, ?_, by rw [h1, h7]⟩
  have : (p - k).toNat = 0 := by
    cases hq : (p - k).toNat with
    | zero => rfl
    | succ m => rw [hq, rangeL_cons] at h2; cases h2
  have e : k = p := by omega
  rw [← e]
  exact h6
theorem erase_map : ∀ (R : List Int) (i : Nat), (R.map PyData.int).eraseIdx i = (R.eraseIdx i).map .int
  | [], _ => rfl
  | _ :: _, 0 => rfl
  | x :: R, i + 1 => by
    show PyData.int x :: (R.map PyData.int).eraseIdx i = _
    rw [erase_map R i]
    rfl
theorem asc_erase {R : List Int} {p : Int} (h : Asc R p) (i : Nat) : Asc (R.eraseIdx i) p :=
  ⟨h.1.sublist (List.eraseIdx_sublist R i), fun t ht => h.2 t ((List.eraseIdx_sublist R i).subset ht)⟩
theorem drawn_ok {bag : D} (hb : BagOk bag) : ∃ b T p R bag', d__law_drawn_set [some (.own false bag)] = .ret (.dat (form b T p R)) [some (.own false bag')] ∧ Gs b T p R ∧ BagOk bag' := by
  obtain ⟨xb, bag1, e1, hx1, hb1⟩ := some_ok hb (ds := [.int 0, .int 1, .int 3, .int 7, .int 12]) (by simp) (by simp)
  obtain ⟨xp, bag2, e2, hx2, hb2⟩ := some_ok hb1 (ds := [.int 1, .int 2, .int 3, .int 4, .int 6, .int 12, .int 5]) (by simp) (by simp)
  obtain ⟨b, rfl, b0, b1⟩ : ∃ b : Int, xb = .int b ∧ 0 ≤ b ∧ b ≤ 12 := by
    simp only [List.mem_cons, List.not_mem_nil, or_false] at hx1
    rcases hx1 with rfl | rfl | rfl | rfl | rfl <;> exact ⟨_, rfl, by decide, by decide⟩
  obtain ⟨p, rfl, p0, p1⟩ : ∃ b : Int, xp = .int b ∧ 1 ≤ b ∧ b ≤ 12 := by
    simp only [List.mem_cons, List.not_mem_nil, or_false] at hx2
    rcases hx2 with rfl | rfl | rfl | rfl | rfl | rfl | rfl <;> exact ⟨_, rfl, by decide, by decide⟩
  obtain ⟨T, bag3, e3, aT, hb3⟩ := dr_told hb2 b p none none none none none b.toNat
  have e4 := dr_few (bag := bag3) (b := b) p0 (some (.dat (.tuple (T.map .int))))
  have hfew : (((List.range p.toNat).map (1 + ·)).filter fun f : Nat => decide (p % (f : Int) = 0)) ≠ [] := by
    intro h
    have : 1 ∈ (((List.range p.toNat).map (1 + ·)).filter fun f : Nat => decide (p % (f : Int) = 0)) := List.mem_filter.mpr ⟨List.mem_map.mpr ⟨0, List.mem_range.mpr (by omega), rfl⟩, by simp⟩
    rw [h] at this
    exact List.not_mem_nil this
  have hfl := List.length_filter_le (fun f : Nat => decide (p % (f : Int) = 0)) ((List.range p.toNat).map (1 + ·))
  rw [List.length_map, List.length_range] at hfl
  obtain ⟨xf, bag4, e5, hx5, hb4⟩ := some_ok hb3 (ds := (((List.range p.toNat).map (1 + ·)).filter fun f : Nat => decide (p % (f : Int) = 0)).map fun f : Nat => PyData.int (f : Int)) (by simpa using hfew) (by rw [List.length_map]; omega)
  obtain ⟨f, rfl, f0, f1⟩ : ∃ f : Int, xf = .int f ∧ 1 ≤ f ∧ f ≤ 12 := by
    obtain ⟨k, hk, rfl⟩ := List.mem_map.mp hx5
    obtain ⟨i, hi, rfl⟩ := List.mem_map.mp (List.mem_filter.mp hk).1
    have := List.mem_range.mp hi
    exact ⟨_, rfl, by omega, by omega⟩
  obtain ⟨base, bag5, e6, _, hb5⟩ := dr_told hb4 b p (some (.dat (.tuple (T.map .int)))) (some (.own true (.list []))) (some (.dat (.int f))) none none f.toNat
  obtain ⟨R, c7, aR, e7⟩ := dr_loop (bag := bag5) (b := b) p0 (by omega) f0 (some (.dat (.tuple (T.map .int)))) base
  obtain ⟨v, bag6, e8, v0, v1, hb6⟩ := tk_ok hb5 (m := 4) (by decide) (by decide)
  have r1 : gRange1 [.int b] = some (rangeL 0 b.toNat) := gRange1_ok (by omega)
  have r2 : gRange2 [.int 1, .int (p + 1)] = some (rangeL 1 p.toNat) := by
    rw [gRange2_ok (by omega)]
    congr 2
    omega
  have r3 : gRange1 [.int f] = some (rangeL 0 f.toNat) := gRange1_ok (by omega)
  have r4 : gRange1 [.int p] = some (rangeL 0 p.toNat) := gRange1_ok (by omega)
  have y1 : (rangeL 0 b.toNat).length ≤ 16777216 := by rw [rangeL_len]; omega
  have y2 : (rangeL 1 p.toNat).length ≤ 16777216 := by rw [rangeL_len]; omega
  have y3 : (rangeL 0 f.toNat).length ≤ 16777216 := by rw [rangeL_len]; omega
  have e9 : ∀ L : List D, gTuple [.list L] = some (.tuple L) := fun L => rfl
  have hn := ne_nilL R
  have hbT : ((b.toNat : Nat) : Int) = b := by omega
  rw [hbT] at aT
  have fin : ∀ bag', BagOk bag' → ∀ R', Asc R' p → ∀ o, o = FAns.ret (.dat (form b T p R')) [some (.own false bag')] → ∃ b T p R bag', o = .ret (.dat (form b T p R)) [some (.own false bag')] ∧ Gs b T p R ∧ BagOk bag' := fun bag' hb R' aR' o e => ⟨b, T, p, R', bag', e, ⟨⟨b0, p0, aT, aR'⟩, b1, p1⟩, hb⟩
  generalize rangeL 0 b.toNat = q1 at *
  generalize rangeL 1 p.toNat = q2 at *
  generalize rangeL 0 f.toNat = q3 at *
  generalize rangeL 0 p.toNat = q4 at *
  generalize ((((List.range p.toNat).map (1 + ·)).filter fun f : Nat => decide (p % (f : Int) = 0)).map fun f : Nat => PyData.int (f : Int)) = few at *
  by_cases hv : v = 0
  · by_cases hR : R = []
    · refine fin bag6 hb6 R aR _ ?_
      subst hR
      unfold e23 at *
      unfold d__law_drawn_set
      rw [p3_is, ev_fnD]
      simp at e7 hn
      simp [e1, e2, e3, e4, e5, e6, e7, e8, e9, r1, r2, r3, r4, y1, y2, y3, wipeE, unwipe, datOnly, hv, hn, form]
    · have hp : 0 < R.length := List.length_pos_iff.mpr hR
      have hRe : R.isEmpty = false := by cases R with | nil => exact absurd rfl hR | cons _ _ => rfl
      have hl := asc_len_le aR
      obtain ⟨u, bag7, e10, u0, u1, hb7⟩ := tk_ok hb6 (m := (R.length : Int)) (by omega) (by omega)
      have hu : u.toNat < R.length := by omega
      refine fin bag7 hb7 (R.eraseIdx u.toNat) (asc_erase aR _) _ ?_
      have hpop : oPopAt (R.map PyData.int) [.int u] = some ((R.eraseIdx u.toNat).map .int, .int R[u.toNat]) := by
        have hs : seqIndex? u (R.map PyData.int).length = some u.toNat := by
          unfold seqIndex?
          rw [List.length_map]
          have : ¬ u < 0 := by omega
          simp [this, u0, u1]
        show (if -(2 ^ 63) ≤ u ∧ u < 2 ^ 63 then _ else none) = _
        rw [if_pos (by omega), hs]
        simp [List.getElem?_eq_getElem hu, erase_map]
      rw [hRe] at hn
      unfold form
      generalize (R.eraseIdx u.toNat).map PyData.int = RE at *
      have hRl : (R.map PyData.int).length = R.length := List.length_map _
      unfold e23 at *
      unfold d__law_drawn_set
      rw [p3_is, ev_fnD]
      simp [e1, e2, e3, e4, e5, e6, e7, e8, e9, e10, r1, r2, r3, r4, y1, y2, y3, wipeE, unwipe, datOnly, hv, hn, form, hpop]
  · refine fin bag6 hb6 R aR _ ?_
    unfold e23 at *
    unfold d__law_drawn_set
    rw [p3_is, ev_fnD]
    simp [e1, e2, e3, e4, e5, e6, e7, e8, e9, r1, r2, r3, r4, y1, y2, y3, wipeE, unwipe, datOnly, hv, form]
end K23


namespace K23
open PySem PySem.Spec L2 DL
/-! k23: the law -/
theorem least_both {b p : Int} {T R : List Int} (g : Good b T p R) (hb2 : b < 60) (hp2 : p < 60) (hz : R.length ≤ 1000) (hzT : T.length ≤ 1000) : ∃ l f, IsLb b T p R l ∧ IsPer p R f ∧
    d__law_least [some (.dat (form b T p R))] = .ret (.dat (form l (leastT T l) f (leastR R f))) [none] ∧ d_least_set [some (.dat (form b T p R))] = .ret (.dat (form l (leastT T l) f (leastR R f))) [none] := by
  obtain ⟨l, f, h1, h2, e1⟩ := law_least_is g hb2 hp2
  obtain ⟨l', f', h3, h4, e2⟩ := least_set_is g (by omega) (by omega) hz hzT
  have := h1.uniq h3
  have := h2.uniq h4
  subst l' f'
  exact ⟨l, f, h1, h2, e1, e2⟩
theorem alike_bool (q : Bool) : d__law_alike [some (.dat (.bool q)), some (.dat (.bool q))] = .ret (.dat (.bool true)) [none, none] :=
  alike_gen (Thing.bool q).repr (Thing.bool q).repr (by rw [eq_bool, beq_self_eq_true]) fun _ => rfl
theorem alike_form {b p b' p' : Int} {T R T' R' : List Int} (h1 : Thing (form b T p R)) (h2 : Thing (form b' T' p' R')) : d__law_alike [some (.dat (form b T p R)), some (.dat (form b' T' p' R'))] = .ret (.dat (.bool (decide (b = b' ∧ T = T' ∧ p = p' ∧ R = R')))) [none, none] :=
  alike_gen h1.repr h2.repr (eq_forms b p b' p' T R T' R') fun e => by
    rw [decide_eq_true_eq] at e
    obtain ⟨rfl, rfl, rfl, rfl⟩ := e
    rfl
theorem thing_ok {d : D} (h : Thing d) : ∃ q, d_is_size_set [some (.dat d)] = .ret (.dat (.bool q)) [none] ∧ ((isForm d = false ∧ q = false) ∨ (isForm d = true ∧ ∃ L, d__law_least [some (.dat d)] = .ret (.dat L) [none] ∧ d__law_alike [some (.dat L), some (.dat d)] = .ret (.dat (.bool q)) [none, none])) := by
  have hf := form_is d h.small
  cases e : isForm d with
  | false =>
    rw [e] at hf
    refine ⟨false, ?_, .inl ⟨rfl, rfl⟩⟩
    unfold d_is_size_set
    rw [ev_fnD]
    simp [hf]
  | true =>
    rw [e] at hf
    obtain ⟨b, T, p, R, rfl, g, hb, hp, hT, hR⟩ := thing_form h e
    obtain ⟨l, f, h1, h2, e1, e2⟩ := least_both g (by omega) (by omega) (by omega) (by omega)
    have hl0 := h1.l0
    have hlb := h1.lb
    have hf1 := h2.pos
    have hfp := Int.le_of_dvd (by have := g.p1; omega) h2.dvd
    have hL : Thing (form l (leastT T l) f (leastR R f)) := thing4 (.elem (.int (by omega))) (row_ints (fun t ht => by
      have := g.t.2 t (List.mem_filter.mp ht).1
      omega) (by have := List.length_filter_le (fun t => decide (t < l)) T; unfold leastT; omega)) (.elem (.int (by omega))) (row_ints (fun t ht => by
      have := g.r.2 t (List.mem_filter.mp ht).1
      omega) (by have := List.length_filter_le (fun t => decide (t < f)) R; unfold leastR; omega))
    refine ⟨_, ?_, .inr ⟨rfl, _, e1, alike_form hL h⟩⟩
    have h3 := eq_forms l f b p (leastT T l) (leastR R f) T R
    generalize form l (leastT T l) f (leastR R f) = L at *
    generalize form b T p R = S at *
    unfold d_is_size_set
    rw [ev_fnD]
    simp [hf, e2, h3]
def e23l (S bag : D) (c2 c3 c4 c5 c6 c7 c8 c9 c10 : Option Cell) : DL.Env := [some (.dat S), some (.own true bag), c2, c3, c4, c5, c6, c7, c8, c9, c10, none]
theorem l1_turn {s L : D} (S bag : D) (c2 c6 c7 c8 c9 c10 : Option Cell) (hL : d_least_set [some (.dat s)] = .ret (.dat L) [none]) (ha : d__law_alike [some (.dat L), some (.dat L)] = .ret (.dat (.bool true)) [none, none]) (hr : gReprA [s] = some (.str s.shown)) :
    p_law_1 (e23l S bag c2 (some (.dat s)) (some (.dat L)) (some (.dat (.str s.shown))) c6 c7 c8 c9 c10) = .next (e23l S bag c2 (some (.dat s)) (some (.dat L)) (some (.dat (.str s.shown))) c6 c7 c8 c9 c10) := by
  unfold p_law_1 e23l
  simp [hL, ha, hr, truth]
theorem l2_turn {b p l f : Int} {T R : List Int} (S bag k : D) (c2 c6 c8 c9 c10 : Option Cell) (g : Good b T p R) (h1 : IsLb b T p R l) (h2 : IsPer p R f) {n : Int} (hn : 0 ≤ n) :
    p_law_2 (e23l S bag c2 (some (.dat (form b T p R))) (some (.dat (form l (leastT T l) f (leastR R f)))) (some (.dat k)) c6 (some (.dat (.int n))) c8 c9 c10) = .next (e23l S bag c2 (some (.dat (form b T p R))) (some (.dat (form l (leastT T l) f (leastR R f)))) (some (.dat k)) c6 (some (.dat (.int n))) c8 c9 c10) := by
  have e1 := has_is l f n (leastT T l) (leastR R f) h2.pos
  have e2 := law_in_is b p n T R g.p1
  have e3 : inS l (leastT T l) f (leastR R f) n = inS b T p R n := least_same g h1 h2 hn
  rw [e3] at e1
  have e4 := alike_bool (inS b T p R n)
  generalize form l (leastT T l) f (leastR R f) = L at *
  generalize form b T p R = s at *
  unfold p_law_2 e23l
  simp [e1, e2, e4, truth]
theorem l4_turn {d : D} (h : Thing d) (S bag s L k : D) (c2 c6 c7 c9 c10 : Option Cell) (h9 : Cl c9) (h10 : Cl c10) : ∃ y9 y10, Cl y9 ∧ Cl y10 ∧
    p_law_4 (e23l S bag c2 (some (.dat s)) (some (.dat L)) (some (.dat k)) c6 c7 (some (.dat d)) c9 c10) = .next (e23l S bag c2 (some (.dat s)) (some (.dat L)) (some (.dat k)) c6 c7 (some (.dat d)) y9 y10) := by
  have hf := law_form_is d h.small
  have hr := h.repr
  obtain ⟨q, e1, e2⟩ := thing_ok h
  have ha := alike_bool q
  refine ⟨some (.dat (.bool q)), some (.dat (.str d.shown)), .dat _, .dat _, ?_⟩
  unfold p_law_4 e23l
  rcases e2 with ⟨e3, rfl⟩ | ⟨e3, M, e4, e5⟩
  · rw [e3] at hf
    simp [hf, hr, h9.cs, h10.cs, e1, ha, truth]
  · rw [e3] at hf
    simp [hf, hr, h9.cs, h10.cs, e1, e4, e5, ha, truth]
theorem lb_turn {bag : D} (hb : BagOk bag) {b p l f : Int} {T R : List Int} (g : Gs b T p R) (h1 : IsLb b T p R l) (h2 : IsPer p R f) (S k d : D) (c2 c6 c7 c8 c9 c10 : Option Cell) : ∃ x ρ1,
    lcTurn (gSet 11) xYes p_law_3 d (e23l S bag c2 (some (.dat (form b T p R))) (some (.dat (form l (leastT T l) f (leastR R f)))) (some (.dat k)) c6 c7 c8 c9 c10) = .ok (some x) ρ1 ∧ Thing x ∧
    ∃ bag', wipeE ρ1 [11] = e23l S bag' c2 (some (.dat (form b T p R))) (some (.dat (form l (leastT T l) f (leastR R f)))) (some (.dat k)) c6 c7 c8 c9 c10 ∧ BagOk bag' := by
  obtain ⟨y, bag1, e1, hy, hb1⟩ := some_ok hb (ds := [form b T p R, form l (leastT T l) f (leastR R f)]) (by simp) (by simp)
  have hx : ∃ x bag2, d__law_bent [some (.own false bag1), some (.dat y)] = .ret (.dat x) [some (.own false bag2), none] ∧ Thing x ∧ BagOk bag2 := by
    simp only [List.mem_cons, List.not_mem_nil, or_false] at hy
    rcases hy with rfl | rfl
    · exact bent_ok hb1 g
    · exact bent_ok hb1 (g.least h1 h2)
  obtain ⟨x, bag2, e2, hx, hb2⟩ := hx
  generalize form l (leastT T l) f (leastR R f) = L at *
  generalize form b T p R = s at *
  refine ⟨x, [some (.dat S), some (.own true bag2), c2, some (.dat s), some (.dat L), some (.dat k), c6, c7, c8, c9, c10, some (.dat d)], ?_, hx, bag2, by simp [wipeE, e23l], hb2⟩
  unfold e23l
  simp [lcTurn, p_law_3, e1, e2]
def nums (v : Int) : List D := rangeL 0 26 ++ [.int (10 ^ 40 + v), .int 999983]
theorem nums_nat {v : Int} (h : 0 ≤ v) : ∀ d ∈ nums v, ∃ n : Int, d = .int n ∧ 0 ≤ n := fun d hd => by
  rcases List.mem_append.mp hd with q | q
  · rw [range0] at q
    obtain ⟨i, hi, rfl⟩ := List.mem_map.mp q
    exact ⟨i, rfl, (mem_upTo.mp hi).1⟩
  · simp only [List.mem_cons, List.not_mem_nil, or_false] at q
    rcases q with rfl | rfl
    · exact ⟨_, rfl, by omega⟩
    · exact ⟨_, rfl, by decide⟩
structure Cs (c3 c4 c5 c6 c7 c8 c9 c10 : Option Cell) : Prop where
  h3 : Cl c3
  h4 : Cl c4
  h5 : Cl c5
  h6 : Cl c6
  h7 : Cl c7
  h8 : Cl c8
  h9 : Cl c9
  h10 : Cl c10
theorem turn_ok {bag : D} (hb : BagOk bag) (S : D) (c2 : Option Cell) {c3 c4 c5 c6 c7 c8 c9 c10 : Option Cell} (hc : Cs c3 c4 c5 c6 c7 c8 c9 c10) : ∃ bag' y3 y4 y5 y6 y7 y8 y9 y10, p_law_5 (e23l S bag c2 c3 c4 c5 c6 c7 c8 c9 c10) = .next (e23l S bag' c2 y3 y4 y5 y6 y7 y8 y9 y10) ∧ BagOk bag' ∧ Cs y3 y4 y5 y6 y7 y8 y9 y10 := by
  obtain ⟨b, T, p, R, bag1, e1, g, hb1⟩ := drawn_ok hb
  have hzR := g.rl
  have hzT := g.tl
  obtain ⟨l, f, h1, h2, e2, e3⟩ := least_both g.g (by have := g.b2; omega) (by have := g.p2; omega) (by omega) (by omega)
  have hr := g.thing.repr
  have ha : d__law_alike [some (.dat (form l (leastT T l) f (leastR R f))), some (.dat (form l (leastT T l) f (leastR R f)))] = .ret (.dat (.bool true)) [none, none] := by
    rw [alike_form (g.least h1 h2).thing (g.least h1 h2).thing]
    simp
  -- twice
  obtain ⟨ρ2, f1, x6, rfl, hx6⟩ := forD_inv (γ := gSet 6) (ψ := p_law_1) (I := fun _ ρ => ∃ x6, ρ = e23l S bag1 c2 (some (.dat (form b T p R))) (some (.dat (form l (leastT T l) f (leastR R f)))) (some (.dat (.str (form b T p R).shown))) x6 c7 c8 c9 c10 ∧ Cl x6) (ds := rangeL 0 2)
    (ρ := e23l S bag1 c2 (some (.dat (form b T p R))) (some (.dat (form l (leastT T l) f (leastR R f)))) (some (.dat (.str (form b T p R).shown))) c6 c7 c8 c9 c10) ⟨c6, rfl, hc.h6⟩ (fun d r ρ ⟨x6, e, hx⟩ => by
      subst e
      exact ⟨e23l S bag1 c2 (some (.dat (form b T p R))) (some (.dat (form l (leastT T l) f (leastR R f)))) (some (.dat (.str (form b T p R).shown))) (some (.dat d)) c7 c8 c9 c10, _, by simp [e23l, hx.cs], .inl (l1_turn S bag1 c2 _ c7 c8 c9 c10 e3 ha hr), _, rfl, .dat _⟩)
  -- the numbers
  obtain ⟨v, bag2, e4, v0, v1, hb2⟩ := tk_ok hb1 (m := 24) (by decide) (by decide)
  obtain ⟨ρ3, f2, _, x7, rfl, hx7⟩ := forD_inv (γ := gSet 7) (ψ := p_law_2) (I := fun rem ρ => (∀ d ∈ rem, ∃ n : Int, d = .int n ∧ 0 ≤ n) ∧ ∃ x7, ρ = e23l S bag2 c2 (some (.dat (form b T p R))) (some (.dat (form l (leastT T l) f (leastR R f)))) (some (.dat (.str (form b T p R).shown))) x6 x7 c8 c9 c10 ∧ Cl x7) (ds := nums v)
    (ρ := e23l S bag2 c2 (some (.dat (form b T p R))) (some (.dat (form l (leastT T l) f (leastR R f)))) (some (.dat (.str (form b T p R).shown))) x6 c7 c8 c9 c10) ⟨nums_nat v0, c7, rfl, hc.h7⟩ (fun d r ρ ⟨hd, x7, e, hx⟩ => by
      subst e
      obtain ⟨n, rfl, hn⟩ := hd _ List.mem_cons_self
      exact ⟨e23l S bag2 c2 (some (.dat (form b T p R))) (some (.dat (form l (leastT T l) f (leastR R f)))) (some (.dat (.str (form b T p R).shown))) x6 (some (.dat (.int n))) c8 c9 c10, _, by simp [e23l, hx.cs], .inl (l2_turn S bag2 _ c2 x6 c8 c9 c10 g.g h1 h2 hn), fun d hd' => hd d (List.mem_cons_of_mem _ hd'), _, rfl, .dat _⟩)
  -- the things
  obtain ⟨xs, ρ4, e5, ⟨bag3, rfl, hb3⟩, hlx, hxs⟩ := lcD_inv (vs := [11]) (γ := gSet 11) (τ := xYes) (φ := p_law_3) (P := Thing) (I := fun ρ => ∃ bag, ρ = e23l S bag c2 (some (.dat (form b T p R))) (some (.dat (form l (leastT T l) f (leastR R f)))) (some (.dat (.str (form b T p R).shown))) x6 x7 c8 c9 c10 ∧ BagOk bag) (ds := rangeL 0 5)
    (ρ := e23l S bag2 c2 (some (.dat (form b T p R))) (some (.dat (form l (leastT T l) f (leastR R f)))) (some (.dat (.str (form b T p R).shown))) x6 x7 c8 c9 c10) ⟨bag2, rfl, hb2⟩ (fun d _ ρ ⟨bag, e, hb⟩ => by
      subst e
      exact lb_turn hb g h1 h2 S _ d c2 x6 x7 c8 c9 c10)
  obtain ⟨ρ5, f3, _, x8, x9, x10, rfl, hx8, hx9, hx10⟩ := forD_inv (γ := gSet 8) (ψ := p_law_4) (I := fun rem ρ => (∀ d ∈ rem, Thing d) ∧ ∃ x8 x9 x10, ρ = e23l S bag3 c2 (some (.dat (form b T p R))) (some (.dat (form l (leastT T l) f (leastR R f)))) (some (.dat (.str (form b T p R).shown))) x6 x7 x8 x9 x10 ∧ Cl x8 ∧ Cl x9 ∧ Cl x10) (ds := [form b T p R, form l (leastT T l) f (leastR R f)] ++ xs)
    (ρ := e23l S bag3 c2 (some (.dat (form b T p R))) (some (.dat (form l (leastT T l) f (leastR R f)))) (some (.dat (.str (form b T p R).shown))) x6 x7 c8 c9 c10) ⟨fun d hd => by
      rcases List.mem_append.mp hd with q | q
      · simp only [List.mem_cons, List.not_mem_nil, or_false] at q
        rcases q with rfl | rfl
        · exact g.thing
        · exact (g.least h1 h2).thing
      · exact hxs d q, c8, c9, c10, rfl, hc.h8, hc.h9, hc.h10⟩ (fun d r ρ ⟨hd, x8, x9, x10, e, q8, q9, q10⟩ => by
      subst e
      obtain ⟨y9, y10, z9, z10, ht⟩ := l4_turn (hd _ List.mem_cons_self) S bag3 (form b T p R) (form l (leastT T l) f (leastR R f)) (.str (form b T p R).shown) c2 x6 x7 x9 x10 q9 q10
      exact ⟨e23l S bag3 c2 (some (.dat (form b T p R))) (some (.dat (form l (leastT T l) f (leastR R f)))) (some (.dat (.str (form b T p R).shown))) x6 x7 (some (.dat d)) x9 x10, _, by simp [e23l, q8.cs], .inl ht, fun d hd' => hd d (List.mem_cons_of_mem _ hd'), some (.dat d), y9, y10, rfl, .dat _, z9, z10⟩)
  refine ⟨bag3, some (.dat (form b T p R)), some (.dat (form l (leastT T l) f (leastR R f))), some (.dat (.str (form b T p R).shown)), x6, x7, x8, x9, x10, ?_, hb3, ⟨.dat _, .dat _, .dat _, hx6, hx7, hx8, hx9, hx10⟩⟩
  have r2 : gRange1 [.int 2] = some (rangeL 0 2) := gRange1_ok (by decide)
  have r5 : gRange1 [.int 5] = some (rangeL 0 5) := gRange1_ok (by decide)
  have r26 : gRgn1 (.int 26) = some (rangeL 0 26) := gRgn1_ok (by decide)
  have y5 : (rangeL 0 5).length ≤ 16777216 := by rw [rangeL_len]; decide
  have q1 : gPow (.int 10) (.int 40) = some (.int (10 ^ 40)) := gPow_nat (by decide)
  have q2 : gAddA (.list (rangeL 0 26)) (.list [.int (10 ^ 40 + v), .int 999983]) = some (.list (nums v)) := gAddA_list (by rw [rangeL_len]; simp)
  have q3 : gAddA (.list [form b T p R, form l (leastT T l) f (leastR R f)]) (.list xs) = some (.list ([form b T p R, form l (leastT T l) f (leastR R f)] ++ xs)) := gAddA_list (by rw [hlx, rangeL_len]; simp)
  generalize [form b T p R, form l (leastT T l) f (leastR R f)] ++ xs = things at *
  generalize nums v = ns at *
  generalize (10 : Int) ^ 40 = big at *
  generalize form l (leastT T l) f (leastR R f) = L at *
  generalize form b T p R = s at *
  generalize rangeL 0 26 = w26 at *
  generalize rangeL 0 5 = w5 at *
  generalize rangeL 0 2 = w2 at *
  unfold e23l at *
  unfold p_law_5
  simp [e1, e2, hr, hc.h3.cs, hc.h4.cs, hc.h5.cs, r2, r5, r26, y5, f1, q1, e4, q2, f2, e5, q3, f3, wipeE, unwipe, datOnly]
theorem good (ns : List Int) (h : ns.length ≤ 63) : ∃ ρb, d_law [some (.dat (.list (ns.map .int)))] = .ret (.dat (.bool true)) ρb := by
  have hb : d__law_bag [some (.dat (.list (ns.map .int)))] = .ret (.own (bagD 0 1234567891 0 (ns.map absI))) [none] := bag_ok h
  have b0 := BagOk.start h
  generalize bagD 0 1234567891 0 (ns.map absI) = bag0 at hb b0
  generalize PyData.list (ns.map .int) = S at hb
  have r8 : gRange1 [.int 8] = some (rangeL 0 8) := gRange1_ok (by decide)
  obtain ⟨ρ1, loop, bag1, x2, x3, x4, x5, x6, x7, x8, x9, x10, rfl, b1, c2, hc⟩ := forD_inv (γ := gSet 2) (ψ := p_law_5) (I := fun _ ρ => ∃ bag x2 x3 x4 x5 x6 x7 x8 x9 x10, ρ = e23l S bag x2 x3 x4 x5 x6 x7 x8 x9 x10 ∧ BagOk bag ∧ Cl x2 ∧ Cs x3 x4 x5 x6 x7 x8 x9 x10) (ds := rangeL 0 8) (ρ := e23l S bag0 none none none none none none none none none)
    ⟨bag0, none, none, none, none, none, none, none, none, none, rfl, b0, .none, ⟨.none, .none, .none, .none, .none, .none, .none, .none⟩⟩ (by
    rintro d r ρ ⟨bag, x2, x3, x4, x5, x6, x7, x8, x9, x10, rfl, b, c2, hc⟩
    obtain ⟨bag', y3, y4, y5, y6, y7, y8, y9, y10, e, b', hc'⟩ := turn_ok b S (some (.dat d)) hc
    exact ⟨e23l S bag (some (.dat d)) x3 x4 x5 x6 x7 x8 x9 x10, _, by simp [e23l, c2.cs], .inl e, bag', some (.dat d), y3, y4, y5, y6, y7, y8, y9, y10, rfl, b', .dat _, hc'⟩)
  unfold e23l at loop
  generalize rangeL 0 8 = w8 at *
  unfold d_law
  rw [ev_fnD]
  simp [hb, r8, loop]
end K23


open PySem PySem.W PyProof.Rows
set_option maxHeartbeats 0 in
theorem PySem.Challenge.cw_onceorlater_k23_size_sets_least_holds : PySem.Challenge.rw_onceorlater_k23_size_sets_least.Holds := by
  w_on; o_law; k_head; (case hw => w_witness2)
  k_fill
  refine DL.law_walk (l := PySem.Challenge.rw_onceorlater_k23_size_sets_least) (n := 63) (k := 5) (x := "script") (φ := K23.d_law) rfl (by decide) rfl ⟨rfl, by decide, by decide⟩ (fun w h Y => PySem.W.kIn_of Y) ?F K23.good
  case F =>
    intro w mg fa h KX G hmg
    refine' K23.all_mk KX G hmg ?a1 ?l1 ?c1 ?k1 ?a2 ?l2 ?c2 ?k2 ?a3 ?l3 ?c3 ?k3 ?a4 ?l4 ?c4 ?k4 ?a5 ?l5 ?c5 ?k5 ?a6 ?l6 ?c6 ?k6 ?a7 ?l7 ?c7 ?k7 ?a8 ?l8 ?c8 ?k8 ?a9 ?l9 ?c9 ?k9 ?a10 ?l10 ?c10 ?k10 ?a11 ?l11 ?c11 ?k11 ?a12 ?l12 ?c12 ?k12 ?a13 ?l13 ?c13 ?k13 ?a14 ?l14 ?c14 ?k14 ?a15 ?l15 ?c15 ?k15 ?a16 ?l16 ?c16 ?k16 ?a17 ?l17 ?c17 ?k17 ?a18 ?l18 ?c18 ?k18 ?a19 ?l19 ?c19 ?k19 ?a20 ?l20 ?c20 ?k20 ?z1 ?z2 ?z3 ?z4 ?z5 ?z6 ?z7 ?z8 ?z9 ?z10 ?z11 ?z12 ?z13 ?z14
    (case a1 => k_is); (case l1 => k_is); (case c1 => k_is); (case k1 => k_is); (case a2 => k_is); (case l2 => k_is); (case c2 => k_is); (case k2 => k_is); (case a3 => k_is); (case l3 => k_is); (case c3 => k_is); (case k3 => k_is); (case a4 => k_is); (case l4 => k_is); (case c4 => k_is); (case k4 => k_is); (case a5 => k_is); (case l5 => k_is); (case c5 => k_is); (case k5 => k_is); (case a6 => k_is); (case l6 => k_is); (case c6 => k_is); (case k6 => k_is); (case a7 => k_is); (case l7 => k_is); (case c7 => k_is); (case k7 => k_is); (case a8 => k_is); (case l8 => k_is); (case c8 => k_is); (case k8 => k_is); (case a9 => k_is); (case l9 => k_is); (case c9 => k_is); (case k9 => k_is); (case a10 => k_is); (case l10 => k_is); (case c10 => k_is); (case k10 => k_is); (case a11 => k_is); (case l11 => k_is); (case c11 => k_is); (case k11 => k_is); (case a12 => k_is); (case l12 => k_is); (case c12 => k_is); (case k12 => k_is); (case a13 => k_is); (case l13 => k_is); (case c13 => k_is); (case k13 => k_is); (case a14 => k_is); (case l14 => k_is); (case c14 => k_is); (case k14 => k_is); (case a15 => k_is); (case l15 => k_is); (case c15 => k_is); (case k15 => k_is); (case a16 => k_is); (case l16 => k_is); (case c16 => k_is); (case k16 => k_is); (case a17 => k_is); (case l17 => k_is); (case c17 => k_is); (case k17 => k_is); (case a18 => k_is); (case l18 => k_is); (case c18 => k_is); (case k18 => k_is); (case a19 => k_is); (case l19 => k_is); (case c19 => k_is); (case k19 => k_is); (case a20 => k_is); (case l20 => k_is); (case c20 => k_is); (case k20 => k_is); (case z1 => k_is); (case z2 => k_is); (case z3 => k_is); (case z4 => k_is); (case z5 => k_is); (case z6 => k_is); (case z7 => k_is); (case z8 => k_is); (case z9 => k_is); (case z10 => k_is); (case z11 => k_is); (case z12 => k_is); (case z13 => k_is); (case z14 => k_is)

